import PyProof.Rows.All
import Wide.All
import OpenK.AllK
import Wide.FinOn
import HandS.ForMost
import HandS.TupAny
import HandS.More
import HandS.Style
import HandS.Conv
import HandS.Codes
import HandS.FStr
import HandS.IsInst
import HandS.Strs
import HandS.Replace
import HandS.Walk
import HandS.Dict
import HandS.Flow
import HandS.Iter
import HandS.MakeKwOnly
import HandS.Exc
import HandS.ExcOwn
import HandS.ExcInit
import HandS.ExcField
import HandS.ExcIs
import HandS.WordsExc
import HandS.TryOnly
import KE.KExcIs
import PyProof.Rows.StrIntSpec
import HandS.Set
import HandS.SetKeys
import HandS.TupSets
import HandS.ForDict
import HandS.DictComp
import PySem.Challenge.RW_layerwharf_k06_registry_answers
set_option Elab.async false
set_option maxRecDepth 100000
set_option maxHeartbeats 4000000
set_option linter.all false
/-! ## words of our own, for every law -/
namespace Lw
open PySem L2
open PyProof.Rows (envOfC)

/-! ### what calls what -/
structure Cal (P : Program) (w : World) (K : PySem.W.Frag) (mg : Str → Option Value) (base : Heap) (k : Nat) (x : Str) (sp : Sp) : Prop where
  ex : ∃ (f : Addr) (fd : FuncData) (ps : List Str), FnOk P w K mg base CX0 k f fd ps sp ∧ mg x = some (.ref f) ∧ PySem.W.keepIn K (.ref f) = true ∧ Binds K fd ps []
structure Met (P : Program) (w : World) (K : PySem.W.Frag) (mg : Str → Option Value) (base : Heap) (k : Nat) (C : Addr) (m : Str) (sp : Sp) : Prop where
  ex : ∃ (f : Addr) (fd : FuncData) (ps : List Str), Cls K C ∧ Meth K C m f ∧ FnOk P w K mg base CX0 k f fd ps sp ∧ Binds K fd ps []
structure Mak (P : Program) (w : World) (K : PySem.W.Frag) (mg : Str → Option Value) (base : Heap) (k : Nat) (x : Str) (C : Addr) (sp : Sp) : Prop where
  ex : ∃ (f : Addr) (fd : FuncData) (ps : List Str), Mk K C f ∧ FnOk P w K mg base CX0 k f fd ps sp ∧ mg x = some (.ref C) ∧ Binds K fd ps []
/-- a def of the module -/
structure DefAt (K : PySem.W.Frag) (mg : Str → Option Value) (x : Str) (st : Stmt) (ps : List Str) : Prop where
  ex : ∃ (f : Addr) (fd : FuncData), Fun K x x st f fd ∧ mg x = some (.ref f) ∧ Binds K fd ps []
/-- a method of a class -/
structure MetAt (K : PySem.W.Frag) (C : Addr) (m qual : Str) (st : Stmt) (ps : List Str) : Prop where
  ex : ∃ (f : Addr) (fd : FuncData), Fun K m qual st f fd ∧ Meth K C m f ∧ Binds K fd ps []
/-- a class's __init__ -/
structure IniAt (K : PySem.W.Frag) (mg : Str → Option Value) (x : Str) (C : Addr) (qual : Str) (st : Stmt) (ps : List Str) : Prop where
  ex : ∃ (f : Addr) (fd : FuncData), Fun K "__init__" qual st f fd ∧ Mk K C f ∧ mg x = some (.ref C) ∧ Binds K fd ps []
/-- .. with keyword-only parameters ks, n other ones -/
structure IniKw (K : PySem.W.Frag) (mg : Str → Option Value) (x : Str) (C : Addr) (qual : Str) (st : Stmt) (ps : List Str) (n : Nat) (ks : List Str) : Prop where
  ex : ∃ (f : Addr) (fd : FuncData), Fun K "__init__" qual st f fd ∧ Mk K C f ∧ mg x = some (.ref C) ∧ KBn K fd ps n ks (fun us ws => us ++ ws) (fun vs zs => vs ++ zs)
structure MakK (P : Program) (w : World) (K : PySem.W.Frag) (mg : Str → Option Value) (base : Heap) (k : Nat) (x : Str) (C : Addr) (n : Nat) (ks : List Str) (sp : Sp) : Prop where
  ex : ∃ (f : Addr) (fd : FuncData) (ps : List Str), Mk K C f ∧ FnOk P w K mg base CX0 k f fd ps sp ∧ mg x = some (.ref C) ∧ KBn K fd ps (n + 1) ks (fun us ws => us ++ ws) (fun vs zs => vs ++ zs)
section
variable {P : Program} {w : World} {K : PySem.W.Frag} {mg : Str → Option Value} {base : Heap}
theorem makK_mk {x qual : Str} {C : Addr} {st : Stmt} {N ps ks : List Str} {n k : Nat} {sp : Sp} (D : IniKw K mg x C qual st ps (n + 1) ks) (S : FnScope N ps (defScope st)) (len : ∀ vs H Q E, sp vs H Q E → vs.length = ps.length)
    (hbody : ∀ (f : Addr) (cdv : Value) (A : Around) (outer : List Env) (s : Shared) (H : Hp) (vs : List V) (Q : VK) (E : XK), Room k (A.deeper (envOfC qual (defScope st) s.heap.objs.size f cdv)) → sp vs H Q E →
      ∃ t, PSs (cxOf CX0 P w K mg base N qual (defScope st) f cdv A outer s H E).nox (defBody st) t ∧ t { nx := fun _ H' => Q .non H', rt := Q } (start N vs) H) : MakK P w K mg base (k + 1) x C n ks sp := by
  obtain ⟨f, fd, F, M, hm, hb⟩ := D.ex
  exact ⟨f, fd, ps, M, F.ok S len fun cdv A outer s H vs Q E hr h => hbody f cdv A outer s H vs Q E hr h, hm, hb⟩
theorem cal_mk {x : Str} {st : Stmt} {N ps : List Str} {k : Nat} {sp : Sp} (D : DefAt K mg x st ps) (S : FnScope N ps (defScope st)) (len : ∀ vs H Q E, sp vs H Q E → vs.length = ps.length)
    (hbody : ∀ (f : Addr) (cdv : Value) (A : Around) (outer : List Env) (s : Shared) (H : Hp) (vs : List V) (Q : VK) (E : XK), Room k (A.deeper (envOfC x (defScope st) s.heap.objs.size f cdv)) → sp vs H Q E →
      ∃ t, PSs (cxOf CX0 P w K mg base N x (defScope st) f cdv A outer s H E).nox (defBody st) t ∧ t { nx := fun _ H' => Q .non H', rt := Q } (start N vs) H) : Cal P w K mg base (k + 1) x sp := by
  obtain ⟨f, fd, F, hm, hb⟩ := D.ex
  exact ⟨f, fd, ps, F.ok S len fun cdv A outer s H vs Q E hr h => hbody f cdv A outer s H vs Q E hr h, hm, F.kp, hb⟩
theorem met_mk {m qual : Str} {C : Addr} {st : Stmt} {N ps : List Str} {k : Nat} {sp : Sp} (c : Cls K C) (D : MetAt K C m qual st ps) (S : FnScope N ps (defScope st)) (len : ∀ vs H Q E, sp vs H Q E → vs.length = ps.length)
    (hbody : ∀ (f : Addr) (cdv : Value) (A : Around) (outer : List Env) (s : Shared) (H : Hp) (vs : List V) (Q : VK) (E : XK), Room k (A.deeper (envOfC qual (defScope st) s.heap.objs.size f cdv)) → sp vs H Q E →
      ∃ t, PSs (cxOf CX0 P w K mg base N qual (defScope st) f cdv A outer s H E).nox (defBody st) t ∧ t { nx := fun _ H' => Q .non H', rt := Q } (start N vs) H) : Met P w K mg base (k + 1) C m sp := by
  obtain ⟨f, fd, F, hm, hb⟩ := D.ex
  exact ⟨f, fd, ps, c, hm, F.ok S len fun cdv A outer s H vs Q E hr h => hbody f cdv A outer s H vs Q E hr h, hb⟩
theorem mak_mk {x qual : Str} {C : Addr} {st : Stmt} {N ps : List Str} {k : Nat} {sp : Sp} (D : IniAt K mg x C qual st ps) (S : FnScope N ps (defScope st)) (len : ∀ vs H Q E, sp vs H Q E → vs.length = ps.length)
    (hbody : ∀ (f : Addr) (cdv : Value) (A : Around) (outer : List Env) (s : Shared) (H : Hp) (vs : List V) (Q : VK) (E : XK), Room k (A.deeper (envOfC qual (defScope st) s.heap.objs.size f cdv)) → sp vs H Q E →
      ∃ t, PSs (cxOf CX0 P w K mg base N qual (defScope st) f cdv A outer s H E).nox (defBody st) t ∧ t { nx := fun _ H' => Q .non H', rt := Q } (start N vs) H) : Mak P w K mg base (k + 1) x C sp := by
  obtain ⟨f, fd, F, M, hm, hb⟩ := D.ex
  exact ⟨f, fd, ps, M, F.ok S len fun cdv A outer s H vs Q E hr h => hbody f cdv A outer s H vs Q E hr h, hm, hb⟩
end
section
variable {X : Cx} {x m : Str} {C : Addr} {sp : Sp} {k j : Nat} {e o : Expr} {es : List Expr} {p pos apos : Pos} {ta : TE} {t : TA}
theorem pe_c (c : Cal X.prog X.w X.K X.mg X.base k x sp) (hr : Room j X.A) (hk : k ≤ j) (hg : Gl X x) (ha : PA X (e :: es) t)
    (hdb : (x == ("__debug__" : Str)) = false := by decide) (he : starEach (e :: es) X.env = (false, eval e X.env) :: starEach es X.env := by rfl) (hpl : (backTo pos (starEach es X.env)).any (·.1) = false := by rfl) :
    PE X (.Call (.Name x p) (e :: es) [] pos) (tCall sp [] E0 t) := by
  obtain ⟨f, fd, ps, F, hm, kp, b⟩ := c.ex
  exact pe_call F (hr.mono hk) hg hm kp b .nil pass0 ha hdb he hpl
theorem pe_mk (c : Mak X.prog X.w X.K X.mg X.base k x C sp) (hr : Room j X.A) (hk : k + 1 ≤ j) (hg : Gl X x) (ha : PA X (e :: es) t)
    (hdb : (x == ("__debug__" : Str)) = false := by decide) (he : starEach (e :: es) X.env = (false, eval e X.env) :: starEach es X.env := by rfl) (hpl : (backTo pos (starEach es X.env)).any (·.1) = false := by rfl) :
    PE X (.Call (.Name x p) (e :: es) [] pos) (tMake C sp [] E0 t) := by
  obtain ⟨f, fd, ps, M, F, hm, b⟩ := c.ex
  exact pe_make M F (hr.mono hk) hg hm b .nil pass0 ha hdb he hpl
theorem pe_mk0 (c : Mak X.prog X.w X.K X.mg X.base k x C sp) (hr : Room j X.A) (hk : k + 1 ≤ j) (hg : Gl X x) (hdb : (x == ("__debug__" : Str)) = false := by decide) :
    PE X (.Call (.Name x p) [] [] pos) (tMake C sp [] E0 tNil) := by
  obtain ⟨f, fd, ps, M, F, hm, b⟩ := c.ex
  exact pe_make0 M F (hr.mono hk) hg hm b .nil pass0 hdb
theorem pe_mkK {n : Nat} {ks : List Str} {kws : List Keyword} {tk : TA} (c : MakK X.prog X.w X.K X.mg X.base k x C n ks sp) (hr : Room j X.A) (hk : k + 1 ≤ j) (hg : Gl X x) (ha : PA X (e :: es) t) (hkw : PK X kws tk)
    (hall : (backToKw pos (keywordEach kws X.env)).all (·.1.isSome) = true := by rfl) (hks : (backToKw pos (keywordEach kws X.env)).filterMap (·.1) = ks := by rfl) (hdb : (x == ("__debug__" : Str)) = false := by decide)
    (he : starEach (e :: es) X.env = (false, eval e X.env) :: starEach es X.env := by rfl) (hpl : ((backTo pos (starEach (e :: es) X.env)).any (·.1) || (backToKw pos (keywordEach kws X.env)).any (·.1.isNone)) = false := by rfl) :
    PE X (.Call (.Name x p) (e :: es) kws pos) (tMakeK C n ks.length sp (fun vs zs => vs ++ zs) E0 t tk) := by
  obtain ⟨f, fd, ps, M, F, hm, b⟩ := c.ex
  exact pe_makeK M F (hr.mono hk) hg hm b pass0 ha hkw hall hks hdb he hpl
theorem pe_mt {pl : Sem Bool} (c : Met X.prog X.w X.K X.mg X.base k C m sp) (hr : Room j X.A) (hk : k ≤ j) (he : PE X o ta) (ha : PA X (e :: es) t)
    (hst : starEach (e :: es) X.env = (false, eval e X.env) :: starEach es X.env := by rfl) (hpl : (backTo pos (starEach es X.env)).any (·.1) = false := by rfl)
    (ht : eval (.Call (.Attribute o m apos) (e :: es) [] pos) X.env = (do
      let ov ← eval o X.env
      standAt apos.atName
      let (f, first) ← holding [ov] (getMethod ov m pl)
      callWith pos f first (backTo pos (starEach (e :: es) X.env)) (backToKw pos (keywordEach [] X.env))) := by rfl) :
    PE X (.Call (.Attribute o m apos) (e :: es) [] pos) (tMeth C m sp [] E0 ta t) := by
  obtain ⟨f, fd, ps, hc, hm, F, b⟩ := c.ex
  exact pe_meth (pl := pl) he hc hm F (hr.mono hk) b .nil pass0 ha hst hpl ht
theorem pe_mt0 {pl : Sem Bool} (c : Met X.prog X.w X.K X.mg X.base k C m sp) (hr : Room j X.A) (hk : k ≤ j) (he : PE X o ta)
    (ht : eval (.Call (.Attribute o m apos) [] [] pos) X.env = (do
      let ov ← eval o X.env
      standAt apos.atName
      let (f, first) ← holding [ov] (getMethod ov m pl)
      callWith pos f first (backTo pos (starEach [] X.env)) (backToKw pos (keywordEach [] X.env))) := by rfl) :
    PE X (.Call (.Attribute o m apos) [] [] pos) (tMeth C m sp [] E0 ta tNil) := by
  obtain ⟨f, fd, ps, hc, hm, F, b⟩ := c.ex
  exact pe_meth0 (pl := pl) he hc hm F (hr.mono hk) b .nil pass0 ht
theorem pe_gc {v : V} (hg : Gl X x) (h : ∃ u, X.mg x = some u ∧ RelV v u) (hd : (x == ("__debug__" : Str)) = false := by decide) : PE X (.Name x pos) (tC v) := by
  obtain ⟨u, hm, r⟩ := h
  exact pe_glob hg hm r hd
end

theorem _root_.L2.Same.new {H : Hp} {p : Addr} {o : HO} (h : H p = none) : Same H (upd H p o) := fun b u e => by rw [upd_ne (ne_of_none e h)]; exact e
theorem _root_.L2.Same.seqT {K : PySem.W.Frag} {H H' : Hp} {a : Addr} {xs : List V} (e : Same H H') (h : SqT K H a xs) : SqT K H' a xs := by
  rcases h with (h | ⟨o, h⟩) | h
  · exact .inl (.inl (e _ _ h))
  · exact .inl (.inr ⟨o, e _ _ h⟩)
  · exact .inr h
theorem _root_.L2.Same.thenNew {H H' : Hp} {p : Addr} {o : HO} (s : Same H H') (h : H' p = none) : Same H (upd H' p o) := s.trans (Same.new h)
/-- a list that a def made for itself grows -/
theorem _root_.L2.Same.grow {H H' : Hp} {p : Addr} {o : HO} (s : Same H H') (h : H p = none) : Same H (upd H' p o) := fun b u e => by
  rw [upd_ne (ne_of_none e h)]
  exact s b u e

theorem ix_tupK {X : Cx} (K : PySem.W.Frag) (h : X.K = K) : IxR X (rIxT K) := by subst h; exact ix_tup
theorem ix_listK {X : Cx} (K : PySem.W.Frag) (h : X.K = K) : IxR X (rIxL K) := by subst h; exact ix_list
/-! ### steps through a reading -/
def rStr (x : V) (A : Prop) : Prop := (∃ a, x = .str a) ∧ A
def rCatS : R2 := fun x y H Q => ∃ i j, x = .str i ∧ y = .str j ∧ i.length + j.length ≤ sizeLine ∧ Q (.str (i ++ j)) H
theorem op_cat_str {X : Cx} : OpR X (binaryOp .Add) rCatS := op_add_str
def rInt1 : List V → Hp → VK → Prop := fun xs H Q => (∃ i, xs = [.int i] ∧ Q (.int i) H) ∨ ∃ k, xs = [.bl k] ∧ Q (.int (if k then 1 else 0)) H
theorem call_int1' {X : Cx} : CallR X (.type "int") rInt1 := call_int1
def rLenQ (K : PySem.W.Frag) : List V → Hp → VK → Prop := fun xs H Q => ∃ p ys, xs = [.ref p] ∧ (SqL K H p ys ∨ SqT K H p ys) ∧ Q (.int ys.length) H
theorem call_len_seq' {X : Cx} : CallR X (.builtin "len") (rLenQ X.K) := call_len_seq
def rLenT : List V → Hp → VK → Prop := fun xs H Q => ∃ z, xs = [.str z] ∧ z.length ≤ sizeLine ∧ Q (.int z.length) H
theorem call_len_str' {X : Cx} : CallR X (.builtin "len") rLenT := call_len_str
def rLenD : List V → Hp → VK → Prop := fun xs H Q => ∃ a kvs, xs = [V.ref a] ∧ H a = some (.dK kvs) ∧ Q (.int kvs.length) H
theorem call_lenD' {X : Cx} : CallR X (.builtin "len") rLenD := call_lenD
def rReprB : List V → Hp → VK → Prop := fun xs H Q => ∃ b, xs = [.bl b] ∧ Q (.str (if b then "True" else "False")) H
theorem call_repr_bool {X : Cx} : CallR X (.builtin "repr") rReprB := by
  intro pins s σ H xs us Q I r h
  obtain ⟨b, rfl, q⟩ := h
  obtain ⟨u, rfl, rx⟩ := vals1 r
  cases rx
  exact PySem.P.repr_of_bool ⟨.str _, H, I.tok _, ⟨_, rfl⟩, q⟩
def rInSg : R2 := fun x y H Q => ∃ (c : Nat) (z : Str), x = .str (SX.S [c]) ∧ y = .str z ∧ Q (.bl (decide (c ∈ z.cps.toList))) H
def rNotInSg : R2 := fun x y H Q => ∃ (c : Nat) (z : Str), x = .str (SX.S [c]) ∧ y = .str z ∧ Q (.bl (!decide (c ∈ z.cps.toList))) H
theorem op_inSg {X : Cx} : OpR X (compareOp .In) rInSg := op_in_sign
theorem op_notInSg {X : Cx} : OpR X (compareOp .NotIn) rNotInSg := op_notIn_sign
def rOrd : List V → Hp → VK → Prop := fun xs H Q => ∃ x, xs = [.str x] ∧ x.length = 1 ∧ Q (.int (x.cps.getD 0 0 : Nat)) H
theorem call_ord' {X : Cx} : CallR X (.builtin "ord") rOrd := call_ord
def rIsN : R2 := fun x y H Q => y = .non ∧ Q (.bl (decide (x = .non))) H
def rNotN : R2 := fun x y H Q => y = .non ∧ Q (.bl (!decide (x = .non))) H
theorem op_isN' {X : Cx} : OpR X (compareOp .Is) rIsN := op_isN
theorem op_notN' {X : Cx} : OpR X (compareOp .IsNot) rNotN := op_notN
section
variable {σ : St} {H : Hp} {Q : VK} {K : PySem.W.Frag} {D : Ends} {ta tb te : TE} {tl : TA} {t u : TS} {c d : TT} {i : Nat} {v : V} {g : TG} {r : R2} {b : Bool}
theorem g_var (h : σ[i]? = some (some v)) (k : Q v H) : tVar i σ H Q := ⟨v, h, k⟩
theorem g_c (k : Q v H) : tC v σ H Q := k
theorem g_op (k : ta σ H fun x H1 => tb σ H1 fun y H2 => r x y H2 Q) : tOp r ta tb σ H Q := k
theorem g_I0 {f : Int → Int → V} {a b : Int} (k : Q (f a b) H) : rI0 f (.int a) (.int b) H Q := ⟨a, b, rfl, rfl, k⟩
theorem g_I {C : Int → Int → Prop} {f : Int → Int → V} {a b : Int} (h : C a b) (k : Q (f a b) H) : rI C f (.int a) (.int b) H Q := ⟨a, b, rfl, rfl, h, k⟩
theorem g_eq {x y : V} (h : scal x y = true) (k : Q (.bl (decide (x = y))) H) : rEq x y H Q := ⟨h, k⟩
theorem g_ne {x y : V} (h : scal x y = true) (k : Q (.bl (!decide (x = y))) H) : rNe x y H Q := ⟨h, k⟩
theorem g_nil {Q : List V → Hp → Prop} (k : Q [] H) : tNil σ H Q := k
theorem g_cons {Q : List V → Hp → Prop} (k : ta σ H fun x H1 => tl σ H1 fun xs H2 => Q (x :: xs) H2) : tCons ta tl σ H Q := k
theorem g_cb {r : List V → Hp → VK → Prop} (k : tl σ H fun vs H1 => r vs H1 Q) : tCB r tl σ H Q := k
theorem g_call {sp : Sp} {dvs : List V} {E : XK} (k : tl σ H fun vs H1 => sp (vs ++ dvs) H1 Q E) : tCall sp dvs E tl σ H Q := k
theorem g_test {Q : Bool → Hp → Prop} (k : te σ H fun x H1 => ∃ z, x = .bl z ∧ Q z H1) : tTest te σ H Q := k
theorem g_B {Q : Bool → Hp → Prop} (k : te σ H fun x H1 => ∃ z, x = .bl z ∧ Q z H1) : tB te σ H Q := k
theorem g_exb {Q : Bool → Prop} (k : Q b) : ∃ z, V.bl b = .bl z ∧ Q z := ⟨b, rfl, k⟩
theorem g_not {Q : Bool → Hp → Prop} (k : c σ H fun b H1 => Q (!b) H1) : tNot c σ H Q := k
theorem g_and {Q : Bool → Hp → Prop} (k : c σ H fun b H1 => if b = true then d σ H1 Q else Q false H1) : tAnd c d σ H Q := k
theorem g_or {Q : Bool → Hp → Prop} (k : c σ H fun b H1 => if b = true then Q true H1 else d σ H1 Q) : tOr c d σ H Q := k
/-- what follows holds of any new place with o -/
def New (o : HO) (H : Hp) (Q : Addr → Hp → Prop) : Prop := ∀ p H', H p = none → Same H H' → H' p = some o → Q p H'
theorem New.to {o : HO} {Q : Addr → Hp → Prop} (k : New o H Q) : ∀ p, H p = none → Q p (upd H p o) := fun p hp => k p _ hp (fun b u e => by rw [upd_ne (ne_of_none e hp)]; exact e) upd_same
theorem small100 {n : Nat} (h : n ≤ 100) : n ≤ sizeLine := Nat.le_trans h (by decide)
def kTup (Q : VK) (xs : List V) (H1 : Hp) : Prop := xs.length ≤ sizeLine ∧ ∀ p, H1 p = none → Q (.ref p) (upd H1 p (.tup xs))
def kLst (Q : VK) (xs : List V) (H1 : Hp) : Prop := xs.length ≤ sizeLine ∧ ∀ p, H1 p = none → Q (.ref p) (upd H1 p (.lst xs))
theorem g_tup (k : tl σ H (kTup Q)) : tTup tl σ H Q := k
theorem g_lst (k : tl σ H (kLst Q)) : tLst tl σ H Q := k
/-- behind the items of a display -/
theorem g_ktup {xs : List V} (h : xs.length ≤ 100) (k : ∀ p H', H p = none → Same H H' → H' p = some (.tup xs) → Q (.ref p) H') : kTup Q xs H := ⟨small100 h, New.to (Q := fun p H' => Q (.ref p) H') k⟩
theorem g_klst {xs : List V} (h : xs.length ≤ 100) (k : ∀ p H', H p = none → Same H H' → H' p = some (.lst xs) → Q (.ref p) H') : kLst Q xs H := ⟨small100 h, New.to (Q := fun p H' => Q (.ref p) H') k⟩
theorem g_gcons {u : TGs} {v : V} {r : List V} {Q : St → Hp → Prop} (k : g v σ H fun σ' H' => u r σ' H' Q) : gCons g u (v :: r) σ H Q := ⟨v, r, rfl, k⟩
theorem g_gnil {Q : St → Hp → Prop} (k : Q σ H) : gNil [] σ H Q := ⟨rfl, k⟩
theorem g_gtup {K : PySem.W.Frag} {a : Addr} {xs : List V} {n : Nat} {u : TGs} {Q : St → Hp → Prop} (h : SqT K H a xs) (hn : xs.length = n) (k : u xs σ H Q) : gTup K n u (.ref a) σ H Q := ⟨a, xs, rfl, h, hn, k⟩
theorem _root_.L2.Same.at {H H' : Hp} {a : Addr} {o : HO} (s : Same H H') (h : H a = some o) : H' a = some o := s _ _ h
/-- x in (..), a display of flat values -/
theorem g_kinT {K : PySem.W.Frag} {x : V} {xs : List V} {b : Bool} (hl : xs.length ≤ 100) (hx : flatV x = true) (hs : xs.all flatV = true) (hb : inV x xs = b) (k : ∀ H', Same H H' → Q (.bl b) H') : kTup (fun y H2 => rIn K false x y H2 Q) xs H :=
  g_ktup hl fun p H' _ s h => ⟨p, xs, rfl, .inr (SqT.of h), hx, hs, by rw [hb]; exact k H' s⟩
theorem g_kninT {K : PySem.W.Frag} {x : V} {xs : List V} {b : Bool} (hl : xs.length ≤ 100) (hx : flatV x = true) (hs : xs.all flatV = true) (hb : inV x xs = b) (k : ∀ H', Same H H' → Q (.bl (!b)) H') : kTup (fun y H2 => rIn K true x y H2 Q) xs H :=
  g_ktup hl fun p H' _ s h => ⟨p, xs, rfl, .inr (SqT.of h), hx, hs, by rw [hb]; exact k H' s⟩
theorem g_kinL {K : PySem.W.Frag} {x : V} {xs : List V} {b : Bool} (hl : xs.length ≤ 100) (hx : flatV x = true) (hs : xs.all flatV = true) (hb : inV x xs = b) (k : ∀ H', Same H H' → Q (.bl b) H') : kLst (fun y H2 => rIn K false x y H2 Q) xs H :=
  g_klst hl fun p H' _ s h => ⟨p, xs, rfl, .inl (SqL.of h), hx, hs, by rw [hb]; exact k H' s⟩
theorem g_kninL {K : PySem.W.Frag} {x : V} {xs : List V} {b : Bool} (hl : xs.length ≤ 100) (hx : flatV x = true) (hs : xs.all flatV = true) (hb : inV x xs = b) (k : ∀ H', Same H H' → Q (.bl (!b)) H') : kLst (fun y H2 => rIn K true x y H2 Q) xs H :=
  g_klst hl fun p H' _ s h => ⟨p, xs, rfl, .inl (SqL.of h), hx, hs, by rw [hb]; exact k H' s⟩
theorem ifT {b : Bool} {A B : Prop} (h : b = true) (k : A) : if b = true then A else B := by rw [if_pos h]; exact k
theorem ifF {b : Bool} {A B : Prop} (h : b = false) (k : B) : if b = true then A else B := by subst h; exact iteF k
theorem g_catA {a b : Addr} {xs ys : List V} (ha : H a = some (.tup xs)) (hb : H b = some (.tup ys)) (h0 : xs ≠ []) (hl : xs.length + ys.length ≤ 100) (k : ∀ p H', Same H H' → H' p = some (.tup (xs ++ ys)) → Q (.ref p) H') : rCatA K (.ref a) (.ref b) H Q :=
  ⟨a, b, xs, ys, rfl, rfl, SqT.of ha, SqT.of hb, small100 hl, fun z => absurd z h0, fun _ z => k a H (Same.refl H) (by subst z; rw [List.append_nil]; exact ha), fun _ _ p hp => k p _ (fun b u e => by rw [upd_ne (ne_of_none e hp)]; exact e) upd_same⟩
theorem g_slA {a : Addr} {xs : List V} {lo hi : Option Int} (ha : H a = some (.tup xs)) (k : ∀ p H', Same H H' → H' p = some (.tup (cutV xs lo hi)) → Q (.ref p) H') : rSlA K (.ref a) lo hi H Q := by
  refine ⟨a, xs, rfl, SqT.of ha, fun z => k a H (Same.refl H) ?_, fun _ p hp => k p _ (fun b u e => by rw [upd_ne (ne_of_none e hp)]; exact e) upd_same⟩
  have e : cutV xs lo hi = xs := by
    unfold cutV
    rw [z.1, z.2, List.drop_zero, Nat.sub_zero, List.take_length]
  rw [e]; exact ha
theorem g_rslS {x : Str} {lo hi : Option Int} (h : x.length ≤ sizeLine) (k : Q (.str (Txt.slice x lo hi)) H) : C8.rSlX (.str x) lo hi H Q := ⟨x, rfl, h, k⟩
theorem g_ifx (k : c σ H fun b H1 => if b = true then ta σ H1 Q else tb σ H1 Q) : tIf c ta tb σ H Q := k
/-- a field read -/
def rFld (K : PySem.W.Frag) (f : Str) (x : V) (H : Hp) (Q : VK) : Prop := ∃ a C dx fs v, x = .ref a ∧ H a = some (.ins C dx fs) ∧ Cls K C ∧ NoAttr K C f ∧ fs.lookup f = some v ∧ Q v H
theorem g_fld {f : Str} (k : ta σ H fun x H1 => rFld K f x H1 Q) : tFld K ta f σ H Q := k
theorem g_rfld {f : Str} {a C dx : Addr} {fs : List (Str × V)} (h : H a = some (.ins C dx fs)) (hc : Cls K C) (hn : NoAttr K C f) (hl : fs.lookup f = some v) (k : Q v H) : rFld K f (.ref a) H Q := ⟨a, C, dx, fs, v, rfl, h, hc, hn, hl, k⟩
/-- a method called -/
def rMeth (C : Addr) (m : Str) (sp : Sp) (x : V) (tl : TA) (σ : St) (H : Hp) (Q : VK) : Prop := ∃ a dx fs, x = .ref a ∧ H a = some (.ins C dx fs) ∧ fs.lookup m = none ∧ tl σ H fun vs H2 => sp (x :: (vs ++ [])) H2 Q E0
def rSFld (K : PySem.W.Frag) (f : Str) (y x : V) (H : Hp) (Q : Hp → Prop) : Prop := ∃ a C dx fs, x = .ref a ∧ H a = some (.ins C dx fs) ∧ Cls K C ∧ NoAttr K C f ∧ fs.length < 1000 ∧ Q (upd H a (.ins C dx (putF f y fs)))
theorem g_sfld {f : Str} (k : tb σ H fun y H1 => ta σ H1 fun x H2 => rSFld K f y x H2 fun H3 => D.nx σ H3) : sFld K ta tb f D σ H := k
theorem g_rsfld {f : Str} {y : V} {a C dx : Addr} {fs : List (Str × V)} {Q : Hp → Prop} (h : H a = some (.ins C dx fs)) (hc : Cls K C) (hn : NoAttr K C f) (hl : fs.length < 1000) (k : ∀ H', H' a = some (.ins C dx (putF f y fs)) → (∀ b, b ≠ a → H' b = H b) → Q H') : rSFld K f y (.ref a) H Q :=
  ⟨a, C, dx, fs, rfl, h, hc, hn, hl, k _ upd_same fun b hb => upd_ne hb⟩
theorem g_meth {C : Addr} {m : Str} {sp : Sp} (k : ta σ H fun x H1 => rMeth C m sp x tl σ H1 Q) : tMeth C m sp [] E0 ta tl σ H Q := k
theorem g_rmeth {C a dx : Addr} {m : Str} {sp : Sp} {fs : List (Str × V)} (h : H a = some (.ins C dx fs)) (hl : fs.lookup m = none) (k : tl σ H fun vs H2 => sp (.ref a :: (vs ++ [])) H2 Q E0) : rMeth C m sp (.ref a) tl σ H Q := ⟨a, dx, fs, rfl, h, hl, k⟩
def rMake (C : Addr) (sp : Sp) (vs : List V) (H1 : Hp) (Q : VK) : Prop := ∀ x dx, H1 x = none → H1 dx = none → dx ≠ x → sp (.ref x :: (vs ++ [])) (upd (upd H1 dx (.own x)) x (.ins C dx [])) (fun v H2 => v = .non ∧ Q (.ref x) H2) E0
theorem g_make {C : Addr} {sp : Sp} (k : tl σ H fun vs H1 => rMake C sp vs H1 Q) : tMake C sp [] E0 tl σ H Q := k
/-- a list that is changed in its place -/
theorem g_append {l : Addr} {xs : List V} {y : V} (h : H l = some (.lst xs)) (hz : xs.length < 100000) (k : ∀ H', H' l = some (.lst (xs ++ [y])) → (∀ b, b ≠ l → H' b = H b) → Q .non H') : rAppend (.ref l) [y] H Q :=
  ⟨l, xs, y, rfl, rfl, h, Nat.lt_of_lt_of_le hz (by decide), k _ upd_same fun b hb => upd_ne hb⟩
theorem g_tyL {p : Addr} {xs : List V} {A : Prop} (h : H p = some (.lst xs)) (k : A) : tyV K "list" (.ref p) H ∧ A := ⟨.inl ⟨rfl, _, SqL.of h⟩, k⟩
theorem g_tyS {x : Str} {A : Prop} (k : A) : tyV K "str" (.str x) H ∧ A := ⟨rfl, k⟩
theorem g_tyA {p : Addr} {o : Obj} {A : Prop} (h : K.lookup p = some o) (h1 : o.cls = .type "tuple") (h2 : o.dict = none) (k : A) : tyV K "tuple" (.ref p) H ∧ A := ⟨Or.inr (Or.inl ⟨rfl, o, h, h1, h2⟩), k⟩
theorem g_popAt {l : Addr} {xs : List V} {i : Nat} {y : V} (h : H l = some (.lst xs)) (hi : xs[i]? = some y) (hz : xs.length < 100000) (k : ∀ H', H' l = some (.lst (xs.eraseIdx i)) → (∀ b, b ≠ l → H' b = H b) → Q y H') : rPopAt (.ref l) [.int (i : Int)] H Q := by
  have hl := (List.getElem?_eq_some_iff.mp hi).1
  refine ⟨l, xs, (i : Int), i, y, rfl, rfl, h, by omega, by omega, ?_, hi, k _ upd_same fun b hb => upd_ne hb⟩
  exact (ixN_seq (n := xs.length) (i := (i : Int)) (j := i) (by unfold ixN; rw [if_pos (by omega), if_pos (by omega), Int.toNat_natCast])).1
theorem g_rix {p : Addr} {xs : List V} {j : Int} (h : SqL K H p xs) (ha : atI xs j = some v) (k : Q v H) : rIxL K (.ref p) (.int j) H Q := ⟨p, xs, j, v, rfl, rfl, h, ha, k⟩
theorem g_rixT {p : Addr} {xs : List V} {j : Int} (h : SqT K H p xs) (ha : atI xs j = some v) (k : Q v H) : rIxT K (.ref p) (.int j) H Q := ⟨p, xs, j, v, rfl, rfl, h, ha, k⟩
theorem g_sl {r : V → Option Int → Option Int → Hp → VK → Prop} {tl th : TO} (k : te σ H fun x H1 => tl σ H1 fun l H2 => th σ H2 fun u H3 => r x l u H3 Q) : tSl r te tl th σ H Q := k
theorem g_nopart {Q : Option Int → Hp → Prop} (k : Q none H) : tNoPart σ H Q := k
def rPart (x : V) (H : Hp) (Q : Option Int → Hp → Prop) : Prop := ∃ i, x = .int i ∧ Q (some i) H
theorem g_part {Q : Option Int → Hp → Prop} (k : te σ H fun x H1 => rPart x H1 Q) : tPart te σ H Q := k
theorem g_rpart {Q : Option Int → Hp → Prop} {a : Int} (k : Q (some a) H) : rPart (.int a) H Q := ⟨a, rfl, k⟩
theorem g_m1 {r : V → List V → Hp → VK → Prop} {to : TE} (k : to σ H fun x H1 => rStr x (te σ H1 fun y H2 => r x [y] H2 Q)) : tM1 r to te σ H Q := k
theorem g_m0 {r : V → List V → Hp → VK → Prop} {to : TE} (k : to σ H fun x H1 => rStr x (r x [] H1 Q)) : tM0 r to σ H Q := k
theorem g_rstr {x : Str} {A : Prop} (k : A) : rStr (.str x) A := ⟨⟨x, rfl⟩, k⟩
theorem g_bm0 {T : String} {r : V → List V → Hp → VK → Prop} {to : TE} (k : to σ H fun x H1 => tyV K T x H1 ∧ r x [] H1 Q) : tBM0 K T r to σ H Q := k
theorem g_bm {T : String} {r : V → List V → Hp → VK → Prop} {to : TE} {t : TA} (k : to σ H fun x H1 => tyV K T x H1 ∧ t σ H1 fun xs H2 => r x xs H2 Q) : tBM K T r to t σ H Q := k
theorem g_isB {a b : Bool} (k : Q (.bl (decide (a = b))) H) : rIsB (.bl a) (.bl b) H Q := ⟨a, b, rfl, rfl, k⟩
theorem g_notB {a b : Bool} (k : Q (.bl (!decide (a = b))) H) : rNotB (.bl a) (.bl b) H Q := ⟨a, b, rfl, rfl, k⟩
theorem g_andV (k : ta σ H fun x H1 => ∃ c, x = .bl c ∧ if c = true then tb σ H1 Q else Q (.bl false) H1) : tAndV ta tb σ H Q := k
theorem g_orV (k : ta σ H fun x H1 => ∃ c, x = .bl c ∧ if c = true then Q (.bl true) H1 else tb σ H1 Q) : tOrV ta tb σ H Q := k
theorem g_notV (k : ta σ H fun x H1 => ∃ c, x = .bl c ∧ Q (.bl (!c)) H1) : tNotV ta σ H Q := k
theorem g_isN {x : V} (k : Q (.bl (decide (x = .non))) H) : rIsN x .non H Q := ⟨rfl, k⟩
theorem g_notN {x : V} (k : Q (.bl (!decide (x = .non))) H) : rNotN x .non H Q := ⟨rfl, k⟩
theorem g_cat_str {a b : Str} (h : a.length + b.length ≤ sizeLine) (k : Q (.str (a ++ b)) H) : rCatS (.str a) (.str b) H Q := ⟨a, b, rfl, rfl, h, k⟩
theorem g_int1 {a : Int} (k : Q (.int a) H) : rInt1 [.int a] H Q := .inl ⟨a, rfl, k⟩
theorem g_int1b {b : Bool} (k : Q (.int (if b then 1 else 0)) H) : rInt1 [.bl b] H Q := .inr ⟨b, rfl, k⟩
theorem g_reprB {b : Bool} (k : Q (.str (if b then "True" else "False")) H) : rReprB [.bl b] H Q := ⟨b, rfl, k⟩
theorem g_cat {a b : Addr} {xs ys : List V} (ha : H a = some (.lst xs)) (hb : H b = some (.lst ys)) (hl : xs.length + ys.length ≤ 100000) (k : ∀ p H', H p = none → Same H H' → H' p = some (.lst (xs ++ ys)) → Q (.ref p) H') : rCat (.ref a) (.ref b) H Q :=
  ⟨a, b, xs, ys, rfl, rfl, ha, hb, Nat.le_trans hl (by decide), New.to (Q := fun p H' => Q (.ref p) H') k⟩
theorem g_slL {a : Addr} {xs : List V} {lo hi : Option Int} (h : SqL K H a xs) (k : ∀ p H', H p = none → Same H H' → H' p = some (.lst (cutV xs lo hi)) → Q (.ref p) H') : rSlL K (.ref a) lo hi H Q :=
  ⟨a, xs, rfl, h, New.to (Q := fun p H' => Q (.ref p) H') k⟩
theorem g_inSg {ch : Nat} {z : Str} (k : Q (.bl (decide (ch ∈ z.cps.toList))) H) : rInSg (.str (SX.S [ch])) (.str z) H Q := ⟨ch, z, rfl, rfl, k⟩
theorem g_notInSg {ch : Nat} {z : Str} (k : Q (.bl (!decide (ch ∈ z.cps.toList))) H) : rNotInSg (.str (SX.S [ch])) (.str z) H Q := ⟨ch, z, rfl, rfl, k⟩
theorem g_ord {ch : Nat} (k : Q (.int (ch : Int)) H) : rOrd [.str (SX.S [ch])] H Q := ⟨_, rfl, rfl, k⟩
theorem g_lenL {p : Addr} {ys : List V} (h : SqL K H p ys) (k : Q (.int ys.length) H) : rLenQ K [.ref p] H Q := ⟨p, ys, rfl, .inl h, k⟩
theorem g_lenU {p : Addr} {ys : List V} (h : SqT K H p ys) (k : Q (.int ys.length) H) : rLenQ K [.ref p] H Q := ⟨p, ys, rfl, .inr h, k⟩
theorem g_lenT {z : Str} (h : z.length ≤ sizeLine) (k : Q (.int z.length) H) : rLenT [.str z] H Q := ⟨z, rfl, h, k⟩
theorem g_lenD {a : Addr} {kvs : List (Key × V)} (h : H a = some (.dK kvs)) (k : Q (.int kvs.length) H) : rLenD [.ref a] H Q := ⟨a, kvs, rfl, h, k⟩
theorem g_setL {p : Addr} {xs : List V} {j : Int} {n : Nat} {Q : Hp → Prop} (h : H p = some (.lst xs)) (hj : ixN xs.length j = some n) (k : Q (upd H p (.lst (xs.set n v)))) : rSetL (.ref p) (.int j) v H Q := ⟨p, xs, j, n, rfl, rfl, h, hj, k⟩
theorem g_sub {ti : TE} {t : TSet} {Q : St → Hp → Prop} (k : te σ H fun o H1 => ti σ H1 fun i H2 => t o i v H2 fun H3 => Q σ H3) : gSub te ti t v σ H Q := k
theorem g_dget2 {tx : TE} (k : ta σ H fun x H1 => ∃ a, x = .ref a ∧ IsD H1 a ∧ tb σ H1 fun y H2 => tx σ H2 fun z H3 => ∃ o, DGet H3 a y o ∧ Q (o.getD z) H3) : tDGet2 ta tb tx σ H Q := k
theorem g_orD {b1 b2 : Bool} {Q : Bool → Hp → Prop} (h1 : ∀ Q : Bool → Hp → Prop, Q b1 H → c σ H Q) (h2 : ∀ Q : Bool → Hp → Prop, Q b2 H → d σ H Q) (k : Q (b1 || b2) H) : tOr c d σ H Q := by
  refine h1 _ ?_
  cases b1
  · exact h2 _ k
  · exact k
theorem g_andD {b1 b2 : Bool} {Q : Bool → Hp → Prop} (h1 : ∀ Q : Bool → Hp → Prop, Q b1 H → c σ H Q) (h2 : ∀ Q : Bool → Hp → Prop, Q b2 H → d σ H Q) (k : Q (b1 && b2) H) : tAnd c d σ H Q := by
  refine h1 _ ?_
  cases b1
  · exact k
  · exact h2 _ k
theorem g_rixS {x : Str} {j : Int} {ch : Nat} (h : x.length ≤ sizeLine) (ha : atI x.cps.toList j = some ch) (k : Q (.str (SX.S [ch])) H) : rIxS (.str x) (.int j) H Q := ⟨x, j, ch, rfl, rfl, h, ha, k⟩
/-- for .. in range(r) -/
def kFor1 (g : TG) (tb : TS) (D : Ends) (σ : St) (vs : List V) (H : Hp) : Prop := ∃ j : Int, vs = [.int j] ∧ -(2 ^ 62) ≤ j ∧ j < 2 ^ 62 ∧ ∃ W : Nat → Nat → St → Hp → Prop, (∃ m, W 0 m σ H) ∧ ∀ i m σ H, W i m σ H →
  ((Itr 0 j.toNat).stop i H ∧ D.nx σ H) ∨ ((Itr 0 j.toNat).go i H ∧ ∃ N : St → Hp → Prop, (∀ σ' H', N σ' H' → ∃ m', m' < m ∧ W (i + 1) m' σ' H') ∧ ∀ x H', (Itr 0 j.toNat).yld i H x H' → g x σ H' fun σ2 H2 => tb { D with nx := N, ct := N, bk := D.nx } σ2 H2)
theorem g_forR {tb : TS} (k : tl σ H (kFor1 g tb D σ)) : tFor (iRng1 tl) g tb D σ H := k
theorem g_for1 {tb : TS} {r : Int} (h0 : 0 ≤ r) (h1 : r ≤ 100000) (Pv : Nat → St → Hp → Prop) (hi : Pv 0 σ H) (hs : ∀ (i : Nat) σ H, i < r.toNat → Pv i σ H → g (.int (i : Int)) σ H fun σ2 H2 => tb { D with nx := Pv (i + 1), ct := Pv (i + 1), bk := D.nx } σ2 H2)
    (hd : ∀ σ H, Pv r.toNat σ H → D.nx σ H) : kFor1 g tb D σ [.int r] H :=
  ⟨r, rfl, by omega, by omega, for_range (lo := 0) (n := r.toNat) Pv hi (fun i σ H hi h => by rw [Int.zero_add]; exact hs i σ H hi h) hd⟩
/-! walks -/
def kFor (g : TG) (tb : TS) (D : Ends) (σ : St) (J : It) (H : Hp) : Prop := ∃ W : Nat → Nat → St → Hp → Prop, (∃ m, W 0 m σ H) ∧ ∀ i m σ H, W i m σ H →
  (J.stop i H ∧ D.nx σ H) ∨ (J.go i H ∧ ∃ N : St → Hp → Prop, (∀ σ' H', N σ' H' → ∃ m', m' < m ∧ W (i + 1) m' σ' H') ∧ ∀ x H', J.yld i H x H' → g x σ H' fun σ2 H2 => tb { D with nx := N, ct := N, bk := D.nx } σ2 H2)
theorem g_for {wi : TI} {tb : TS} (k : wi σ H (kFor g tb D σ)) : tFor wi g tb D σ H := k
def rItS (v : V) (H : Hp) (R : It → Hp → Prop) : Prop := ∃ x, v = .str x ∧ R (Its x) H
theorem g_iStr {R : It → Hp → Prop} (k : te σ H fun v H1 => rItS v H1 R) : iStr te σ H R := k
theorem g_ritS {x : Str} {R : It → Hp → Prop} (k : R (Its x) H) : rItS (.str x) H R := ⟨x, rfl, k⟩
def rItL (K : PySem.W.Frag) (v : V) (H : Hp) (R : It → Hp → Prop) : Prop := ∃ a, v = .ref a ∧ (∃ xs, SqL K H a xs) ∧ R (Itl K a) H
theorem g_iList {R : It → Hp → Prop} (k : te σ H fun v H1 => rItL K v H1 R) : iList K te σ H R := k
theorem g_ritL {a : Addr} {xs : List V} {R : It → Hp → Prop} (h : SqL K H a xs) (k : R (Itl K a) H) : rItL K (.ref a) H R := ⟨a, rfl, ⟨xs, h⟩, k⟩
def rItU (K : PySem.W.Frag) (v : V) (H : Hp) (R : It → Hp → Prop) : Prop := ∃ a, v = .ref a ∧ (∃ xs, SqT K H a xs) ∧ R (Itt K a) H
theorem g_iTup {R : It → Hp → Prop} (k : te σ H fun v H1 => rItU K v H1 R) : iTup K te σ H R := k
theorem g_ritU {a : Addr} {xs : List V} {R : It → Hp → Prop} (h : SqT K H a xs) (k : R (Itt K a) H) : rItU K (.ref a) H R := ⟨a, rfl, ⟨xs, h⟩, k⟩
def rItR (vs : List V) (H : Hp) (R : It → Hp → Prop) : Prop := ∃ j : Int, vs = [.int j] ∧ -(2 ^ 62) ≤ j ∧ j < 2 ^ 62 ∧ R (Itr 0 j.toNat) H
theorem g_iRng {R : It → Hp → Prop} (k : tl σ H fun vs H1 => rItR vs H1 R) : iRng1 tl σ H R := k
theorem g_ritR {r : Int} {R : It → Hp → Prop} (h0 : 0 ≤ r) (h1 : r ≤ 100000) (k : R (Itr 0 r.toNat) H) : rItR [.int r] H R := ⟨r, rfl, by omega, by omega, k⟩
/-- the signs of a text, each a text -/
def sgs (l : List Nat) : List V := l.map fun c => V.str (SX.S [c])
theorem walk_sgs {l : List Nat} : Walk (Its (SX.S l)) (sgs l).length (fun _ => True) (YAt (sgs l)) := by
  have e : (sgs l).length = (SX.S l).cps.size := by unfold sgs; simp
  rw [e]
  refine walk_str.mono (fun _ h => h) fun i H x H' hi _ h => ?_
  obtain ⟨h1, c, h2, h3⟩ := h
  refine ⟨h1, ?_⟩
  have h4 : l[i]? = some c := by simpa using h2
  unfold sgs
  rw [List.getElem?_map, h4, h3]
  rfl
theorem sgs_at {l : List Nat} {i : Nat} {x : V} (h : (sgs l)[i]? = some x) : ∃ c, l[i]? = some c ∧ V.str (SX.S [c]) = x := by
  unfold sgs at h
  rw [List.getElem?_map] at h
  cases e : l[i]? with
  | none => rw [e] at h; cases h
  | some c => rw [e] at h; exact ⟨c, rfl, Option.some.inj h⟩
theorem map_at {α : Type} {F : α → V} {l : List α} {i : Nat} {x : V} (h : (l.map F)[i]? = some x) : ∃ c, l[i]? = some c ∧ F c = x := by
  rw [List.getElem?_map] at h
  cases e : l[i]? with
  | none => rw [e] at h; cases h
  | some c => rw [e] at h; exact ⟨c, rfl, Option.some.inj h⟩
theorem sgs_len {l : List Nat} : (sgs l).length = l.length := by unfold sgs; rw [List.length_map]
theorem walk_rng {n : Nat} : Walk (Itr 0 n) ((List.range n).map fun (i : Nat) => V.int (i : Int)).length (fun _ => True) (YAt ((List.range n).map fun (i : Nat) => V.int (i : Int))) := by
  rw [List.length_map, List.length_range]
  refine walk_range.mono (fun _ h => h) fun i H x H' hi _ h => ?_
  obtain ⟨h1, h2⟩ := h
  refine ⟨h1, ?_⟩
  rw [List.getElem?_map, List.getElem?_range hi, h2]
  show some (V.int (i : Int)) = some (V.int (0 + (i : Int)))
  rw [Int.zero_add]
/-- a for over xs -/
theorem for_at {J : It} {xs : List V} {G : Hp → Prop} {tb : TS} (w : Walk J xs.length G (YAt xs)) (Pv : Nat → St → Hp → Prop) (h0 : Pv 0 σ H) (hG : ∀ i σ H, Pv i σ H → G H)
    (hs : ∀ i x σ H, xs[i]? = some x → Pv i σ H → g x σ H fun σ2 H2 => tb { D with nx := Pv (i + 1), ct := Pv (i + 1), bk := D.nx } σ2 H2) (hd : ∀ σ H, Pv xs.length σ H → D.nx σ H) : kFor g tb D σ J H :=
  for_it w Pv h0 (fun i σ H _ h => hG i σ H h) (fun i x σ H H' _ h y => by obtain ⟨e, hx⟩ := y; subst e; exact hs i x σ H' hx h) hd
/-- a comprehension -/
def kLc (g : TG) (tt : TT) (te : TE) (vs : List Nat) (σ : St) (Q : VK) (J : It) (H1 : Hp) : Prop := ∀ D, H1 D = none → ∃ W : Nat → Nat → Hp → Prop, (∃ m, W 0 m (upd H1 D (.lst []))) ∧ ∀ i m H, W i m H →
  (J.stop i H ∧ Q (.ref D) H) ∨ (J.go i H ∧ ∃ Nx : Hp → Prop, (∀ H', Nx H' → ∃ m', m' < m ∧ W (i + 1) m' H') ∧ ∀ x H', J.yld i H x H' → g x (wipe σ vs) H' fun σ2 H2 => wipe σ2 vs = wipe σ vs ∧ tt σ2 H2 fun b H3 =>
    if b = true then te σ2 H3 fun y H4 => ∃ acc, H4 D = some (.lst acc) ∧ acc.length < sizeLine ∧ Nx (upd H4 D (.lst (acc ++ [y]))) else Nx H3)
theorem g_lc {wi : TI} {tt : TT} {vs : List Nat} (k : wi σ H (kLc g tt te vs σ Q)) : tLc wi g tt te vs σ H Q := k
theorem take_ok {α : Type} {xs : List α} {i : Nat} {x : α} (h : xs[i]? = some x) : xs.take (i + 1) = xs.take i ++ [x] := by
  rw [List.take_add_one, h]
  rfl
/-- .. whose items hang on the item alone: xs filtered and mapped; the heap may grow meanwhile -/
theorem lc_map {J : It} {xs : List V} {G : Hp → Prop} {tt : TT} {vs : List Nat} (w : Walk J xs.length G (YAt xs)) (hG : ∀ H', Same H H' → G H') (hz : xs.length ≤ 100000) (p : V → Bool) (f : V → V)
    (hg : ∀ x ∈ xs, ∀ H' (R : St → Hp → Prop), Same H H' → (∀ σ2, wipe σ2 vs = wipe σ vs → (∀ H'' (R : Bool → Hp → Prop), Same H H'' → R (p x) H'' → tt σ2 H'' R) →
      (p x = true → ∀ H'' (R : VK), Same H H'' → (∀ H3, Same H'' H3 → R (f x) H3) → te σ2 H'' R) → R σ2 H') → g x (wipe σ vs) H' R)
    (k : ∀ q H', H q = none → Same H H' → H' q = some (.lst ((xs.filter p).map f)) → Q (.ref q) H') : kLc g tt te vs σ Q J H := by
  intro D hD
  refine lc_it w (fun i H2 => Same H H2 ∧ H2 D = some (.lst (((xs.take i).filter p).map f))) ⟨Same.new hD, upd_same⟩ (fun i H2 _ h => hG H2 h.1) (fun i x H2 H2' hi h y => ?_) (fun H2 h => ?_)
  · obtain ⟨e, hx⟩ := y
    subst e
    refine hg x (List.mem_of_getElem? hx) _ _ h.1 fun σ2 hw ht he => ⟨hw, ?_⟩
    refine ht _ _ h.1 ?_
    have hl : (((xs.take i).filter p).map f).length < sizeLine := by
      rw [List.length_map]
      have h1 := List.length_filter_le p (xs.take i)
      have h2 := List.length_take_le i xs
      exact Nat.lt_of_lt_of_le (show _ < 200000 by omega) (by decide)
    cases hp : p x with
    | true =>
      refine iteT ?_
      refine he hp _ _ h.1 fun H3 s3 => ⟨_, s3 _ _ h.2, hl, (h.1.trans s3).grow hD, ?_⟩
      rw [upd_same, take_ok hx, List.filter_append, List.map_append]
      simp [hp]
    | false =>
      refine iteF ?_
      refine ⟨h.1, ?_⟩
      rw [take_ok hx, List.filter_append]
      simpa [hp] using h.2
  · rw [List.take_length] at h
    exact k D H2 hD h.1 h.2
/-- .. whose items are laid anew: R x y H tells what y is, and hangs on tuples alone -/
theorem lc_new {J : It} {xs : List V} {G : Hp → Prop} {vs : List Nat} (R : V → V → Hp → Prop) (mono : ∀ x y H1 H2, (∀ b ys, H1 b = some (.tup ys) → H2 b = some (.tup ys)) → R x y H1 → R x y H2) (w : Walk J xs.length G (YAt xs)) (hG : ∀ H', Same H H' → G H') (hz : xs.length ≤ 100000)
    (hg : ∀ x ∈ xs, ∀ H' (Rk : St → Hp → Prop), Same H H' → (∀ σ2, wipe σ2 vs = wipe σ vs → (∀ H'' (R' : VK), Same H H'' → (∀ y H3, Same H'' H3 → R x y H3 → R' y H3) → te σ2 H'' R') → Rk σ2 H') → g x (wipe σ vs) H' Rk)
    (k : ∀ (q : Addr) (ys : List V) (H' : Hp), H q = none → Same H H' → ys.length = xs.length → (∀ (i : Nat) (x y : V), xs[i]? = some x → ys[i]? = some y → R x y H') → H' q = some (.lst ys) → Q (.ref q) H') : kLc g tYes te vs σ Q J H := by
  intro D hD
  refine lc_it w (fun i H2 => Same H H2 ∧ ∃ ys : List V, ys.length = i ∧ (∀ (j : Nat) (x y : V), xs[j]? = some x → ys[j]? = some y → R x y H2) ∧ H2 D = some (.lst ys)) ⟨Same.new hD, [], rfl, (fun j x y _ h => (by cases h)), upd_same⟩ (fun i H2 _ h => hG H2 h.1) (fun i x H2 H2' hi h y => ?_) (fun H2 h => ?_)
  · obtain ⟨e, hx⟩ := y
    subst e
    obtain ⟨s1, ys, h1, h2, h3⟩ := h
    refine hg x (List.mem_of_getElem? hx) _ _ s1 fun σ2 hw he => ⟨hw, ?_⟩
    show te σ2 H2' _
    refine he _ _ s1 fun y H3 s3 r3 => ⟨_, s3 _ _ h3, ?_, (s1.trans s3).grow hD, ys ++ [y], by rw [List.length_append, h1]; rfl, fun j x' y' hx' hy' => ?_, upd_same⟩
    · rw [h1]
      exact Nat.lt_of_lt_of_le (show i < 200000 by omega) (by decide)
    · have tk : ∀ b zs, H3 b = some (.tup zs) → (upd H3 D (.lst (ys ++ [y]))) b = some (.tup zs) := fun b zs e => by
        rw [upd_ne (ne_of e (s3 _ _ h3) (by intro z; cases z))]; exact e
      by_cases hj : j < ys.length
      · rw [List.getElem?_append_left hj] at hy'
        exact mono _ _ _ _ (fun b zs e => tk b zs (s3 _ _ e)) (h2 j x' y' hx' hy')
      · rw [List.getElem?_append_right (by omega)] at hy'
        cases hz : j - ys.length with
        | zero =>
          rw [hz] at hy'
          cases hy'
          have : j = i := by omega
          subst this
          rw [hx] at hx'
          cases hx'
          exact mono _ _ _ _ tk r3
        | succ n => rw [hz] at hy'; cases hy'
  · obtain ⟨s1, ys, h1, h2, h3⟩ := h
    exact k D ys H2 hD s1 h1 h2 h3
theorem g_cut {t u : TS} (Mid : St → Hp → Prop) (h1 : t { D with nx := Mid } σ H) (h2 : ∀ σ' H', Mid σ' H' → u D σ' H') : C8.tCut t u D σ H := ⟨Mid, h1, h2⟩
/-! statements -/
theorem g_seq (k : t { D with nx := u D } σ H) : tSeq t u D σ H := k
theorem g_asg (k : te σ H fun x H1 => g x σ H1 D.nx) : tAsg te g D σ H := k
theorem g_name {Q : St → Hp → Prop} (k : Q (σ.set i (some v)) H) : gName i v σ H Q := k
theorem g_ret (k : te σ H D.rt) : tRet te D σ H := k
theorem g_drop (k : te σ H fun _ H1 => D.nx σ H1) : tDrop te D σ H := k
theorem g_next (k : D.nx σ H) : tNext D σ H := k
theorem g_ifs (k : c σ H fun b H1 => if b = true then t D σ H1 else u D σ H1) : tIfS c t u D σ H := k
theorem g_pnx {nx bk ct : St → Hp → Prop} {rt : VK} (k : nx σ H) : Ends.nx ⟨nx, rt, bk, ct⟩ σ H := k
theorem g_prt {nx bk ct : St → Hp → Prop} {rt : VK} (k : rt v H) : Ends.rt ⟨nx, rt, bk, ct⟩ v H := k
theorem g_pbk {nx bk ct : St → Hp → Prop} {rt : VK} (k : bk σ H) : Ends.bk ⟨nx, rt, bk, ct⟩ σ H := k
theorem g_pct {nx bk ct : St → Hp → Prop} {rt : VK} (k : ct σ H) : Ends.ct ⟨nx, rt, bk, ct⟩ σ H := k
/-! ways -/
theorem ifp {p A B : Prop} [Decidable p] (h : p) (k : A) : if decide p = true then A else B := by rw [if_pos (decide_eq_true h)]; exact k
theorem ifn {p A B : Prop} [Decidable p] (h : ¬ p) (k : B) : if decide p = true then A else B := by rw [if_neg (by simp [h])]; exact k
theorem if2 {p A B : Prop} [Decidable p] (h1 : p → A) (h2 : ¬ p → B) : if decide p = true then A else B := by
  by_cases h : p
  · exact ifp h (h1 h)
  · exact ifn h (h2 h)
theorem ifnp {p A B : Prop} [Decidable p] (h : p) (k : B) : if (!decide p) = true then A else B := by rw [if_neg (by simp [h])]; exact k
theorem ifnn {p A B : Prop} [Decidable p] (h : ¬ p) (k : A) : if (!decide p) = true then A else B := by rw [if_pos (by simp [h])]; exact k
theorem ifn2 {p A B : Prop} [Decidable p] (h1 : p → B) (h2 : ¬ p → A) : if (!decide p) = true then A else B := by
  by_cases h : p
  · exact ifnp h (h1 h)
  · exact ifnn h (h2 h)
theorem ifb {b : Bool} {A B : Prop} (h1 : b = true → A) (h2 : b = false → B) : if b = true then A else B := by
  cases b
  · exact iteF (h2 rfl)
  · exact iteT (h1 rfl)
theorem int_eq {a b : Int} : (V.int a = V.int b) ↔ a = b := ⟨fun h => V.int.inj h, fun h => by rw [h]⟩
theorem str_eq {a b : Str} : (V.str a = V.str b) ↔ a = b := ⟨fun h => V.str.inj h, fun h => by rw [h]⟩
theorem bl_eq {a b : Bool} : (V.bl a = V.bl b) ↔ a = b := ⟨fun h => V.bl.inj h, fun h => by rw [h]⟩
end
/-! one step of a reading: the keys are ours -/

/-! ### steps of the heap: whose objects changed (c tells each object's owner) -/
structure Stp (I : Nat → Prop) (c c' : Addr → Nat) (H H' : Hp) : Prop where
  keep : ∀ b o, H b = some o → ¬ I (c b) → H' b = some o
  col : ∀ b o, H b = some o → c' b = c b
  tup : ∀ b xs, H b = some (.tup xs) → H' b = some (.tup xs)
  fre : ∀ b, H' b = none → H b = none
namespace Stp
variable {I J : Nat → Prop} {c c' c'' : Addr → Nat} {H H' H'' : Hp}
theorem refl : Stp I c c H H := ⟨fun _ _ h _ => h, fun _ _ _ => rfl, fun _ _ h => h, fun _ h => h⟩
theorem some' (s : Stp I c c' H H') {b : Addr} {o : HO} (h : H b = some o) : ∃ o', H' b = some o' := by
  cases e : H' b with
  | none => rw [s.fre b e] at h; cases h
  | some o' => exact ⟨o', rfl⟩
theorem trans (a : Stp I c c' H H') (b : Stp I c' c'' H' H'') : Stp I c c'' H H'' := by
  refine ⟨fun x o h n => b.keep x o (a.keep x o h n) (by rw [a.col x o h]; exact n), fun x o h => ?_, fun x xs h => b.tup x xs (a.tup x xs h), fun x h => a.fre x (b.fre x h)⟩
  obtain ⟨o', h'⟩ := a.some' h
  rw [b.col x o' h', a.col x o h]
theorem mono (a : Stp I c c' H H') (h : ∀ i, I i → J i) : Stp J c c' H H' := ⟨fun x o e n => a.keep x o e fun z => n (h _ z), a.col, a.tup, a.fre⟩
theorem same (h : Same H H') : Stp I c c H H' := ⟨fun x o e _ => h x o e, fun _ _ _ => rfl, fun x xs e => h x _ e, fun _ e => h.free e⟩
theorem own {b : Addr} {o o' : HO} (h : H b = some o) (hi : I (c b)) (ht : ∀ xs, o ≠ .tup xs) : Stp I c c H (upd H b o') := by
  refine ⟨fun x u e n => ?_, fun _ _ _ => rfl, fun x xs e => ?_, fun x e => ?_⟩
  · rw [upd_ne (fun z => n (by rw [z]; exact hi))]; exact e
  · rw [upd_ne (fun z => ht xs (by subst z; rw [h] at e; exact Option.some.inj e))]; exact e
  · by_cases z : x = b
    · subst z; rw [upd_same] at e; cases e
    · rw [upd_ne z] at e; exact e
/-- one own object changed -/
theorem ch {b : Addr} {o o' : HO} (h : H b = some o) (hi : I (c b)) (ht : ∀ xs, o ≠ .tup xs) (h' : H' b = some o') (k : ∀ x, x ≠ b → H' x = H x) : Stp I c c H H' := by
  refine ⟨fun x u e n => ?_, fun _ _ _ => rfl, fun x xs e => ?_, fun x e => ?_⟩
  · rw [k x (fun z => n (by rw [z]; exact hi))]; exact e
  · rw [k x (fun z => ht xs (by subst z; rw [h] at e; exact Option.some.inj e))]; exact e
  · by_cases z : x = b
    · subst z; rw [h'] at e; cases e
    · rw [k x z] at e; exact e
theorem sameC (h : Same H H') (hc : ∀ b o, H b = some o → c' b = c b) : Stp I c c' H H' := ⟨fun x o e _ => h x o e, hc, fun x xs e => h x _ e, fun _ e => h.free e⟩
theorem new {p : Addr} {o : HO} (h : H p = none) : Stp I c c H (upd H p o) := same fun b u e => by rw [upd_ne (ne_of_none e h)]; exact e
/-- a new object gets its owner -/
def paint (c : Addr → Nat) (p : Addr) (i : Nat) : Addr → Nat := fun b => if b = p then i else c b
theorem paint_same {p : Addr} {i : Nat} : paint c p i p = i := by unfold paint; rw [if_pos rfl]
theorem paint_ne {p b : Addr} {i : Nat} (h : b ≠ p) : paint c p i b = c b := by unfold paint; rw [if_neg h]
theorem newc {p : Addr} {o : HO} {i : Nat} (h : H p = none) : Stp I c (paint c p i) H (upd H p o) :=
  ⟨fun b u e _ => by rw [upd_ne (ne_of_none e h)]; exact e, fun b u e => paint_ne (ne_of_none e h), fun b xs e => by rw [upd_ne (ne_of_none e h)]; exact e, fun b e => by
    by_cases z : b = p
    · subst z; rw [upd_same] at e; cases e
    · rw [upd_ne z] at e; exact e⟩
end Stp
end Lw
namespace Lw
open PySem L2
open PyProof.Rows (envOfC)
theorem lk_eq {k : Str} {v : V} {l : List (Str × V)} : List.lookup k ((k, v) :: l) = some v := by simp [List.lookup]
theorem lk_ne {k k' : Str} {v : V} {l : List (Str × V)} (h : (k == k') = false) : List.lookup k ((k', v) :: l) = l.lookup k := by simp [List.lookup, h]
theorem lk_no {m : Str} : ∀ {l : List (Str × V)}, (l.map (·.1)).all (fun f => !(m == f)) = true → l.lookup m = none
  | [], _ => rfl
  | (k, v) :: l, h => by
    have h : (!(m == k) && (l.map (·.1)).all (fun f => !(m == f))) = true := h
    rw [Bool.and_eq_true, Bool.not_eq_true'] at h
    rw [lk_ne h.1]
    exact lk_no h.2
theorem putF_le {f : Str} {y : V} : ∀ {fs : List (Str × V)}, (putF f y fs).length ≤ fs.length + 1
  | [] => Nat.le_refl _
  | (k, v) :: r => by
    show (if k = f then _ else _ : List (Str × V)).length ≤ _
    split
    · exact Nat.le_succ _
    · exact Nat.succ_le_succ putF_le
theorem pf_eq {k : Str} {y v : V} {l : List (Str × V)} : putF k y ((k, v) :: l) = (k, y) :: l := by
  show (if k = k then _ else _) = _
  rw [if_pos rfl]
theorem pf_ne {k k' : Str} {y v : V} {l : List (Str × V)} (h : ¬ k' = k) : putF k y ((k', v) :: l) = (k', v) :: putF k y l := by
  show (if k' = k then _ else _) = _
  rw [if_neg h]
theorem empty_S : ("" : Str) = SX.S [] := by decide +kernel
theorem join_empty (l : List Nat) : Txt.join ("" : Str) (l.map fun c => SX.S [c]) = SX.S l := by
  have e : (l.map fun c => SX.S [c]) = (l.map fun c => [c]).map SX.S := by rw [List.map_map]; rfl
  rw [empty_S, e, SX.join_S]
  have h : ∀ l : List Nat, TL.joinL [] (l.map fun c => [c]) = l := by
    intro l
    induction l with
    | nil => rfl
    | cons a r ih =>
      cases r with
      | nil => rfl
      | cons b r => 
        show [a] ++ ([] ++ TL.joinL [] ((b :: r).map fun c => [c])) = a :: b :: r
        rw [ih]
        rfl
  rw [h]
theorem sum_ones (l : List Nat) : ((l.map fun c => SX.S [c]).map (·.length)).sum = l.length := by
  induction l with
  | nil => rfl
  | cons a r ih =>
    rw [List.map_cons, List.map_cons, List.sum_cons, ih, SX.S_len, List.length_cons]
    simp only [List.length_cons, List.length_nil]
    omega
theorem join_flat (l : List (List Nat)) : Txt.join ("" : Str) (l.map SX.S) = SX.S l.flatten := by
  rw [empty_S, SX.join_S]
  have h : ∀ l : List (List Nat), TL.joinL [] l = l.flatten := by
    intro l
    induction l with
    | nil => rfl
    | cons a r ih =>
      cases r with
      | nil => show a = a ++ []; rw [List.append_nil]
      | cons b r =>
        show a ++ ([] ++ TL.joinL [] (b :: r)) = _
        rw [ih]
        rfl
  rw [h]
theorem sum_flat (l : List (List Nat)) : ((l.map SX.S).map (·.length)).sum = l.flatten.length := by
  rw [SX.lens, List.length_flatten]
theorem L2x_sameN {I : Nat → Prop} {c : Addr → Nat} {H H' : Hp} {p : Addr} {i : Nat} (s : Same H H') (n : H p = none) : Stp I c (Stp.paint c p i) H H' := Stp.sameC s fun b o e => Stp.paint_ne (ne_of_none e n)
end Lw
local macro_rules | `(tactic| walk_at "lw side") => `(tactic| first | assumption | decide | omega | exact Or.inr ⟨by decide, by decide⟩ | exact Or.inl ⟨by decide, by decide⟩ | exact ⟨by decide, by decide⟩ | exact ⟨by omega, by omega⟩)
local macro_rules | `(tactic| walk_at "lw ne") => `(tactic| first | assumption | exact Ne.symm (by assumption) | exact L2.ne_of_none (by assumption) (by assumption) | exact Ne.symm (L2.ne_of_none (by assumption) (by assumption)))
local macro_rules | `(tactic| walk_at "lw hp") => `(tactic| first | assumption | exact L2.upd_same | (refine Eq.trans (L2.upd_ne (by walk_at "lw ne")) ?_; walk_at "lw hp"))
local macro_rules | `(tactic| walk_at "lw sq") => `(tactic| first | assumption | exact L2.SqL.of (by walk_at "lw hp") | exact L2.SqT.of (by walk_at "lw hp"))
local macro_rules | `(tactic| walk_at "lw go") => `(tactic| first
  | (with_reducible refine Lw.g_seq ?_)
  | ((with_reducible refine' Lw.g_var ?h1 ?k1); (case h1 => rfl))
  | (with_reducible refine Lw.g_c ?_)
  | (with_reducible refine Lw.g_op ?_)
  | (with_reducible refine Lw.g_I0 ?_)
  | ((with_reducible refine' Lw.g_I ?h1 ?k1); (case h1 => walk_at "lw side"))
  | ((with_reducible refine' Lw.g_eq ?h1 ?k1); (case h1 => rfl))
  | ((with_reducible refine' Lw.g_ne ?h1 ?k1); (case h1 => rfl))
  | (with_reducible refine Lw.g_nil ?_)
  | (with_reducible refine Lw.g_cons ?_)
  | (with_reducible refine Lw.g_cb ?_)
  | (with_reducible refine Lw.g_call ?_)
  | (with_reducible refine Lw.g_test ?_)
  | (with_reducible refine Lw.g_B ?_)
  | (with_reducible refine Lw.g_exb ?_)
  | (with_reducible refine Lw.g_not ?_)
  | (with_reducible refine Lw.g_and ?_)
  | (with_reducible refine Lw.g_or ?_)
  | (with_reducible refine Lw.g_tup ?_)
  | (with_reducible refine Lw.g_lst ?_)
  | (with_reducible refine Lw.g_ifx ?_)
  | (with_reducible refine Lw.g_fld ?_)
  | (with_reducible refine Lw.g_asg ?_)
  | (with_reducible refine Lw.g_name ?_)
  | (with_reducible refine Lw.g_ret ?_)
  | (with_reducible refine Lw.g_drop ?_)
  | (with_reducible refine Lw.g_next ?_)
  | (with_reducible refine Lw.g_ifs ?_)
  | (with_reducible refine Lw.g_pnx ?_)
  | (with_reducible refine Lw.g_prt ?_)
  | (with_reducible refine Lw.g_pbk ?_)
  | (with_reducible refine Lw.g_pct ?_)
  | (with_reducible refine Lw.g_sl ?_)
  | (with_reducible refine Lw.g_nopart ?_)
  | (with_reducible refine Lw.g_part ?_)
  | (with_reducible refine Lw.g_rpart ?_)
  | (with_reducible refine Lw.g_m1 ?_)
  | (with_reducible refine Lw.g_m0 ?_)
  | (with_reducible refine Lw.g_rstr ?_)
  | (with_reducible refine Lw.g_bm0 ?_)
  | (with_reducible refine Lw.g_bm ?_)
  | (with_reducible refine Lw.g_isN ?_)
  | (with_reducible refine Lw.g_isB ?_)
  | (with_reducible refine Lw.g_notB ?_)
  | (with_reducible refine Lw.g_andV ?_)
  | (with_reducible refine Lw.g_orV ?_)
  | (with_reducible refine Lw.g_notV ?_)
  | (with_reducible refine Lw.g_notN ?_)
  | (with_reducible refine L2.iteT ?_)
  | (with_reducible refine L2.iteF ?_)
  | (with_reducible refine Lw.g_int1 ?_)
  | (with_reducible refine Lw.g_int1b ?_)
  | (with_reducible refine Lw.g_sub ?_)
  | (with_reducible refine Lw.g_forR ?_)
  | (with_reducible refine Lw.g_for ?_)
  | (with_reducible refine Lw.g_lc ?_)
  | (with_reducible refine Lw.g_iStr ?_)
  | (with_reducible refine Lw.g_ritS ?_)
  | (with_reducible refine Lw.g_tyS ?_)
  | (with_reducible refine Lw.g_iList ?_)
  | (with_reducible refine Lw.g_iTup ?_)
  | (with_reducible refine Lw.g_iRng ?_)
  | (with_reducible refine Lw.g_inSg ?_)
  | (with_reducible refine Lw.g_notInSg ?_)
  | (with_reducible refine Lw.g_ord ?_)
  | (with_reducible refine Lw.g_reprB ?_)
  | (with_reducible refine Lw.g_sfld ?_)
  | (with_reducible refine Lw.g_meth ?_)
  | (with_reducible refine Lw.g_make ?_)
  | (with_reducible refine Lw.g_dget ?_)
  | (with_reducible refine Lw.g_din ?_)
  | (with_reducible refine Lw.g_dnotin ?_)
  | (with_reducible refine Lw.g_dput ?_)
  | (with_reducible refine Lw.g_ddel ?_)
  | (with_reducible refine Lw.g_dpop1 ?_)
  | (with_reducible refine Lw.g_dget1 ?_)
  | (with_reducible refine Lw.g_iKeys ?_)
  | (with_reducible refine Lw.g_fldaug ?_)
  | ((with_reducible refine' Lw.g_lenL ?h1 ?k1); (case h1 => walk_at "lw sq"))
  | ((with_reducible refine' Lw.g_lenD ?h1 ?k1); (case h1 => walk_at "lw hp")))
local macro_rules | `(tactic| walk_at "lw") => `(tactic| repeat walk_at "lw go")

/-! ## dicts: the steps -/
namespace Lw
open PySem L2 PySem.Spec
open PyProof.Rows (envOfC sortedS risingS)
/-- the key behind a value -/
def kI (i : Int) : Key := .inl i
def kS (x : Str) : Key := .inr x
section
variable {σ : L2.St} {H : Hp} {Q : VK} {K : PySem.W.Frag} {D : Ends} {ta tb te tx : TE} {tl : TA} {t u : TS} {i : Nat} {v : V} {g : TG}
def rDGet (x y : V) (H : Hp) (Q : VK) : Prop := ∃ a v, x = .ref a ∧ DGet H a y (some v) ∧ Q v H
theorem g_dget (k : ta σ H fun x H1 => tb σ H1 fun y H2 => rDGet x y H2 Q) : tDGet ta tb σ H Q := k
theorem g_rdgetI {a : Addr} {kvs : List (Key × V)} {j : Int} (h : Rd H a (.dK kvs)) (hv : valV kvs (kI j) = some v) (k : Q v H) : rDGet (.ref a) (.int j) H Q := ⟨a, v, rfl, .inl ⟨kvs, kI j, h, rfl, hv.symm⟩, k⟩
theorem g_rdgetS {a : Addr} {kvs : List (Key × V)} {z : Str} (h : Rd H a (.dK kvs)) (hv : valV kvs (kS z) = some v) (k : Q v H) : rDGet (.ref a) (.str z) H Q := ⟨a, v, rfl, .inl ⟨kvs, kS z, h, rfl, hv.symm⟩, k⟩
def rDIn (y x : V) (H : Hp) (Q : VK) : Prop := ∃ a o, x = .ref a ∧ DGet H a y o ∧ Q (.bl o.isSome) H
theorem g_din (k : ta σ H fun y H1 => tb σ H1 fun x H2 => rDIn y x H2 Q) : tDIn ta tb σ H Q := k
theorem g_rdinI {a : Addr} {kvs : List (Key × V)} {j : Int} (h : Rd H a (.dK kvs)) (k : Q (.bl (valV kvs (kI j)).isSome) H) : rDIn (.int j) (.ref a) H Q := ⟨a, _, rfl, .inl ⟨kvs, kI j, h, rfl, rfl⟩, k⟩
theorem g_rdinS {a : Addr} {kvs : List (Key × V)} {z : Str} (h : Rd H a (.dK kvs)) (k : Q (.bl (valV kvs (kS z)).isSome) H) : rDIn (.str z) (.ref a) H Q := ⟨a, _, rfl, .inl ⟨kvs, kS z, h, rfl, rfl⟩, k⟩
def rDNotIn (y x : V) (H : Hp) (Q : VK) : Prop := ∃ a o, x = .ref a ∧ DGet H a y o ∧ Q (.bl (!o.isSome)) H
theorem g_dnotin (k : ta σ H fun y H1 => tb σ H1 fun x H2 => rDNotIn y x H2 Q) : tDNotIn ta tb σ H Q := k
theorem g_rdnotinI {a : Addr} {kvs : List (Key × V)} {j : Int} (h : Rd H a (.dK kvs)) (k : Q (.bl (!(valV kvs (kI j)).isSome)) H) : rDNotIn (.int j) (.ref a) H Q := ⟨a, _, rfl, .inl ⟨kvs, kI j, h, rfl, rfl⟩, k⟩
theorem g_rdnotinS {a : Addr} {kvs : List (Key × V)} {z : Str} (h : Rd H a (.dK kvs)) (k : Q (.bl (!(valV kvs (kS z)).isSome)) H) : rDNotIn (.str z) (.ref a) H Q := ⟨a, _, rfl, .inl ⟨kvs, kS z, h, rfl, rfl⟩, k⟩
def rDPut (x y v : V) (H : Hp) (R : Hp → Prop) : Prop := ∃ a H', x = .ref a ∧ DPut H a y v H' ∧ R H'
theorem g_dput (k : te σ H fun v H1 => ta σ H1 fun x H2 => tb σ H2 fun y H3 => rDPut x y v H3 fun H4 => D.nx σ H4) : sDPut ta tb te D σ H := k
theorem g_rdputI {a : Addr} {kvs : List (Key × V)} {j : Int} {R : Hp → Prop} (h : H a = some (.dK kvs)) (hl : kvs.length < 100000) (k : ∀ H', H' a = some (.dK (putK kvs (kI j) v)) → (∀ b, b ≠ a → H' b = H b) → R H') : rDPut (.ref a) (.int j) v H R :=
  ⟨a, _, rfl, .inl ⟨kvs, kI j, h, rfl, Nat.lt_of_lt_of_le hl (by decide), rfl⟩, k _ upd_same fun b hb => upd_ne hb⟩
theorem g_rdputS {a : Addr} {kvs : List (Key × V)} {z : Str} {R : Hp → Prop} (h : H a = some (.dK kvs)) (hl : kvs.length < 100000) (k : ∀ H', H' a = some (.dK (putK kvs (kS z) v)) → (∀ b, b ≠ a → H' b = H b) → R H') : rDPut (.ref a) (.str z) v H R :=
  ⟨a, _, rfl, .inl ⟨kvs, kS z, h, rfl, Nat.lt_of_lt_of_le hl (by decide), rfl⟩, k _ upd_same fun b hb => upd_ne hb⟩
def rDDel (x y : V) (H : Hp) (R : Hp → Prop) : Prop := ∃ a kvs k, x = .ref a ∧ H a = some (.dK kvs) ∧ y = kV k ∧ (valV kvs k).isSome = true ∧ R (upd H a (.dK (dropK kvs k)))
theorem g_ddel (k : ta σ H fun x H1 => tb σ H1 fun y H2 => rDDel x y H2 fun H3 => D.nx σ H3) : sDDel ta tb D σ H := k
theorem g_rddelI {a : Addr} {kvs : List (Key × V)} {j : Int} {R : Hp → Prop} (h : H a = some (.dK kvs)) (hs : (valV kvs (kI j)).isSome = true) (k : ∀ H', H' a = some (.dK (dropK kvs (kI j))) → (∀ b, b ≠ a → H' b = H b) → R H') : rDDel (.ref a) (.int j) H R :=
  ⟨a, kvs, kI j, rfl, h, rfl, hs, k _ upd_same fun b hb => upd_ne hb⟩
theorem g_rddelS {a : Addr} {kvs : List (Key × V)} {z : Str} {R : Hp → Prop} (h : H a = some (.dK kvs)) (hs : (valV kvs (kS z)).isSome = true) (k : ∀ H', H' a = some (.dK (dropK kvs (kS z))) → (∀ b, b ≠ a → H' b = H b) → R H') : rDDel (.ref a) (.str z) H R :=
  ⟨a, kvs, kS z, rfl, h, rfl, hs, k _ upd_same fun b hb => upd_ne hb⟩
def rIsD (x : V) (H : Hp) (A : Addr → Prop) : Prop := ∃ a, x = .ref a ∧ IsD H a ∧ A a
theorem g_risd {a : Addr} {kvs : List (Key × V)} {A : Addr → Prop} (h : Rd H a (.dK kvs)) (k : A a) : rIsD (.ref a) H A := ⟨a, rfl, .inl ⟨kvs, h⟩, k⟩
def rDPop (a : Addr) (y : V) (H : Hp) (Q : VK) : Prop := ∃ kvs k v, H a = some (.dK kvs) ∧ y = kV k ∧ valV kvs k = some v ∧ Q v (upd H a (.dK (dropK kvs k)))
theorem g_dpop1 (k : ta σ H fun x H1 => rIsD x H1 fun a => tb σ H1 fun y H2 => rDPop a y H2 Q) : tDPop1 ta tb σ H Q := k
theorem g_rdpopI {a : Addr} {kvs : List (Key × V)} {j : Int} (h : H a = some (.dK kvs)) (hv : valV kvs (kI j) = some v) (k : ∀ H', H' a = some (.dK (dropK kvs (kI j))) → (∀ b, b ≠ a → H' b = H b) → Q v H') : rDPop a (.int j) H Q :=
  ⟨kvs, kI j, v, h, rfl, hv, k _ upd_same fun b hb => upd_ne hb⟩
theorem g_rdpopS {a : Addr} {kvs : List (Key × V)} {z : Str} (h : H a = some (.dK kvs)) (hv : valV kvs (kS z) = some v) (k : ∀ H', H' a = some (.dK (dropK kvs (kS z))) → (∀ b, b ≠ a → H' b = H b) → Q v H') : rDPop a (.str z) H Q :=
  ⟨kvs, kS z, v, h, rfl, hv, k _ upd_same fun b hb => upd_ne hb⟩
def rDGet1 (a : Addr) (y : V) (H : Hp) (Q : VK) : Prop := ∃ o, DGet H a y o ∧ Q (o.getD .non) H
theorem g_dget1 (k : ta σ H fun x H1 => rIsD x H1 fun a => tb σ H1 fun y H2 => rDGet1 a y H2 Q) : tDGet1 ta tb σ H Q := k
theorem g_rdget1I {a : Addr} {kvs : List (Key × V)} {j : Int} (h : Rd H a (.dK kvs)) (k : Q ((valV kvs (kI j)).getD .non) H) : rDGet1 a (.int j) H Q := ⟨_, .inl ⟨kvs, kI j, h, rfl, rfl⟩, k⟩
theorem g_rdget1S {a : Addr} {kvs : List (Key × V)} {z : Str} (h : Rd H a (.dK kvs)) (k : Q ((valV kvs (kS z)).getD .non) H) : rDGet1 a (.str z) H Q := ⟨_, .inl ⟨kvs, kS z, h, rfl, rfl⟩, k⟩
theorem g_dnew (k : ∀ p H', H p = none → Same H H' → H' p = some (.dK []) → Q (.ref p) H') : tDNewK σ H Q := New.to (Q := fun p H' => Q (.ref p) H') k
/-- {k: v, ..} -/
def rDisp (p : Addr) (ps : List (V × V)) (H2 : Hp) (Q : VK) : Prop := H2 p = some (.dK []) ∧ ∃ kvs : List (Key × V), ps = kvs.map (fun kv => (kV kv.1, kv.2)) ∧ kvs.length ≤ 15 ∧ Q (.ref p) (upd H2 p (.dK (mergeK [] kvs)))
theorem g_disp {trs : List (TE × TE)} (k : ∀ p H', H p = none → Same H H' → H' p = some (.dK []) → tPairs trs σ H' fun ps H2 => rDisp p ps H2 Q) : tDisp trs σ H Q := fun p hp => k p _ hp (Same.new hp) upd_same
theorem g_pairs0 {Q : List (V × V) → Hp → Prop} (k : Q [] H) : tPairs [] σ H Q := k
theorem g_pairs1 {trs : List (TE × TE)} {Q : List (V × V) → Hp → Prop} (k : ta σ H fun x H1 => tb σ H1 fun y H2 => tPairs trs σ H2 fun ps H3 => Q ((x, y) :: ps) H3) : tPairs ((ta, tb) :: trs) σ H Q := k
theorem g_rdisp {p : Addr} {ps : List (V × V)} {kvs : List (Key × V)} (h : H p = some (.dK [])) (e : ps = kvs.map (fun kv => (kV kv.1, kv.2))) (hl : kvs.length ≤ 15) (k : ∀ H', H' p = some (.dK (mergeK [] kvs)) → (∀ b, b ≠ p → H' b = H b) → Q (.ref p) H') : rDisp p ps H Q := ⟨h, kvs, e, hl, k _ upd_same fun b hb => upd_ne hb⟩
/-- a loop over a dict's keys -/
theorem g_lock {d : Addr} {kvs : List (Key × V)} (h : H d = some (.dK kvs)) (k : ∀ od H', H' d = some (.frz od (.dK kvs)) → (∀ b, b ≠ d → H' b = H b) →
    t ⟨fun σ' H' => H' d = some (.frz od (.dK kvs)) ∧ D.nx σ' (upd H' d (.dK kvs)), fun v H' => H' d = some (.frz od (.dK kvs)) ∧ D.rt v (upd H' d (.dK kvs)), fun σ' H' => H' d = some (.frz od (.dK kvs)) ∧ D.bk σ' (upd H' d (.dK kvs)), fun σ' H' => H' d = some (.frz od (.dK kvs)) ∧ D.ct σ' (upd H' d (.dK kvs))⟩ σ H') : tLock t D σ H :=
  ⟨d, _, h, trivial, fun od => k od _ upd_same fun b hb => upd_ne hb⟩
def rItK (x : V) (H : Hp) (R : It → Hp → Prop) : Prop := ∃ d o, x = .ref d ∧ ((∃ kvs, H d = some (.frz o (.dK kvs)) ∧ R (Itk d o kvs) H) ∨ ∃ kvs, H d = some (.frz o (.dT kvs)) ∧ R (Itkt d o kvs) H)
theorem g_iKeys {R : It → Hp → Prop} (k : te σ H fun v H1 => rItK v H1 R) : iKeys te σ H R := k
theorem g_ritK {d : Addr} {o : Obj} {kvs : List (Key × V)} {R : It → Hp → Prop} (h : H d = some (.frz o (.dK kvs))) (k : R (Itk d o kvs) H) : rItK (.ref d) H R := ⟨d, o, rfl, .inl ⟨kvs, h, k⟩⟩
theorem walk_ks {d : Addr} {o : Obj} {kvs : List (Key × V)} : Walk (Itk d o kvs) (kvs.map fun kv => kV kv.1).length (fun H => H d = some (.frz o (.dK kvs))) (YAt (kvs.map fun kv => kV kv.1)) := by
  rw [List.length_map]
  refine walk_keys.mono (fun _ h => h) fun i H x H' hi _ h => ?_
  obtain ⟨h1, k, v, h2, h3⟩ := h
  refine ⟨h1, ?_⟩
  rw [List.getElem?_map, h2, h3]
  rfl
def rFldAug (K : PySem.W.Frag) (f : Str) (x : V) (tv : TE) (rd : V → V → Hp → VK → Prop) (D : Ends) (σ : L2.St) (H1 : Hp) : Prop := ∃ a C dx fs v, x = .ref a ∧ H1 a = some (.ins C dx fs) ∧ Cls K C ∧ NoAttr K C f ∧ fs.lookup f = some v ∧
  tv σ H1 fun y H2 => rd v y H2 fun z H3 => ∃ dx' fs', H3 a = some (.ins C dx' fs') ∧ fs'.length < 1000 ∧ D.nx σ (upd H3 a (.ins C dx' (putF f z fs')))
theorem g_fldaug {rd : V → V → Hp → VK → Prop} {f : Str} (k : ta σ H fun x H1 => rFldAug K f x te rd D σ H1) : sFldAug K ta te rd f D σ H := k
/-- self.f += an int -/
theorem g_rfldaugI {f : Str} {a C dx : Addr} {fs : List (Str × V)} {m j : Int} (h : H a = some (.ins C dx fs)) (hc : Cls K C) (hn : NoAttr K C f) (hl : fs.lookup f = some (.int m)) (hz : fs.length < 1000)
    (hv : ∀ R : VK, R (.int j) H → te σ H R) (k : ∀ H', H' a = some (.ins C dx (putF f (.int (m + j)) fs)) → (∀ b, b ≠ a → H' b = H b) → D.nx σ H') : rFldAug K f (.ref a) te rAdd D σ H :=
  ⟨a, C, dx, fs, _, rfl, h, hc, hn, hl, hv _ ⟨m, j, rfl, rfl, dx, fs, h, hz, k _ upd_same fun b hb => upd_ne hb⟩⟩
end
/-! ### dicts whose keys stand in a list, their values a function -/
section
variable {α : Type} {F : α → Key} {G : α → V}
theorem valV_cons {p : Key × V} {r : List (Key × V)} {k : Key} : valV (p :: r) k = if p.1 = k then some p.2 else valV r k := by
  by_cases h : p.1 = k
  · rw [if_pos h, valV_pos h]
  · rw [if_neg h, valV_neg h]
/-- a dict of the keys ks with the values A -/
def mkD (ks : List Int) (A : Int → V) : List (Key × V) := ks.map fun i => (kI i, A i)
theorem mkD_len {ks : List Int} {A : Int → V} : (mkD ks A).length = ks.length := List.length_map _
theorem valV_mkD {ks : List Int} {A : Int → V} {i : Int} : valV (mkD ks A) (kI i) = if i ∈ ks then some (A i) else none := by
  induction ks with
  | nil => rfl
  | cons j r ih =>
    show valV ((kI j, A j) :: mkD r A) (kI i) = _
    rw [valV_cons, ih]
    by_cases h : j = i
    · subst h
      simp [kI]
    · have h2 : ¬ (kI j = kI i) := fun z => h (Sum.inl.inj z)
      have h3 : ¬ (i = j) := fun z => h z.symm
      simp [h2, h3]
theorem mkD_congr {ks : List Int} {A B : Int → V} (h : ∀ i ∈ ks, A i = B i) : mkD ks A = mkD ks B := List.map_congr_left fun i hi => by rw [h i hi]
theorem putK_mkD_new {ks : List Int} {A : Int → V} {i : Int} {v : V} (h : i ∉ ks) : putK (mkD ks A) (kI i) v = mkD (ks ++ [i]) (fun j => if j = i then v else A j) := by
  unfold putK
  rw [valV_any, valV_mkD, if_neg h]
  have e : mkD ks (fun j => if j = i then v else A j) = mkD ks A := mkD_congr fun j hj => if_neg fun z => h (by rw [← z]; exact hj)
  show (if none.isSome = true then _ else _) = _
  rw [if_neg (by decide)]
  show mkD ks A ++ [(kI i, v)] = (ks ++ [i]).map _
  rw [List.map_append, ← e]
  show _ = _ ++ [(kI i, if i = i then v else A i)]
  rw [if_pos rfl]
  rfl
theorem putK_mkD_old {ks : List Int} {A : Int → V} {i : Int} {v : V} (h : i ∈ ks) : putK (mkD ks A) (kI i) v = mkD ks (fun j => if j = i then v else A j) := by
  unfold putK
  rw [valV_any, valV_mkD, if_pos h]
  show (if (some (A i)).isSome = true then _ else _) = _
  rw [if_pos (show (some (A i)).isSome = true from rfl)]
  unfold mkD
  rw [List.map_map]
  refine List.map_congr_left fun j _ => ?_
  show (if kI j = kI i then (kI j, v) else (kI j, A j)) = (kI j, if j = i then v else A j)
  by_cases hj : j = i
  · rw [if_pos (by rw [hj]), if_pos hj]
  · rw [if_neg (show ¬ kI j = kI i from fun z => hj (Sum.inl.inj z)), if_neg hj]
theorem dropK_mkD {ks : List Int} {A : Int → V} {i : Int} : dropK (mkD ks A) (kI i) = mkD (ks.filter fun j => decide (j ≠ i)) A := by
  unfold dropK mkD
  rw [List.filter_map]
  congr 1
  refine List.filter_congr fun j _ => ?_
  show decide (kI j ≠ kI i) = decide (j ≠ i)
  rw [decide_eq_decide]
  exact ⟨fun h z => h (by rw [z]), fun h z => h (Sum.inl.inj z)⟩
theorem mkD_keys {ks : List Int} {A : Int → V} : (mkD ks A).map (·.1) = ks.map Sum.inl := by
  unfold mkD
  rw [List.map_map]
  rfl
theorem mkD_kV {ks : List Int} {A : Int → V} : ((mkD ks A).map fun kv => kV kv.1) = ks.map V.int := by
  unfold mkD
  rw [List.map_map]
  rfl
/-- .. of texts -/
def mkS (ks : List Str) (A : Str → V) : List (Key × V) := ks.map fun i => (kS i, A i)
theorem mkS_len {ks : List Str} {A : Str → V} : (mkS ks A).length = ks.length := List.length_map _
theorem valV_mkS {ks : List Str} {A : Str → V} {i : Str} : valV (mkS ks A) (kS i) = if i ∈ ks then some (A i) else none := by
  induction ks with
  | nil => rfl
  | cons j r ih =>
    show valV ((kS j, A j) :: mkS r A) (kS i) = _
    rw [valV_cons, ih]
    by_cases h : j = i
    · subst h
      simp [kS]
    · have h2 : ¬ (kS j = kS i) := fun z => h (Sum.inr.inj z)
      have h3 : ¬ (i = j) := fun z => h z.symm
      simp [h2, h3]
theorem mkS_congr {ks : List Str} {A B : Str → V} (h : ∀ i ∈ ks, A i = B i) : mkS ks A = mkS ks B := List.map_congr_left fun i hi => by rw [h i hi]
theorem putK_mkS_new {ks : List Str} {A : Str → V} {i : Str} {v : V} (h : i ∉ ks) : putK (mkS ks A) (kS i) v = mkS (ks ++ [i]) (fun j => if j = i then v else A j) := by
  unfold putK
  rw [valV_any, valV_mkS, if_neg h]
  have e : mkS ks (fun j => if j = i then v else A j) = mkS ks A := mkS_congr fun j hj => if_neg fun z => h (by rw [← z]; exact hj)
  show (if none.isSome = true then _ else _) = _
  rw [if_neg (by decide)]
  show mkS ks A ++ [(kS i, v)] = (ks ++ [i]).map _
  rw [List.map_append, ← e]
  show _ = _ ++ [(kS i, if i = i then v else A i)]
  rw [if_pos rfl]
  rfl
theorem putK_mkS_old {ks : List Str} {A : Str → V} {i : Str} {v : V} (h : i ∈ ks) : putK (mkS ks A) (kS i) v = mkS ks (fun j => if j = i then v else A j) := by
  unfold putK
  rw [valV_any, valV_mkS, if_pos h]
  show (if (some (A i)).isSome = true then _ else _) = _
  rw [if_pos (show (some (A i)).isSome = true from rfl)]
  unfold mkS
  rw [List.map_map]
  refine List.map_congr_left fun j _ => ?_
  show (if kS j = kS i then (kS j, v) else (kS j, A j)) = (kS j, if j = i then v else A j)
  by_cases hj : j = i
  · rw [if_pos (by rw [hj]), if_pos hj]
  · rw [if_neg (show ¬ kS j = kS i from fun z => hj (Sum.inr.inj z)), if_neg hj]
theorem dropK_mkS {ks : List Str} {A : Str → V} {i : Str} : dropK (mkS ks A) (kS i) = mkS (ks.filter fun j => decide (j ≠ i)) A := by
  unfold dropK mkS
  rw [List.filter_map]
  congr 1
  refine List.filter_congr fun j _ => ?_
  show decide (kS j ≠ kS i) = decide (j ≠ i)
  rw [decide_eq_decide]
  exact ⟨fun h z => h (by rw [z]), fun h z => h (Sum.inr.inj z)⟩
theorem mkS_keys {ks : List Str} {A : Str → V} : (mkS ks A).map (·.1) = ks.map Sum.inr := by
  unfold mkS
  rw [List.map_map]
  rfl
theorem mkS_kV {ks : List Str} {A : Str → V} : ((mkS ks A).map fun kv => kV kv.1) = ks.map V.str := by
  unfold mkS
  rw [List.map_map]
  rfl
end
/-! ### sorted lists that hold the same are the same -/
theorem int_sorted_eq {a b : List Int} (h : a.Perm b) (ha : a.Pairwise (· ≤ ·)) (hb : b.Pairwise (· ≤ ·)) : a = b :=
  List.Perm.eq_of_pairwise (le := (· ≤ ·)) (fun x y _ _ h1 h2 => Int.le_antisymm h1 h2) ha hb h
theorem sortedS_pw : ∀ (l : List Str), sortedS l = true → l.Pairwise (fun a b => a.cps.toList ≤ b.cps.toList)
  | [], _ => .nil
  | [x], _ => .cons (fun y hy => nomatch hy) .nil
  | x :: y :: r, h => by
    have h1 : (!ltCps y.cps.toList x.cps.toList && risingS y r) = true := h
    rw [Bool.and_eq_true, Bool.not_eq_true', PyProof.Rows.ltCps_eq, decide_eq_false_iff_not, List.not_lt] at h1
    have ih := sortedS_pw (y :: r) h1.2
    refine .cons (fun z hz => ?_) ih
    rcases List.mem_cons.mp hz with e | hz
    · subst e; exact h1.1
    · exact List.le_trans h1.1 (List.rel_of_pairwise_cons ih hz)
theorem str_ext {a b : Str} (h : a.cps.toList = b.cps.toList) : a = b := by
  cases a; cases b
  simp only [Str.mk.injEq]
  exact Array.toList_inj.mp h
theorem str_sorted_eq {a b : List Str} (h : a.Perm b) (ha : sortedS a = true) (hb : sortedS b = true) : a = b :=
  List.Perm.eq_of_pairwise (le := fun a b => a.cps.toList ≤ b.cps.toList) (fun x y _ _ h1 h2 => str_ext (List.le_antisymm h1 h2)) (sortedS_pw a ha) (sortedS_pw b hb) h
theorem nodup_few {α : Type} [DecidableEq α] : ∀ {l D : List α}, l.Nodup → (∀ x ∈ l, x ∈ D) → l.length ≤ D.length
  | [], _, _, _ => Nat.zero_le _
  | x :: l, D, hn, h => by
    obtain ⟨h1, h2⟩ := List.nodup_cons.mp hn
    have hx := h x List.mem_cons_self
    have ih := nodup_few (l := l) (D := D.erase x) h2 fun y hy => (List.mem_erase_of_ne (fun z => h1 (by rw [← z]; exact hy))).mpr (h y (List.mem_cons_of_mem _ hy))
    rw [List.length_erase_of_mem hx] at ih
    have : 0 < D.length := List.length_pos_of_mem hx
    rw [List.length_cons]
    omega
theorem nodup_take {α : Type} {l : List α} {i : Nat} {x : α} (h : l.Nodup) (e : l[i]? = some x) : x ∉ l.take i := by
  obtain ⟨hl, hx⟩ := List.getElem?_eq_some_iff.mp e
  have h2 : l.take i ++ x :: l.drop (i + 1) = l := by
    rw [← hx, ← List.drop_eq_getElem_cons hl, List.take_append_drop]
  rw [← h2, List.nodup_append] at h
  exact fun z => h.2.2 x z x List.mem_cons_self rfl
theorem perm_same {α : Type} [DecidableEq α] {a b : List α} (ha : a.Nodup) (hb : b.Nodup) (h : ∀ x, x ∈ a ↔ x ∈ b) : a.Perm b := (List.perm_ext_iff_of_nodup ha hb).mpr h
end Lw
local macro_rules | `(tactic| walk_at "lw side") => `(tactic| first | assumption | decide | omega | exact Or.inr ⟨by decide, by decide⟩ | exact Or.inl ⟨by decide, by decide⟩ | exact ⟨by decide, by decide⟩ | exact ⟨by omega, by omega⟩)
local macro_rules | `(tactic| walk_at "lw ne") => `(tactic| first | assumption | exact Ne.symm (by assumption) | exact L2.ne_of_none (by assumption) (by assumption) | exact Ne.symm (L2.ne_of_none (by assumption) (by assumption)))
local macro_rules | `(tactic| walk_at "lw hp") => `(tactic| first | assumption | exact L2.upd_same | (refine Eq.trans (L2.upd_ne (by walk_at "lw ne")) ?_; walk_at "lw hp"))
local macro_rules | `(tactic| walk_at "lw sq") => `(tactic| first | assumption | exact L2.SqL.of (by walk_at "lw hp") | exact L2.SqT.of (by walk_at "lw hp"))
local macro_rules | `(tactic| walk_at "lw go") => `(tactic| first
  | (with_reducible refine Lw.g_seq ?_)
  | ((with_reducible refine' Lw.g_var ?h1 ?k1); (case h1 => rfl))
  | (with_reducible refine Lw.g_c ?_)
  | (with_reducible refine Lw.g_op ?_)
  | (with_reducible refine Lw.g_I0 ?_)
  | ((with_reducible refine' Lw.g_I ?h1 ?k1); (case h1 => walk_at "lw side"))
  | ((with_reducible refine' Lw.g_eq ?h1 ?k1); (case h1 => rfl))
  | ((with_reducible refine' Lw.g_ne ?h1 ?k1); (case h1 => rfl))
  | (with_reducible refine Lw.g_nil ?_)
  | (with_reducible refine Lw.g_cons ?_)
  | (with_reducible refine Lw.g_cb ?_)
  | (with_reducible refine Lw.g_call ?_)
  | (with_reducible refine Lw.g_test ?_)
  | (with_reducible refine Lw.g_B ?_)
  | (with_reducible refine Lw.g_exb ?_)
  | (with_reducible refine Lw.g_not ?_)
  | (with_reducible refine Lw.g_and ?_)
  | (with_reducible refine Lw.g_or ?_)
  | (with_reducible refine Lw.g_tup ?_)
  | (with_reducible refine Lw.g_lst ?_)
  | (with_reducible refine Lw.g_ifx ?_)
  | (with_reducible refine Lw.g_fld ?_)
  | (with_reducible refine Lw.g_asg ?_)
  | (with_reducible refine Lw.g_name ?_)
  | (with_reducible refine Lw.g_ret ?_)
  | (with_reducible refine Lw.g_drop ?_)
  | (with_reducible refine Lw.g_next ?_)
  | (with_reducible refine Lw.g_ifs ?_)
  | (with_reducible refine Lw.g_pnx ?_)
  | (with_reducible refine Lw.g_prt ?_)
  | (with_reducible refine Lw.g_pbk ?_)
  | (with_reducible refine Lw.g_pct ?_)
  | (with_reducible refine Lw.g_sl ?_)
  | (with_reducible refine Lw.g_nopart ?_)
  | (with_reducible refine Lw.g_part ?_)
  | (with_reducible refine Lw.g_rpart ?_)
  | (with_reducible refine Lw.g_m1 ?_)
  | (with_reducible refine Lw.g_m0 ?_)
  | (with_reducible refine Lw.g_rstr ?_)
  | (with_reducible refine Lw.g_bm0 ?_)
  | (with_reducible refine Lw.g_bm ?_)
  | (with_reducible refine Lw.g_isN ?_)
  | (with_reducible refine Lw.g_isB ?_)
  | (with_reducible refine Lw.g_notB ?_)
  | (with_reducible refine Lw.g_andV ?_)
  | (with_reducible refine Lw.g_orV ?_)
  | (with_reducible refine Lw.g_notV ?_)
  | (with_reducible refine Lw.g_notN ?_)
  | (with_reducible refine L2.iteT ?_)
  | (with_reducible refine L2.iteF ?_)
  | (with_reducible refine Lw.g_int1 ?_)
  | (with_reducible refine Lw.g_int1b ?_)
  | (with_reducible refine Lw.g_sub ?_)
  | (with_reducible refine Lw.g_forR ?_)
  | (with_reducible refine Lw.g_for ?_)
  | (with_reducible refine Lw.g_lc ?_)
  | (with_reducible refine Lw.g_iStr ?_)
  | (with_reducible refine Lw.g_ritS ?_)
  | (with_reducible refine Lw.g_tyS ?_)
  | (with_reducible refine Lw.g_iList ?_)
  | (with_reducible refine Lw.g_iTup ?_)
  | (with_reducible refine Lw.g_iRng ?_)
  | (with_reducible refine Lw.g_inSg ?_)
  | (with_reducible refine Lw.g_notInSg ?_)
  | (with_reducible refine Lw.g_ord ?_)
  | (with_reducible refine Lw.g_reprB ?_)
  | (with_reducible refine Lw.g_sfld ?_)
  | (with_reducible refine Lw.g_meth ?_)
  | (with_reducible refine Lw.g_make ?_)
  | (with_reducible refine Lw.g_dget ?_)
  | (with_reducible refine Lw.g_din ?_)
  | (with_reducible refine Lw.g_dnotin ?_)
  | (with_reducible refine Lw.g_dput ?_)
  | (with_reducible refine Lw.g_ddel ?_)
  | (with_reducible refine Lw.g_dpop1 ?_)
  | (with_reducible refine Lw.g_dget1 ?_)
  | (with_reducible refine Lw.g_iKeys ?_)
  | (with_reducible refine Lw.g_fldaug ?_)
  | ((with_reducible refine' Lw.g_lenL ?h1 ?k1); (case h1 => walk_at "lw sq"))
  | ((with_reducible refine' Lw.g_lenD ?h1 ?k1); (case h1 => walk_at "lw hp")))
local macro_rules | `(tactic| walk_at "lw") => `(tactic| repeat walk_at "lw go")

/-! ## errors of the program's own -/
namespace Lw
open PySem L2
open PyProof.Rows (envOfC)
/-- a def that may raise -/
structure CalX (P : Program) (w : World) (K : PySem.W.Frag) (mg : Str → Option Value) (base : Heap) (k : Nat) (x : Str) (sp : Sp) : Prop where
  ex : ∃ (f : Addr) (fd : FuncData) (ps : List Str), FnOk P w K mg base (L2.CX P w) k f fd ps sp ∧ mg x = some (.ref f) ∧ PySem.W.keepIn K (.ref f) = true ∧ Binds K fd ps []
/-- an error's class that is called -/
structure Exo (P : Program) (w : World) (K : PySem.W.Frag) (mg : Str → Option Value) (base : Heap) (k : Nat) (x : Str) (C : Addr) (sp : Sp) : Prop where
  ex : ∃ (f : Addr) (fd : FuncData) (ps : List Str), OexC K C ∧ PySem.W.findIn K (.ref C) "__init__" = some (some (.ref f)) ∧ PySem.W.typeIn K (.ref f) = some (.type "function") ∧ FnOk P w K mg base CX0 k f fd ps sp ∧ mg x = some (.ref C) ∧ Binds K fd ps []
/-- its __init__ -/
structure ExiAt (K : PySem.W.Frag) (mg : Str → Option Value) (x : Str) (C : Addr) (qual : Str) (st : Stmt) (ps : List Str) : Prop where
  ex : ∃ (f : Addr) (fd : FuncData), Fun K "__init__" qual st f fd ∧ PySem.W.findIn K (.ref C) "__init__" = some (some (.ref f)) ∧ PySem.W.typeIn K (.ref f) = some (.type "function") ∧ mg x = some (.ref C) ∧ Binds K fd ps []
/-- isinstance of such an error asks these -/
structure XiC (K : PySem.W.Frag) (D : Addr) : Prop where
  a1 : PySem.W.isClsIn K D = true
  a2 : PySem.W.findIn K (.ref D) "__getattribute__" = some (some (.builtin "BaseException.__getattribute__"))
  a3 : PySem.W.findIn K (.ref D) "__getattr__" = some none
  a4 : PySem.W.subIn K (.ref D) (.type "BaseException") = some true
  a5 : PySem.W.findIn K (.ref D) "__class__" = some (some (.builtin "object.__class__"))
  a6 : PySem.W.specialIn K (.builtin "object.__class__") "__get__" = some (some (.builtin "getset_descriptor.__get__"))
  a7 : PySem.W.takesIn K (.builtin "object.__class__") = some true
  a8 : PySem.W.mroIn K D (.type "object") = some true
theorem exm_self {K : PySem.W.Frag} {S : Addr} (k1 : PySem.W.subIn K (.ref S) (.type "BaseException") = some true) (k2 : PySem.W.isClsIn K S = true) (k3 : PySem.W.typeIn K (.ref S) = some (.type "type")) (k4 : PySem.W.subIn K (.ref S) (.ref S) = some true) :
    PySem.W.exmOne K (.ref S) (.ref S) = some true := by
  have k2' : (PySem.W.clsIn K S).isSome = true := k2
  have f1 : (PySem.W.subIn K (.ref S) (.type "BaseException") == some true) = true := by rw [k1]; rfl
  have f2 : ((PySem.W.clsIn K S).isSome && PySem.W.typeIn K (.ref S) == some (.type "type")) = true := by rw [k2', k3]; rfl
  unfold PySem.W.exmOne
  first
    | (simp only [f1, f2, if_true]; exact k4)
    | (show (if _ then (if _ then _ else none) else none) = some true; rw [if_pos f1, if_pos f2]; exact k4)
section
variable {P : Program} {w : World} {K : PySem.W.Frag} {mg : Str → Option Value} {base : Heap}
theorem calX_mk {x : Str} {st : Stmt} {N ps : List Str} {k : Nat} {sp : Sp} (D : DefAt K mg x st ps) (S : FnScope N ps (defScope st)) (len : ∀ vs H Q E, sp vs H Q E → vs.length = ps.length)
    (hbody : ∀ (f : Addr) (cdv : Value) (A : Around) (outer : List Env) (s : Shared) (H : Hp) (vs : List V) (Q : VK) (E : XK), Room k (A.deeper (envOfC x (defScope st) s.heap.objs.size f cdv)) → sp vs H Q E →
      ∃ t, PSs (cxOf (L2.CX P w) P w K mg base N x (defScope st) f cdv A outer s H E) (defBody st) t ∧ t { nx := fun _ H' => Q .non H', rt := Q } (start N vs) H) : CalX P w K mg base (k + 1) x sp := by
  obtain ⟨f, fd, F, hm, hb⟩ := D.ex
  exact ⟨f, fd, ps, F.okX S len fun cdv A outer s H vs Q E hr h => hbody f cdv A outer s H vs Q E hr h, hm, F.kp, hb⟩
theorem exo_mk {x qual : Str} {C : Addr} {st : Stmt} {N ps : List Str} {k : Nat} {sp : Sp} (O : OexC K C) (D : ExiAt K mg x C qual st ps) (S : FnScope N ps (defScope st)) (len : ∀ vs H Q E, sp vs H Q E → vs.length = ps.length)
    (hbody : ∀ (f : Addr) (cdv : Value) (A : Around) (outer : List Env) (s : Shared) (H : Hp) (vs : List V) (Q : VK) (E : XK), Room k (A.deeper (envOfC qual (defScope st) s.heap.objs.size f cdv)) → sp vs H Q E →
      ∃ t, PSs (cxOf CX0 P w K mg base N qual (defScope st) f cdv A outer s H E).nox (defBody st) t ∧ t { nx := fun _ H' => Q .non H', rt := Q } (start N vs) H) : Exo P w K mg base (k + 1) x C sp := by
  obtain ⟨f, fd, F, iC, tI, hm, hb⟩ := D.ex
  exact ⟨f, fd, ps, O, iC, tI, F.ok S len fun cdv A outer s H vs Q E hr h => hbody f cdv A outer s H vs Q E hr h, hm, hb⟩
end
section
variable {X : Cx} {x : Str} {C : Addr} {sp : Sp} {k j : Nat} {e : Expr} {es : List Expr} {p pos : Pos} {t : TA} {W : WX}
theorem pe_cX (c : CalX X.prog X.w X.K X.mg X.base k x sp) (tk : Takes X W) (hr : Room j X.A) (hk : k ≤ j) (hg : Gl X x) (ha : PA X (e :: es) t)
    (hdb : (x == ("__debug__" : Str)) = false := by decide) (he : starEach (e :: es) X.env = (false, eval e X.env) :: starEach es X.env := by rfl) (hpl : (backTo pos (starEach es X.env)).any (·.1) = false := by rfl) :
    PE X (.Call (.Name x p) (e :: es) [] pos) (tCallS sp (WE W) t) := by
  obtain ⟨f, fd, ps, F, hm, kp, b⟩ := c.ex
  exact pe_callS F (hr.mono hk) hg hm kp b (fun σ => passAt tk σ) ha hdb he hpl
theorem pmk_x (c : Exo X.prog X.w X.K X.mg X.base k x C sp) (hr : Room j X.A) (hk : k + 1 ≤ j) (hg : Gl X x) (ha : PA X (e :: es) t)
    (hdb : (x == ("__debug__" : Str)) = false := by decide) (he : starEach (e :: es) X.env = (false, eval e X.env) :: starEach es X.env := by rfl) (hpl : (backTo pos (starEach es X.env)).any (·.1) = false := by rfl) :
    PMk X (.Call (.Name x p) (e :: es) [] pos) (tMkO C sp [] t) := by
  obtain ⟨f, fd, ps, O, iC, tI, F, hm, b⟩ := c.ex
  exact pmk_oex O iC tI F (hr.mono hk) b .nil pass0 hg hm ha hdb he hpl
def tRaise (m : L2.St → Hp → XK → Prop) (W : WX) : TS := fun _ σ H => m σ H fun cls d H' => W cls d σ H'
theorem ps_rs {m : L2.St → Hp → XK → Prop} (hc : X.calm = true) (tk : Takes X W) (he : PMk X e m) : PS X (.Raise (some e) none pos) (tRaise m W) := ps_raise hc tk he
/-- .. except C as n -/
def tTryAs (K : PySem.W.Frag) (c : Value) (i : Nat) (tb : WX → TS) (ts : Addr → Value → Option Addr → TS) (Wout : WX) : TS := fun D σ H => tb (wAs K c i ts Wout D) D σ H
theorem ps_tryAs {n : Str} {c : Value} {i : Nat} {body suite : List Stmt} {b₀ : Stmt} {np pos' : Pos} {tb : WX → TS} {ts : Addr → Value → Option Addr → TS} {Wout : WX}
    (hs : X.stack = X.env :: X.outer) (hf : X.env.frame = some X.env.locals) (hN : X.N.Nodup) (hi : X.N[i]? = some n) (hln : X.env.kindOf n = some .local) (hc : Names X x c) (tk : Takes X Wout)
    (hb : ∀ (W : WX) (pn : List (Addr × Obj)) (xe : Value → Shared → Prop), Takes (X.tr pn xe) W → PassesOwn (model X.prog X.w) X.A X.env xe → PSs (X.tr pn xe) body (tb W))
    (hsu : ∀ (a : Addr) (oe : Obj) (cls : Value) (d : Option Addr) (pn : List (Addr × Obj)), Zc cls d oe → (∃ vs, oe.data = .fields vs) → PSs (X.suite a ((a, oe) :: pn)) (b₀ :: suite) (ts a cls d)) :
    PS X (.Try body [.ExceptHandler (some (.Name x np)) (some n) (b₀ :: suite) pos'] [] [] pos) (tTryAs X.K c i tb ts Wout) := ps_try_as hs hf hN hi hln hc tk hb hsu
def rIsE2 (K : PySem.W.Frag) (D a : Addr) (cls : Value) (d : Option Addr) : List V → Hp → VK → Prop := fun xs H Q => ∃ (c : V) (cv : Value) (b : Bool) (dd : Addr) (fs : List (Str × V)), xs = [.ref a, c] ∧ cls = .ref D ∧ d = some dd ∧ H dd = some (.xd fs) ∧ (∀ u, RelV c u → u = cv) ∧ PySem.W.kitOne K (.ref D) cv = some b ∧ Q (.bl b) H
theorem call_isE2 {a D : Addr} {oe : Obj} {cls : Value} {d : Option Addr} {pn : List (Addr × Obj)} (Y : XiC X.K D) (hz : Zc cls d oe) (hf : ∃ vs, oe.data = .fields vs) : CallR (X.suite a ((a, oe) :: pn)) (.builtin "isinstance") (rIsE2 X.K D a cls d) := by
  intro pins s σ H xs us Q I r h
  obtain ⟨c, cv, b, dd, fs, rfl, rfl, rfl, hdd, hcv, e, q⟩ := h
  obtain ⟨u, v, rfl, r1, r2⟩ := vals2 r
  cases r1
  have ev := hcv _ r2
  subst ev
  obtain ⟨ha, _⟩ := I.pin (a, oe) (List.mem_append_left _ List.mem_cons_self)
  obtain ⟨vs, hd⟩ := hf
  have hx : ObjOk X.prog X.w H s.heap dd (.xd fs) := I.hok dd _ hdd
  obtain ⟨mA, hns, hr⟩ := hx
  obtain ⟨od, ho, hl⟩ := lookIn_ns hns
  have J : PySem.W.InstAt s.heap a oe D (some od) := ⟨ha, hz.1, by unfold PySem.W.notCls; rw [hd] <;> rfl, by rw [hz.2]; exact ho⟩
  exact PySem.W.kia_one (PySem.W.kitx_exc (od := some od) Y.a1 Y.a2 Y.a3 Y.a4 Y.a5 Y.a6 Y.a7 Y.a8) I.kIn J e (fun z => nomatch z) fun tk => ⟨.bl b, H, I.kept (t' := tk) fun _ _ z => z, rfl, q⟩
end
/-- self.f = y, the only field -/
def spXInit (C : Addr) (f : Str) : Sp := fun vs H Q _ => ∃ (a : Addr) (v : V), vs = [.ref a, v] ∧ H a = some (exo a C none) ∧ ∀ dx, H dx = none → dx ≠ a → Q .non (upd (upd H dx (exd dx [(f, v)])) a (exo a C (some dx)))
section
variable {σ : L2.St} {H : Hp} {Q : VK} {K : PySem.W.Frag} {D : Ends} {ta te to : TE} {tl : TA} {v : V} {W : WX}
def rMkO (C : Addr) (sp : Sp) (vs : List V) (H1 : Hp) (Q : XK) : Prop := vs.length ≤ 1000 ∧ ∀ a, H1 a = none → sp (.ref a :: (vs ++ [])) (upd H1 a (exo a C none))
  (fun v H2 => v = .non ∧ ∃ (d : Addr) (fs : List (Str × V)), H2 a = some (exo a C (some d)) ∧ H2 d = some (exd d fs) ∧ H1 d = none ∧ Q (.ref C) (some d) (upd (del H2 a) d (.xd fs))) (fun _ _ _ => False)
theorem g_raise {C : Addr} {sp : Sp} (k : tl σ H fun vs H1 => rMkO C sp vs H1 fun cls d H' => W cls d σ H') : tRaise (tMkO C sp [] tl) W D σ H := k
theorem g_rmkO {C : Addr} {f : Str} {Q : XK} (k : ∀ d H', H d = none → Same H H' → H' d = some (.xd [(f, v)]) → Q (.ref C) (some d) H') : rMkO C (spXInit C f) [v] H Q := by
  refine ⟨(by show 1 ≤ 1000; decide), fun a na => ⟨a, v, rfl, upd_same, fun dx ndx nex => ⟨rfl, dx, [(f, v)], upd_same, ?_, ?_, ?_⟩⟩⟩
  · rw [upd_ne nex, upd_same]
  · rw [upd_ne nex] at ndx; exact ndx
  · rw [upd_ne nex] at ndx
    refine k dx _ ndx (fun b o e => ?_) upd_same
    have h1 := ne_of_none e ndx
    have h2 := ne_of_none e na
    rw [upd_ne h1, del_ne h2, upd_ne h2, upd_ne h1, upd_ne h2]
    exact e
theorem g_tryAs {c : Value} {i : Nat} {tb : WX → TS} {ts : Addr → Value → Option Addr → TS} {Wout : WX} (k : tb (wAs K c i ts Wout D) D σ H) : tTryAs K c i tb ts Wout D σ H := k
theorem g_caught {C : Addr} {i : Nat} {ts : Addr → Value → Option Addr → TS} {Wout : WX} {d : Option Addr} (te : PySem.W.exmOne K (.ref C) (.ref C) = some true)
    (k : ∀ a, H a = none → ts a (.ref C) d { nx := fun σ' H' => D.nx (σ'.set i none) H', rt := D.rt, bk := fun σ' H' => D.bk (σ'.set i none) H', ct := fun σ' H' => D.ct (σ'.set i none) H' } (σ.set i (some (.ref a))) H) : wAs K (.ref C) i ts Wout D (.ref C) d σ H :=
  ⟨true, te, fun _ a ha => k a ha, fun q => Bool.noConfusion q⟩
theorem g_callS {sp : Sp} {E : L2.St → XK} (k : tl σ H fun vs H1 => sp vs H1 Q (E σ)) : tCallS sp E tl σ H Q := k
def rXf (a : Addr) (cls : Value) (d : Option Addr) (C : Addr) (f : Str) (x : V) (H1 : Hp) (Q : VK) : Prop := x = .ref a ∧ cls = .ref C ∧ ∃ (dd : Addr) (fs : List (Str × V)) (v : V), d = some dd ∧ H1 dd = some (.xd fs) ∧ fs.lookup f = some v ∧ Q v H1
theorem g_xf {a C : Addr} {cls : Value} {d : Option Addr} {f : Str} (k : te σ H fun x H1 => rXf a cls d C f x H1 Q) : tXf a cls d C f te σ H Q := k
theorem g_rxf {a C dd : Addr} {f : Str} (h : H dd = some (.xd [(f, v)])) (k : Q v H) : rXf a (.ref C) (some dd) C f (.ref a) H Q := ⟨rfl, rfl, dd, _, v, rfl, h, lk_eq, k⟩
end
end Lw

/-! ## a number as sixteen hexadecimal signs -/
namespace Lw
open PySem L2
/-- the signs of n in the base 16, with zeros in front, sixteen at least -/
def hexT (n : Nat) : Str := ⟨(List.replicate (16 - ((Nat.toDigits 16 n).map Char.toNat).length) 48 ++ (Nat.toDigits 16 n).map Char.toNat).toArray⟩
def spec16 : Str := "016x"
def fs16 : Builtin.Float.FormatSpec := { fill := 48, align := 61, width := some 16, type := some 120 }
section
open Builtin Builtin.Float
theorem spec_reads : parseFormatSpec spec16.cps.toList "int" 62 = .ok fs16 := by
  first | rfl | decide +kernel | kernel_rfl
theorem digs_ne (n : Nat) : ((Nat.toDigits 16 n).map Char.toNat).isEmpty = false := by
  have h := PyProof.Rows.tDigits_len_ge 16 n
  cases e : Nat.toDigits 16 n with
  | nil => rw [e] at h; simp at h
  | cons a b => rfl
theorem field16 (n : Nat) : PyProof.Rows.intField' fs16 false [] ((Nat.toDigits 16 n).map Char.toNat) [] 4 = hexT n :=
  PyProof.Rows.intField'_zero_nonneg fs16 _ 4 rfl rfl (digs_ne n) rfl rfl
theorem hex_len {n : Nat} (h : n < 2 ^ 64) : (hexT n).length ≤ 100000 := by
  have h1 := PyProof.Rows.tDigits_len_le 16 n
  have h2 : (Nat.toDigits 16 n).length ≤ 16 := by
    have e := (Nat.length_toDigits_le_iff (b := 16) (n := n) (k := 16) (by decide) (by decide)).mpr (by simpa using h)
    exact e
  unfold hexT Str.length
  simp only [List.size_toArray, List.length_append, List.length_replicate, List.length_map]
  omega
section
variable {prog : Program} {w : World} {A : Around} {E : Value → Shared → Prop} {s : Shared}
set_option maxRecDepth 100000 in
theorem format_hex {n : Nat} {t : Tok} {Q : Value → Shared → Prop} (hn : n < 2 ^ 64) (h : Q (.str (hexT n) (s.toks + 1)) { s with toks := s.toks + 1 + 1 }) :
    wpAny (model prog w) A (formatField (.int (n : Int) t) spec16) Q E s := by
  show wpAny _ _ (holding [.int (n : Int) t] (pyFormat (.int (n : Int) t) spec16)) Q E s
  refine wpAny_holding ?_
  unfold pyFormat
  refine wpAny_bind (wpAny_mkStr ?_ (by decide +kernel))
  refine wpAny_bind (m := callSpecial? (.int (n : Int) t) (Str.ofString "__format__") [.str spec16 s.toks]) (wpAny_callSpecial?_slot (name := Str.ofString "__format__") (typeIs_int _ (n : Int) t) PyProof.Rows.slot_int_format ?_)
  refine wpAny_call (codeAny_call_builtin PyProof.Rows.slot_int_format.plain PyProof.Rows.entry_int_format (PyProof.Rows.slot_int_format.check _ _ _ _ _ _ _ _ (typeIs_int _ (n : Int) t) (PyProof.Rows.args_int_format _ _) ?_))
  have e1 : (spec16.length == 0) = false := by decide +kernel
  have e2 : ((spec16.cps.toList.drop 1).any (· ≥ 128) || (spec16.cps.getD 0 0 ≥ 128 && !([60, 62, 61, 94] : List Nat).contains (spec16.cps.getD 1 0))) = false := by decide +kernel
  unfold Builtin.«int.__format__»
  simp only [selfAndOne, noKeywords, Int.intOfSelf, asInt?, asStr?, List.isEmpty_nil, if_true, pure_bind, bind_pure, bind_assoc, e1, e2, Bool.false_eq_true, if_false,
    show (Value.str spec16 s.toks == Value.none) = false from rfl]
  refine wpAny_bind (wpAny_typeNameOf (T := "str") (typeIs_str _ _ _) (by decide) fun _ => ?_)
  refine wpAny_bind (PyProof.Rows.wpAny_typeNameOfCut_int ?_)
  simp only [spec_reads]
  rw [if_pos (by decide)]
  obtain ⟨f, hf, hty, hpr, hz, hal, hw, hgr, hsg⟩ : ∃ f, f = fs16 ∧ f.type = some 120 ∧ f.precision = none ∧ f.noNeg0 = false ∧ f.alt = false ∧ f.width.getD 0 ≤ 100000 ∧ f.grouping = none ∧ f.sign = none := ⟨fs16, rfl, rfl, rfl, rfl, rfl, by decide, rfl, rfl⟩
  have ef := field16 n
  have hl : (hexT n).length ≤ sizeLine := Nat.le_trans (hex_len hn) (by decide)
  rw [← hf] at ef ⊢
  simp only [hty, Option.getD_some]
  show wpAny _ _ (if _ then _ else _) _ _ _
  rw [if_neg (by simp [hpr])]
  show wpAny _ _ (if _ then _ else _) _ _ _
  rw [if_neg (by simp [hz])]
  show wpAny _ _ (if _ then _ else _) _ _ _
  rw [if_neg (by decide)]
  have hw' : ¬ (f.width.getD 0 > 100000) := by omega
  have eneg : decide ((n : Int) < 0) = false := decide_eq_false (by omega)
  simp only [show ((120 : Nat) == 98) = false from rfl, show ((120 : Nat) == 111) = false from rfl, show ((120 : Nat) == 120) = true from rfl, show ((120 : Nat) == 88) = false from rfl, show ((16 : Nat) == 10) = false from rfl, Bool.false_eq_true, if_false, if_true, hw', hal, eneg, Int.natAbs_natCast]
  show wpAny _ _ (retStr _) _ _ _
  unfold retStr
  rw [← ef] at hl h
  have em : (Nat.toDigits 16 n).map Char.toNat = (Nat.toDigits 16 n).map (fun c => c.toNat) := rfl
  rw [em] at hl h
  refine wpAny_bind (wpAny_mkStr (wpAny_pure ?_) ?hs2)
  case hs2 =>
    conv => lhs; arg 1; whnf
    simp only [PyProof.Rows.intField', hgr, hsg, Bool.false_eq_true, if_false] at hl ⊢
    exact hl
  dsimp only
  refine wpAny_bind (wpAny_isInstance (typeIs_str _ _ _) isSubtype_str_str (wpAny_pure ?_))
  conv => arg 1; arg 1; whnf
  simp only [PyProof.Rows.intField', hgr, hsg, Bool.false_eq_true, if_false] at h ⊢
  exact h
end
end
section
variable {X : Cx}
/-- {e:016x} -/
def rHex (x : V) (H : Hp) (Q : VK) : Prop := ∃ n : Nat, x = .int (n : Int) ∧ n < 2 ^ 64 ∧ Q (.str (hexT n)) H
def tHex (te : TE) : TE := fun σ H Q => te σ H fun x H1 => rHex x H1 Q
theorem g_hex {te : TE} {σ : L2.St} {H : Hp} {Q : VK} (k : te σ H fun x H1 => rHex x H1 Q) : tHex te σ H Q := k
theorem pe_hex {e spec : Expr} {te : TE} {pos : Pos} (he : PE X e te) (hs : PE X spec (tC (.str spec16))) : PE X (.FormattedValue e (-1) (some spec) pos) (tHex te) := by
  refine ⟨fun pins s σ H Q I h => ?_⟩
  refine wpAny_FormattedValue_spec (thn (he.run pins s σ H _ I h) fun v s1 hv => ?_)
  obtain ⟨x, H1, I1, r1, n, rfl, hn, q⟩ := hv
  obtain ⟨t, rfl⟩ := r1
  refine thn (hs.run pins s1 σ H1 (fun y H2 => y = .str spec16 ∧ Q (.str (hexT n)) H2) I1 ⟨rfl, q⟩) fun u s2 hu => ?_
  obtain ⟨y, H2, I2, r2, rfl, q2⟩ := hu
  obtain ⟨t2, rfl⟩ := r2
  exact ⟨spec16, t2, rfl, format_hex hn ⟨.str (hexT n), H2, I2.tok _, ⟨_, rfl⟩, q2⟩⟩
end
end Lw

namespace Lw
open PySem L2
def kinds3 : List Str := ["layer", "image", "bundle"]
def claimed4 : List Str := ["has", "start", "put", "name"]
end Lw
/-! ## sets of texts: set(list), sorted(set) -/
namespace Lw
open PySem PySem.Spec PyProof.Rows L2
def txOf (e : Int × Value) : Str := match e.2 with | .str x _ => x | _ => Str.empty
def GoodS (P : Program) (w : World) (e : Int × Value) : Prop := ∃ x tk, e.2 = Value.str x tk ∧ e.1 = (PySem.strKind P w).hash x
/-- the set of texts at a: its members m, without doubles -/
def TSet (P : Program) (w : World) (h : Heap) (a : Addr) (m : Str → Bool) (n : Nat) : Prop :=
  ∃ o es ep t, h.get? a = some o ∧ o.ExactSet ∧ o.data = .set es ep t ∧ (∀ e ∈ es.toList, GoodS P w e) ∧ (es.toList.map txOf).Nodup ∧ (∀ k, m k = true ↔ k ∈ es.toList.map txOf) ∧
    es.size < scanBound ∧ t.fits es.size = true ∧ es.size = n ∧ Ris t.place.toList ∧ (w.params.followText "set-order" = true ∨ t.led = true)
section
variable {P : Program} {w : World} {h h' : Heap} {a : Addr} {m : Str → Bool} {n : Nat}
theorem TSet.keep (R : TSet P w h a m n) (k : ∀ o, h.get? a = some o → h'.get? a = some o) : TSet P w h' a m n := by
  obtain ⟨o, es, ep, t, ho, r⟩ := R
  exact ⟨o, es, ep, t, k o ho, r⟩
theorem goodS_elems {l : List (Int × Value)} (g : ∀ e ∈ l, GoodS P w e) : ElemsOf (PySem.strKind P w) l := fun e he => by
  obtain ⟨x, tk, h1, h2⟩ := g e he
  exact ⟨⟨x, by rw [h1]; exact strKind_is _ _ _ _, h2⟩, by rw [h1] <;> rfl⟩
theorem goodS_is {e : Int × Value} (g : GoodS P w e) (k : Str) : (PySem.strKind P w).is k e.2 = true ↔ txOf e = k := by
  obtain ⟨x, tk, h1, _⟩ := g
  unfold txOf
  rw [h1]
  constructor
  · intro q
    have := Value.isStrOf_shape (x := k) (v := Value.str x tk) q
    obtain ⟨t, e⟩ := this
    cases e
    rfl
  · intro q
    subst q
    exact strKind_is _ _ _ _
theorem goodS_mem {l : List (Int × Value)} (g : ∀ e ∈ l, GoodS P w e) (k : Str) : k ∈ l.map txOf ↔ ∃ e ∈ l, (PySem.strKind P w).is k e.2 = true := by
  rw [List.mem_map]
  exact ⟨fun ⟨e, he, q⟩ => ⟨e, he, (goodS_is (g e he) k).2 q⟩, fun ⟨e, he, q⟩ => ⟨e, he, (goodS_is (g e he) k).1 q⟩⟩
end
section
variable {P : Program} {w : World} {A : Around} {E : Value → Shared → Prop} {s : Shared} {a : Addr} {m : Str → Bool} {n : Nat}
theorem tset_tail {g : Bool → Sem Unit} (hg : ∀ (b : Bool) (s₁ : Shared) (Q' : Unit → Shared → Prop), Q' () s₁ → wpAny (model P w) A (g b) Q' E s₁)
    {o : Obj} {es : Array (Int × Value)} {ep : Nat} {t : SetTable} (ho : s.heap.get? a = some o) (hex : o.ExactSet) (hd : o.data = .set es ep t)
    {es1 : Array (Int × Value)} {t2 : SetTable} {m' : Str → Bool} (g1 : ∀ e ∈ es1.toList, GoodS P w e) (nd1 : (es1.toList.map txOf).Nodup) (m1 : ∀ k, m' k = true ↔ k ∈ es1.toList.map txOf)
    (hb1 : es1.size < scanBound) (hf2 : t2.fits es1.size = true) (hr : Ris t2.place.toList) (hl : w.params.followText "set-order" = true ∨ t2.led = true) {wasDummy : Bool} {R : Option Bool → Shared → Prop}
    (hR : ∀ h', Heap.SameBut a s.heap h' → TSet P w h' a m' es1.size → R (some true) { s with heap := h' }) :
    wpAny (model P w) A (do
        storeSet a es1 t2
        if (!wasDummy && t2.tooFull) = true then do
            g (relayAll t2 es1 (SetTable.grown es1.size)).2.2
            storeSet a (relayAll t2 es1 (SetTable.grown es1.size)).1 (relayAll t2 es1 (SetTable.grown es1.size)).2.1
            pure (some true)
          else pure (some true)) R E s := by
  refine wpAny_bind (wpAny_storeSet_of ho hd ?_ (fits_of_scanBound hb1))
  have ho1 := store_at (es' := es1) (t' := t2) ho hd
  have sb1 := Heap.SameBut.update s.heap a (Obj.putSet es1 t2)
  split
  · have pm := relayAll_perm t2 es1 (SetTable.grown es1.size)
    have hf3 := relayAll_fits t2 es1 (SetTable.grown es1.size)
    have hr3 := relayAll_ris t2 es1 (SetTable.grown es1.size)
    have hl3 := relayAll_led t2 es1 (SetTable.grown es1.size)
    generalize relayAll t2 es1 (SetTable.grown es1.size) = Z at pm hf3 hr3 hl3 ⊢
    obtain ⟨es2, t3, gave⟩ := Z
    dsimp only at pm hf3 hr3 hl3 ⊢
    have hsz : es2.size = es1.size := by rw [← Array.length_toList, pm.length_eq, Array.length_toList]
    have hb2 : es2.size < scanBound := by rw [hsz]; exact hb1
    refine wpAny_bind (hg _ _ _ ?_)
    refine wpAny_bind (wpAny_storeSet_of ho1 rfl ?_ (fits_of_scanBound hb2))
    have ho2 := store_at (es' := es2) (t' := t3) ho1 rfl
    refine wpAny_pure (hR _ (sb1.trans (Heap.SameBut.update _ a _)) ?_)
    exact ⟨_, es2, _, t3, ho2, hex, rfl, fun e he => g1 e (pm.mem_iff.mp he), (pm.map txOf).nodup_iff.mpr nd1, fun k => (m1 k).trans (pm.map txOf).mem_iff.symm, hb2, hf3, hsz, hr3, hl.imp id fun z => by rw [hl3]; exact z⟩
  · exact wpAny_pure (hR _ sb1 ⟨_, es1, _, t2, ho1, hex, rfl, g1, nd1, m1, hb1, hf2, rfl, hr, hl⟩)
theorem tset_add {k : Str} {tk : Tok} {Q : Bool → Shared → Prop} (R : TSet P w s.heap a m n) (room : n + 1 < scanBound)
    (hQ : ∀ h', Heap.SameBut a s.heap h' → TSet P w h' a (fun j => m j || decide (j = k)) (if m k = true then n else n + 1) → Q (!m k) { s with heap := h' }) :
    wpAny (model P w) A (setAddHashed a (.str k tk) ((PySem.strKind P w).hash k)) Q E s := by
  obtain ⟨o, es, ep, t, ho, hex, hd, g, nd, hm, hb, hf, hn, hr, hl⟩ := R
  have hkey : (PySem.strKind P w).is k (.str k tk) = true := strKind_is _ _ _ _
  have hsc : (Value.str k tk).scannable = true := rfl
  have hel : ElemsOf (PySem.strKind P w) es.toList := goodS_elems g
  unfold setAddHashed setAddHashedIn
  refine wpAny_holding (wpAny_bind (wpAny_setState_of ho hd hf ?_))
  dsimp only
  rw [byScan_of hsc hb hel]
  simp only [↓reduceIte]
  unfold setAddByScan
  refine wpAny_bind ?_
  refine wpAny_bind (wpAny_rule ?_)
  refine wpAny_bind (wpAny_setScan_of hkey ho hd hf hel ?_)
  cases hfi : List.findIdx? (fun e => (PySem.strKind P w).is k e.2) es.toList with
  | some j =>
    dsimp only
    obtain ⟨hj, pj, _⟩ := List.findIdx?_eq_some_iff_getElem.mp hfi
    have hSk : m k = true := (hm k).2 ((goodS_mem (P := P) (w := w) g k).2 ⟨es.toList[j], List.getElem_mem hj, pj⟩)
    refine wpAny_pure (wpAny_pure ?_)
    have q := hQ s.heap (Heap.SameBut.refl a s.heap) ⟨o, es, ep, t, ho, hex, hd, g, nd, fun i => by
      rw [Bool.or_eq_true, decide_eq_true_eq, ← hm i]
      exact ⟨fun z => z.elim id (fun e => e ▸ hSk), .inl⟩, hb, hf, by rw [if_pos hSk]; exact hn, hr, hl⟩
    rw [hSk] at q
    exact q
  | none =>
    dsimp only
    have hnk : k ∉ es.toList.map txOf := fun z => by
      obtain ⟨e, he, q⟩ := (goodS_mem (P := P) (w := w) g k).1 z
      have c := List.findIdx?_eq_none_iff.mp hfi e he
      rw [q] at c
      cases c
    have hSk : m k = false := by
      cases q : m k with
      | false => rfl
      | true => exact absurd ((hm k).1 q) hnk
    have hgw : ∀ (b : Bool) {s₁ : Shared} {Q' : Unit → Shared → Prop}, Q' () s₁ → wpAny (model P w) A (match b with | true => rule "set.scan.the-table-gave-way" | false => pure ()) Q' E s₁ :=
      fun b s₁ Q' q => by cases b <;> first | exact wpAny_pure q | exact wpAny_rule q
    have pm := layNew_perm t es ((PySem.strKind P w).hash k) (.str k tk)
    have hf1 := layNew_fits t es ((PySem.strKind P w).hash k) (.str k tk)
    have hr1 := layNew_ris t es ((PySem.strKind P w).hash k) (.str k tk) hr
    have hl1 := layNew_led t es ((PySem.strKind P w).hash k) (.str k tk)
    generalize layNew t es ((PySem.strKind P w).hash k) (.str k tk) = Z at pm hf1 hr1 hl1 ⊢
    obtain ⟨es1, t1, wasDummy, gave⟩ := Z
    dsimp only at pm hf1 hr1 hl1 ⊢
    rw [Array.toList_push] at pm
    have pc : es1.toList.Perm (((PySem.strKind P w).hash k, Value.str k tk) :: es.toList) := pm.trans (List.perm_append_singleton _ _)
    have pk : (es1.toList.map txOf).Perm (k :: es.toList.map txOf) := pc.map txOf
    have g1 : ∀ e ∈ es1.toList, GoodS P w e := fun e he => by
      rcases List.mem_cons.mp (pc.mem_iff.mp he) with z | z
      · rw [z]; exact ⟨k, tk, rfl, rfl⟩
      · exact g e z
    have nd1 : (es1.toList.map txOf).Nodup := pk.nodup_iff.mpr (List.nodup_cons.mpr ⟨hnk, nd⟩)
    have m1 : ∀ i, (m i || decide (i = k)) = true ↔ i ∈ es1.toList.map txOf := fun i => by
      rw [Bool.or_eq_true, decide_eq_true_eq, hm i, pk.mem_iff, List.mem_cons]
      exact Or.comm
    have hsz : es1.size = n + 1 := by rw [← Array.length_toList, pc.length_eq, List.length_cons, Array.length_toList, hn]
    have hb1 : es1.size < scanBound := by rw [hsz]; exact room
    have hled : w.params.followText "set-order" = true ∨ t1.led = true := hl.imp id fun z => by rw [hl1]; exact z
    have fin : ∀ h', Heap.SameBut a s.heap h' → TSet P w h' a (fun j => m j || decide (j = k)) es1.size → Q true { s with heap := h' } := fun h' sb r => by
      have q := hQ h' sb
      rw [hSk] at q
      rw [hsz] at r
      exact q r
    refine wpAny_bind (hgw _ ?_)
    split
    · refine wpAny_bind ?_
      rw [hashByValue_scannable 8 hsc]
      refine wpAny_pure ?_
      refine tset_tail ?_ ho hex hd g1 nd1 m1 hb1 ?_ ?_ ?_ ?_
      · intro b s₁ Q' q; cases b <;> first | exact wpAny_pure q | exact wpAny_rule q
      · first | (split <;> first | exact hf1 | exact SetTable.fits_plain_off hf1) | exact hf1
      · first | (split <;> exact hr1) | exact hr1
      · first | (split <;> exact hled) | exact hled
      · intro h' sb r; dsimp only; exact wpAny_pure (fin h' sb r)
    · refine wpAny_bind (wpAny_pure ?_)
      simp only [↓reduceIte]
      refine tset_tail ?_ ho hex hd g1 nd1 m1 hb1 hf1 hr1 hled ?_
      · intro b s₁ Q' q; cases b <;> first | exact wpAny_pure q | exact wpAny_rule q
      · intro h' sb r; dsimp only; exact wpAny_pure (fin h' sb r)
theorem tset_fresh {h : Heap} {a : Addr} (ho : h.get? a = some { cls := .type "set", dict := none, data := .set #[] 0 (.fresh 0 0 (!w.params.followText "set-order")) }) : TSet P w h a (fun _ => false) 0 :=
  ⟨_, #[], 0, _, ho, ⟨rfl, rfl, rfl⟩, rfl, (fun e he => by simp at he), (by simp), (fun k => by simp), (by decide), (by rfl), rfl, List.Pairwise.nil, by
    show _ ∨ (!w.params.followText "set-order") = true
    cases w.params.followText "set-order"
    · exact .inr rfl
    · exact .inl rfl⟩
/-- the members among the first i of xs -/
def inS (xs : List Str) (i : Nat) (k : Str) : Bool := decide (k ∈ xs.take i)
theorem inS_next {xs : List Str} {i : Nat} {x : Str} (h : xs[i]? = some x) (k : Str) : (inS xs i k || decide (k = x)) = inS xs (i + 1) k := by
  unfold inS
  rw [take_ok h, Bool.eq_iff_iff]
  simp
theorem tset_loop {I : Addr} {fp wr : List Addr} {G : Array GenState → Array GenState → Prop} {n : Nat} {Pv : Nat → Value → Prop} {St : Nat → Shared → Prop} {R : Result → Shared → Prop}
    (W : WalksS P w A.in1 I fp wr G n Pv St) (S : Addr) (hSf : S ∉ fp) (xs : List Str) (hn : n = xs.length) (hfew : xs.length < 4000) (hval : ∀ i v, Pv i v → ∃ x t, xs[i]? = some x ∧ v = .str x t) :
    ∀ (k i : Nat) (s : Shared), n - i = k → i ≤ n → St i s → (∃ c, c ≤ i ∧ TSet P w s.heap S (inS xs i) c) →
      (∀ s' c, Moved (S :: wr) G s s' → c ≤ n → TSet P w s'.heap S (inS xs n) c → R (.ok (.ret .none)) s') →
      codeAny (model P w) A (.builtin "set.update.loop" ⟨[.ref S, .ref I], []⟩) R s := by
  have hSw : S ∉ wr := fun h => hSf (W.sub _ h)
  have hsub : ∀ b ∈ wr, b ∈ S :: wr := fun b hb => List.mem_cons_of_mem _ hb
  intro k
  induction k with
  | zero =>
    intro i s hk hi hst ⟨c, hc, hS⟩ hR
    have hin : i = n := by omega
    subst hin
    refine codeAny_builtin F.entry_set_update_loop ?_
    rw [Around.under_plainId F.plain_set_update_loop _]
    show wpAny _ A.in1 (pyNext (.ref I) >>= _) _ _ s
    refine wpAny_bind (W.done s _ _ hst fun s' hm => ?_)
    show wpAny _ A.in1 (ret Value.none) _ _ s'
    exact wpAny_pure (hR s' c (hm.mono hsub) hc (hS.keep fun o e => hm.heap S o hSw e))
  | succ k ih =>
    intro i s hk hi hst ⟨c, hc, hS⟩ hR
    have hlt : i < n := by omega
    refine codeAny_builtin F.entry_set_update_loop ?_
    rw [Around.under_plainId F.plain_set_update_loop _]
    show wpAny _ A.in1 (pyNext (.ref I) >>= _) _ _ s
    refine wpAny_bind (W.item i s _ _ hlt hst fun v s' hP hst' hm => ?_)
    obtain ⟨x, t, hx, rfl⟩ := hval i v hP
    have hS' : TSet P w s'.heap S (inS xs i) c := hS.keep fun o e => hm.heap S o hSw e
    show wpAny _ A.in1 (holding [Value.str x t] (setAdd S (.str x t)) >>= _) _ _ s'
    refine wpAny_bind (wpAny_holding ?_)
    unfold setAdd
    refine wpAny_holding ?_
    refine wpAny_bind ((PySem.strKind P w).pyHash (k := x) (strKind_is _ _ _ _) ?_)
    refine tset_add (s := { s' with toks := s'.toks + 1 }) hS' (by unfold scanBound; omega) fun h' hsb hS2 => ?_
    have e : (fun j => inS xs i j || decide (j = x)) = inS xs (i + 1) := funext (inS_next hx)
    rw [e] at hS2
    refine wpAny_pure ⟨plainId_quiet F.plain_set_update_loop _, ih (i + 1) _ (by omega) hlt (W.frame _ s' _ _ hst' (Nat.le_succ _) fun b hb o e => ?_) ⟨_, ?_, hS2⟩ fun s'' c'' hm'' hc'' hS'' => ?_⟩
    · rw [hsb.2 b (fun h : b = S => hSf (by rw [← h]; exact hb))]; exact e
    · split <;> omega
    · refine hR s'' c'' (Moved.trans W.gtrans ((hm.mono hsub).then_heap (Nat.le_succ _) fun b o hb e => ?_) hm'') hc'' hS''
      rw [hsb.2 b (fun h : b = S => hb (by rw [h]; exact List.mem_cons_self))]; exact e
set_option maxRecDepth 100000 in
set_option maxHeartbeats 3200000 in
/-- set(xs), xs a list of texts -/
theorem call_set_texts {l : Addr} {items : Array Value} (xs : List Str) {Q : Value → Shared → Prop} (hh : A.handled = none) (hl : s.heap.IsList l items) (hit : StrsAre items.toList xs) (hfew : xs.length < 4000)
    (h : ∀ (h' : Heap) (tk : Nat) c, c ≤ xs.length → TSet P w h' s.heap.objs.size (inS xs xs.length) c → (∀ b o, s.heap.get? b = some o → h'.get? b = some o) → Q (.ref s.heap.objs.size) { s with heap := h', toks := tk }) :
    wpAny (model P w) A (call (.type "set") [.ref l]) Q E s := by
  have hisz : items.size = xs.length := by rw [← StrsAre.len_eq hit, Array.length_toList]
  obtain ⟨c, tl, hmro⟩ := F.called_set.mro
  have hmade := F.called_set.made
  have hsub := F.called_set.sub
  refine wpAny_call (codeAny_of_tree ?_)
  show wpAny _ _ (callAny (.type "set") _) _ _ _
  refine wpAny_pure ⟨Code.quiet_builtin _ (by decide +kernel), codeAny_builtin F.entry_type_call ?_⟩
  rw [Around.under_plain (weight_type_call_type "set" [.ref l] []) rfl]
  have h1 := F.called_set.notType
  have h2 := F.called_set.canCreate
  have hct := F.typeCall_set_1 (.ref l)
  repeat (any_goals (first | assumption | wp_step))
  refine codeAny_mono (code_set_led1 (.ref l) (E := E) (Q₁ := fun obj s₁ => obj = .ref s.heap.objs.size ∧ s₁ = { s with heap := s.heap.push { cls := .type "set", dict := none, data := .set #[] 0 (.fresh 0 0 (!w.params.followText "set-order")) } }) ⟨rfl, rfl⟩) fun r s₁ hr => ?_
  cases r with
  | error e => exact hr
  | ok fl =>
    cases fl with
    | ret obj =>
      obtain ⟨rfl, rfl⟩ := hr
      have hS : (s.heap.push { cls := .type "set", dict := none, data := .set #[] 0 (.fresh 0 0 (!w.params.followText "set-order")) }).get? s.heap.objs.size = some { cls := .type "set", dict := none, data := .set #[] 0 (.fresh 0 0 (!w.params.followText "set-order")) } := Heap.get?_push_size _ rfl
      have hT : Shared.TypeIs { s with heap := s.heap.push { cls := .type "set", dict := none, data := .set #[] 0 (.fresh 0 0 (!w.params.followText "set-order")) } } (.ref s.heap.objs.size) "set" := ⟨_, hS, rfl⟩
      have hli := F.called_set.init.lookup
      have hbi := F.called_set.init.bind (.ref s.heap.objs.size)
      repeat (any_goals (first | assumption | wp_step))
      refine codeAny_mono (codeAny_call_builtin (R := wants (fun r s₂ => r = .none ∧ ∃ h' tk c, s₂ = { s with heap := h', toks := tk } ∧ c ≤ xs.length ∧ TSet P w h' s.heap.objs.size (inS xs xs.length) c ∧
          (∀ b o, s.heap.get? b = some o → h'.get? b = some o)) E) F.called_set.init.plain F.entry_set_init (check_set_init_1 hT ?_)) fun r₂ s₂ hr₂ => ?_
      · obtain ⟨ol, hol, hcl, nl, hdl⟩ := hl
        obtain ⟨ocls, odict, odata, oslots⟩ := ol
        simp only at hcl hdl
        subst hcl; subst hdl
        have hol' : (s.heap.push { cls := .type "set", dict := none, data := .set #[] 0 (.fresh 0 0 (!w.params.followText "set-order")) }).get? l = some { cls := .type "list", dict := odict, data := .seq items nl, slots := oslots } := Heap.get?_push_of_some _ hol
        have hsls := F.sub_list_set
        have hslf := F.sub_list_frozenset
        have hne : (Value.type "list" == Value.type "dict") = false := by decide
        have hl1 : (s.heap.push { cls := .type "set", dict := none, data := .set #[] 0 (.fresh 0 0 (!w.params.followText "set-order")) }).IsList l items := ⟨_, hol', rfl, nl, rfl⟩
        unfold Builtin.«set.__init__» noKeywords Builtin.Frozenset.updateFrom
        generalize hPI : pyIter = PI
        wp_walk
        subst hPI
        refine wpAny_pyIter_list hl1 ?_
        refine wpAny_bind (wpAny_runValue ?_)
        have hlS : l < s.heap.objs.size := Heap.lt_size hol
        have hh3 : A.in1.in1.in1.handled = none := by simp [hh]
        have hneI : l ≠ (s.heap.push { cls := .type "set", dict := none, data := .set #[] 0 (.fresh 0 0 (!w.params.followText "set-order")) }).objs.size := by
          rw [Heap.size_push]; exact Nat.ne_of_lt (Nat.lt_succ_of_lt hlS)
        have hSf : s.heap.objs.size ∉ [(s.heap.push { cls := .type "set", dict := none, data := .set #[] 0 (.fresh 0 0 (!w.params.followText "set-order")) }).objs.size, l] := by
          rw [Heap.size_push]; simp only [List.mem_cons, List.mem_singleton, List.not_mem_nil, or_false, not_or]
          exact ⟨Nat.ne_of_lt (Nat.lt_succ_self _), Nat.ne_of_gt hlS⟩
        have hval : ∀ (i : Nat) (v : Value), items[i]? = some v → ∃ x t, xs[i]? = some x ∧ v = .str x t := fun i v hv => by
          obtain ⟨t, e⟩ := SS.strs_at hit i v (by rw [Array.getElem?_toList]; exact hv)
          have hi : i < xs.length := by
            rw [← hisz]
            exact (Array.getElem?_eq_some_iff.mp hv).1
          exact ⟨xs[i], t, List.getElem?_eq_getElem hi, by rw [e, List.getD_eq_getElem?_getD, List.getElem?_eq_getElem hi] <;> rfl⟩
        refine tset_loop ((Walks.list hh3 _ l hneI items).toS) s.heap.objs.size
          hSf xs hisz hfew hval (items.size - 0) 0 _ (by omega) (Nat.zero_le _)
          ⟨⟨_, Heap.get?_push_size _ rfl, rfl, rfl⟩, (hl1.push _)⟩ ?hS0 ?hR
        case hS0 =>
          have hget : ((s.heap.push { cls := .type "set", dict := none, data := .set #[] 0 (.fresh 0 0 (!w.params.followText "set-order")) }).push { cls := .type "list_iterator", data := .fields #[.ref l, .int 0 0] }).get? s.heap.objs.size
              = some { cls := .type "set", dict := none, data := .set #[] 0 (.fresh 0 0 (!w.params.followText "set-order")) } := Heap.get?_push_of_some _ hS
          exact ⟨0, Nat.le_refl _, tset_fresh hget⟩
        case hR =>
          intro s' c hm hc hS'
          obtain ⟨h', g2, d', tk', os'⟩ := s'
          have eg : g2 = s.gens := hm.gens
          have ed : d' = s.drawn := hm.drawn
          have eo : os' = s.os := hm.os
          subst eg; subst ed; subst eo
          show wpAny _ _ _ _ _ _
          refine wpAny_pure ?_
          show wpAny _ _ (ret Value.none) _ _ _
          rw [hisz] at hS' hc
          refine wpAny_pure ⟨rfl, h', tk', c, rfl, hc, hS', fun b o e => ?_⟩
          have hb := Heap.lt_size e
          have hb1 : b ≠ s.heap.objs.size := Nat.ne_of_lt hb
          have hb2 : b ≠ (s.heap.push { cls := .type "set", dict := none, data := .set #[] 0 (.fresh 0 0 (!w.params.followText "set-order")) }).objs.size := by
            rw [Heap.size_push]; exact Nat.ne_of_lt (Nat.lt_succ_of_lt hb)
          exact hm.heap b o (by simp only [List.mem_cons, List.mem_singleton, List.not_mem_nil, or_false, not_or]; exact ⟨hb1, hb2⟩) (Heap.get?_push_of_some _ (Heap.get?_push_of_some _ e))
      · cases r₂ with
        | error e => exact hr₂
        | ok fl₂ =>
          cases fl₂ with
          | ret r =>
            obtain ⟨rfl, h', tk, c, rfl, hc, hS', hk'⟩ := hr₂
            repeat (any_goals (first | assumption | wp_step))
            exact h _ _ _ hc hS' hk'
          | _ => exact hr₂.elim
    | _ => exact hr.elim
theorem strs_of : ∀ (l : List Value), (∀ v ∈ l, ∃ x tk, v = Value.str x tk) → StrsAre l (l.map fun v => match v with | .str x _ => x | _ => Str.empty)
  | [], _ => .nil
  | v :: l, h => by
    obtain ⟨x, tk, rfl⟩ := h v List.mem_cons_self
    exact .cons x tk (strs_of l fun u hu => h u (List.mem_cons_of_mem _ hu))
/-- sorted(a set of texts) -/
theorem sorted_texts {m : Str → Bool} {n : Nat} {Q : Value → Shared → Prop} (R : TSet P w s.heap a m n) (hh : A.handled = none) (h64 : n < 64)
    (hQ : ∀ s' p (out : Array Value) (c : Nat) (ns : List Str), (∀ b o, s.heap.get? b = some o → s'.heap.get? b = some o) → s'.gens = s.gens → s'.os = s.os → s.heap.objs.size ≤ p →
      s'.heap.get? p = some (seqObj "list" out c) → StrsAre out.toList ns → sortedS ns = true → ns.Nodup → (∀ k, k ∈ ns ↔ m k = true) → ns.length = n → Q (.ref p) s') :
    wpAny (model P w) A (call (.builtin "sorted") [.ref a]) Q E s := by
  obtain ⟨o, es, ep, t, ho, hex, hd, g, nd, hm, hb, hf, hn, hr, hl⟩ := R
  refine Calls.call_function_entry kind_sorted plain_sorted entry_sorted (args_sorted1 _) ?_
  unfold Builtin.«sorted»
  refine wpAny_bind (m := checkCount "sorted" 1 1 _) (wpAny_pure ?_)
  refine wpAny_bind (collect_set (A := A.in1) hh ⟨o, ho, hex.1, hd⟩ hf hb hr hl fun s1 vs k1 hz g1 o1 pm => ?_)
  have hvl : vs.length = n := by rw [pm.length_eq, List.length_map, Array.length_toList]; exact hn
  have hI : StrsAre vs (vs.map fun v => match v with | .str x _ => x | _ => Str.empty) := strs_of vs fun v hv => by
    obtain ⟨e, he, q⟩ := List.mem_map.mp (pm.mem_iff.mp hv)
    obtain ⟨k, tk, h1, _⟩ := g e he
    exact ⟨k, tk, by rw [← q]; exact h1⟩
  have pk : (vs.map fun v => match v with | .str x _ => x | _ => Str.empty).Perm (es.toList.map txOf) := by
    have q := pm.map fun v => match v with | .str x _ => x | _ => Str.empty
    rw [List.map_map] at q
    exact q
  refine wpAny_bind (wpAny_newList ?_ (by rw [hvl, sizeLine_eq]; omega))
  have hoL : (s1.heap.push (seqObj "list" vs.toArray 0)).get? s1.heap.objs.size = some (seqObj "list" vs.toArray 0) := Heap.get?_push_size _ rfl
  show wpAny _ _ _ _ _ { s1 with heap := s1.heap.push (seqObj "list" vs.toArray 0) }
  refine wpAny_bind (wpAny_holding (wpAny_call_entry PyProof.Rows.slot_list_sort ⟨_, hoL, rfl⟩ PyProof.Rows.entry_list_sort
    (list_sort_treeK strKind_oneLt (s := { s1 with heap := s1.heap.push (seqObj "list" vs.toArray 0) }) hoL hI.keysOf (fun v₁ v₂ rest e => keyKind_strs (by rw [← e]; exact hI)) (by rw [hvl]; exact h64) fun st' hp hs => ⟨_, rfl, ?_⟩)
    (PyProof.Rows.args_list_sort _)))
  obtain ⟨ys, a1, a2, a3⟩ := sorted_out_str hI hp hs
  obtain ⟨c, hc⟩ := PyProof.Rows.sortedHeap_at (vs := vs) (out := (arrOf st').map (·.2)) hoL
  have pn : ys.Perm (es.toList.map txOf) := a2.trans pk
  refine wpAny_pure ⟨_, rfl, hQ _ s1.heap.objs.size _ c ys (fun b u e => ?_) g1 o1 hz hc a1 a3 (pn.nodup_iff.mpr nd) (fun k => by rw [pn.mem_iff, ← hm k]) ?_⟩
  · have q := k1 b u e
    have hlt := Heap.lt_size q
    show (sortedHeap (s1.heap.push (seqObj "list" vs.toArray 0)) s1.heap.objs.size vs _).get? b = some u
    rw [sortedHeap_old (Nat.ne_of_lt hlt) (by rw [Heap.size_push]; exact Nat.lt_succ_of_lt hlt)]
    exact Heap.get?_push_of_some _ q
  · rw [pn.length_eq, List.length_map, Array.length_toList]; exact hn
end
/-- a set of texts on the hand layer's heap -/
def TSetO (P : Program) (w : World) (a : Addr) (m : Str → Bool) (n : Nat) : HO := .ext fun h => TSet P w h a m n
theorem tsetO_new {P : Program} {w : World} {H : Hp} {h : Heap} {a : Addr} {m : Str → Bool} {n : Nat} (R : TSet P w h a m n) : ObjOk P w H h a (TSetO P w a m n) := by
  have ⟨o, es, ep, t, ho, r⟩ := R
  exact ⟨R, ⟨o, ho⟩, fun h1 h2 p k => TSet.keep p k⟩
section
variable {X : Cx}
/-- set(xs), xs a list of texts -/
def rSetOfS (K : PySem.W.Frag) (P : Program) (w : World) : List V → Hp → VK → Prop := fun xs H Q => ∃ (l : Addr) (ks : List Str), xs = [V.ref l] ∧ SqL K H l (ks.map V.str) ∧ ks.length < 4000 ∧
  ∀ a c, c ≤ ks.length → H a = none → Q (.ref a) (upd H a (TSetO P w a (fun k => decide (k ∈ ks)) c))
theorem cr_setOfS (hc : X.calm = true) : CallR X (.type "set") (rSetOfS X.K X.prog X.w) := by
  intro pins s σ H xs us Q I r h
  obtain ⟨l, ks, rfl, hl, hf, q⟩ := h
  rw [Vals.ref1 r]
  obtain ⟨its, rv, pl, hz⟩ := I.list hl
  have hn : H s.heap.objs.size = none := I.hok.fresh (Nat.le_refl _)
  refine call_set_texts (P := X.prog) (w := X.w) ks (I.ok.hd hc) pl.isList (by simpa using rv.strs) hf fun h' tk c hc' R k => ?_
  have e : inS ks ks.length = fun k => decide (k ∈ ks) := by
    funext k
    unfold inS
    rw [List.take_length]
  rw [e] at R
  exact ⟨.ref s.heap.objs.size, upd H s.heap.objs.size (TSetO X.prog X.w s.heap.objs.size _ c), I.laid (t' := tk) k (Nat.le_refl _) (tsetO_new R), rfl, q _ c hc' hn⟩
/-- sorted(set of texts) -/
def rSortedSS (P : Program) (w : World) : List V → Hp → VK → Prop := fun vs H Q => ∃ (a : Addr) (m : Str → Bool) (n : Nat), vs = [V.ref a] ∧ H a = some (TSetO P w a m n) ∧ (∃ D : List Str, D.length < 64 ∧ ∀ k, m k = true → k ∈ D) ∧
  ∀ (ys : List Str) (p : Addr), sortedS ys = true → ys.Nodup → (∀ k, k ∈ ys ↔ m k = true) → H p = none → Q (.ref p) (upd H p (.lst (ys.map V.str)))
theorem cr_sortedSS (hc : X.calm = true) : CallR X (.builtin "sorted") (rSortedSS X.prog X.w) := by
  intro pins s σ H vs us Q I r h
  obtain ⟨a, m, n, rfl, ha, ⟨D, hD1, hD2⟩, q⟩ := h
  have R : TSet X.prog X.w s.heap a m n := (I.hok a _ ha).1
  have h64 : n < 64 := by
    obtain ⟨_, es, _, _, _, _, _, _, nd, hm, _, _, hn, _⟩ := id R
    have := nodup_few nd fun x hx => hD2 x ((hm x).mpr hx)
    rw [List.length_map, Array.length_toList, hn] at this
    omega
  rw [Vals.ref1 r]
  refine sorted_texts R (I.ok.hd hc) h64 fun s' p out c ys k g o hp hg hs h1 h2 h3 h4 => ?_
  have hlen : (ys.map V.str).length ≤ sizeLine := by rw [List.length_map, sizeLine_eq]; omega
  have hn : H p = none := I.hok.fresh hp
  have J : Inv X pins σ (upd H p (.lst (ys.map V.str))) { s with heap := s'.heap, gens := s'.gens, drawn := s'.drawn, toks := s'.toks } :=
    I.call (ch := []) (Un.laid k hp hn) (I.hok.laid k hp ⟨hlen, out.toList, c, vals_of_strs hs, hg⟩) (by rw [g]; exact I.bare) (fun _ z => nomatch z)
  have e : s' = { s with heap := s'.heap, gens := s'.gens, drawn := s'.drawn, toks := s'.toks } := by
    cases s'
    cases s
    cases o
    rfl
  rw [e]
  exact ⟨.ref p, _, J, rfl, q ys p h1 h2 h3 hn⟩
end
end Lw

namespace Lw
open PySem L2
open PyProof.Rows (envOfC)
def top (i : Nat) : Stmt := PySem.Challenge.pw_layerwharf_k06_registry_answers.main.body.getD i (.Pass ⟨0, 0, 0, 0⟩)
abbrev s__wall : Stmt := top 0
abbrev n__wall : List Str := ["k"]
theorem sc__wall : FnScope n__wall ["k"] (defScope s__wall) := ⟨rfl, rfl, rfl, by decide +kernel, rfl, by decide +kernel, by decide +kernel⟩
abbrev s_address_of : Stmt := top 5
abbrev n_address_of : List Str := ["kind", "text", "value", "character"]
theorem sc_address_of : FnScope n_address_of ["kind", "text"] (defScope s_address_of) := ⟨rfl, rfl, rfl, by decide +kernel, rfl, by decide +kernel, by decide +kernel⟩
abbrev s_is_address : Stmt := top 6
abbrev n_is_address : List Str := ["text", "character"]
theorem sc_is_address : FnScope n_is_address ["text"] (defScope s_is_address) := ⟨rfl, rfl, rfl, by decide +kernel, rfl, by decide +kernel, by decide +kernel⟩
abbrev s_Claims___init__ : Stmt := inClass (top 8) 0
abbrev n_Claims___init__ : List Str := ["self"]
theorem sc_Claims___init__ : FnScope n_Claims___init__ ["self"] (defScope s_Claims___init__) := ⟨rfl, rfl, rfl, by decide +kernel, rfl, by decide +kernel, by decide +kernel⟩
abbrev s_Claims_begin : Stmt := inClass (top 8) 1
abbrev n_Claims_begin : List Str := ["self"]
theorem sc_Claims_begin : FnScope n_Claims_begin ["self"] (defScope s_Claims_begin) := ⟨rfl, rfl, rfl, by decide +kernel, rfl, by decide +kernel, by decide +kernel⟩
abbrev s_Claims_is_open : Stmt := inClass (top 8) 2
abbrev n_Claims_is_open : List Str := ["self", "claim"]
theorem sc_Claims_is_open : FnScope n_Claims_is_open ["self", "claim"] (defScope s_Claims_is_open) := ⟨rfl, rfl, rfl, by decide +kernel, rfl, by decide +kernel, by decide +kernel⟩
abbrev s_Claims_pin : Stmt := inClass (top 8) 3
abbrev n_Claims_pin : List Str := ["self", "claim", "address"]
theorem sc_Claims_pin : FnScope n_Claims_pin ["self", "claim", "address"] (defScope s_Claims_pin) := ⟨rfl, rfl, rfl, by decide +kernel, rfl, by decide +kernel, by decide +kernel⟩
abbrev s_Claims_end : Stmt := inClass (top 8) 4
abbrev n_Claims_end : List Str := ["self", "claim"]
theorem sc_Claims_end : FnScope n_Claims_end ["self", "claim"] (defScope s_Claims_end) := ⟨rfl, rfl, rfl, by decide +kernel, rfl, by decide +kernel, by decide +kernel⟩
abbrev s_Claims_numbers : Stmt := inClass (top 8) 5
abbrev n_Claims_numbers : List Str := ["self"]
theorem sc_Claims_numbers : FnScope n_Claims_numbers ["self"] (defScope s_Claims_numbers) := ⟨rfl, rfl, rfl, by decide +kernel, rfl, by decide +kernel, by decide +kernel⟩
abbrev s_Claims_pinned : Stmt := inClass (top 8) 6
abbrev n_Claims_pinned : List Str := ["self", "found", "claim", "address"]
theorem sc_Claims_pinned : FnScope n_Claims_pinned ["self"] (defScope s_Claims_pinned) := ⟨rfl, rfl, rfl, by decide +kernel, rfl, by decide +kernel, by decide +kernel⟩
abbrev s_Collector___init__ : Stmt := inClass (top 10) 0
abbrev n_Collector___init__ : List Str := ["self", "store"]
theorem sc_Collector___init__ : FnScope n_Collector___init__ ["self", "store"] (defScope s_Collector___init__) := ⟨rfl, rfl, rfl, by decide +kernel, rfl, by decide +kernel, by decide +kernel⟩
abbrev s_Collector_stop : Stmt := inClass (top 10) 1
abbrev n_Collector_stop : List Str := ["self"]
theorem sc_Collector_stop : FnScope n_Collector_stop ["self"] (defScope s_Collector_stop) := ⟨rfl, rfl, rfl, by decide +kernel, rfl, by decide +kernel, by decide +kernel⟩
abbrev s_Collector_shade : Stmt := inClass (top 10) 2
abbrev n_Collector_shade : List Str := ["self", "address", "other"]
theorem sc_Collector_shade : FnScope n_Collector_shade ["self", "address"] (defScope s_Collector_shade) := ⟨rfl, rfl, rfl, by decide +kernel, rfl, by decide +kernel, by decide +kernel⟩
abbrev s_Malformed___init__ : Stmt := inClass (top 13) 0
abbrev n_Malformed___init__ : List Str := ["self", "line"]
theorem sc_Malformed___init__ : FnScope n_Malformed___init__ ["self", "line"] (defScope s_Malformed___init__) := ⟨rfl, rfl, rfl, by decide +kernel, rfl, by decide +kernel, by decide +kernel⟩
abbrev s_image_text : Stmt := top 17
abbrev n_image_text : List Str := ["layers", "address"]
theorem sc_image_text : FnScope n_image_text ["layers"] (defScope s_image_text) := ⟨rfl, rfl, rfl, by decide +kernel, rfl, by decide +kernel, by decide +kernel⟩
abbrev s_bundle_text : Stmt := top 18
abbrev n_bundle_text : List Str := ["entries", "platform", "address"]
theorem sc_bundle_text : FnScope n_bundle_text ["entries"] (defScope s_bundle_text) := ⟨rfl, rfl, rfl, by decide +kernel, rfl, by decide +kernel, by decide +kernel⟩
abbrev s_lines_of : Stmt := top 19
abbrev n_lines_of : List Str := ["text", "head", "lines"]
theorem sc_lines_of : FnScope n_lines_of ["text", "head"] (defScope s_lines_of) := ⟨rfl, rfl, rfl, by decide +kernel, rfl, by decide +kernel, by decide +kernel⟩
abbrev s_read_image : Stmt := top 20
abbrev n_read_image : List Str := ["text", "lines", "index"]
theorem sc_read_image : FnScope n_read_image ["text"] (defScope s_read_image) := ⟨rfl, rfl, rfl, by decide +kernel, rfl, by decide +kernel, by decide +kernel⟩
abbrev s_is_platform : Stmt := top 21
abbrev n_is_platform : List Str := ["word", "character"]
theorem sc_is_platform : FnScope n_is_platform ["word"] (defScope s_is_platform) := ⟨rfl, rfl, rfl, by decide +kernel, rfl, by decide +kernel, by decide +kernel⟩
abbrev s_read_bundle : Stmt := top 22
abbrev n_read_bundle : List Str := ["text", "lines", "entries", "seen", "index", "words"]
theorem sc_read_bundle : FnScope n_read_bundle ["text"] (defScope s_read_bundle) := ⟨rfl, rfl, rfl, by decide +kernel, rfl, by decide +kernel, by decide +kernel⟩
abbrev s_references : Stmt := top 23
abbrev n_references : List Str := ["kind", "text", "platform", "address"]
theorem sc_references : FnScope n_references ["kind", "text"] (defScope s_references) := ⟨rfl, rfl, rfl, by decide +kernel, rfl, by decide +kernel, by decide +kernel⟩
abbrev s_Store___init__ : Stmt := inClass (top 26) 0
abbrev n_Store___init__ : List Str := ["self"]
theorem sc_Store___init__ : FnScope n_Store___init__ ["self"] (defScope s_Store___init__) := ⟨rfl, rfl, rfl, by decide +kernel, rfl, by decide +kernel, by decide +kernel⟩
abbrev s_Store_keep : Stmt := inClass (top 26) 1
abbrev n_Store_keep : List Str := ["self", "kind", "text", "address"]
theorem sc_Store_keep : FnScope n_Store_keep ["self", "kind", "text"] (defScope s_Store_keep) := ⟨rfl, rfl, rfl, by decide +kernel, rfl, by decide +kernel, by decide +kernel⟩
abbrev s_Store_blob : Stmt := inClass (top 26) 2
abbrev n_Store_blob : List Str := ["self", "address"]
theorem sc_Store_blob : FnScope n_Store_blob ["self", "address"] (defScope s_Store_blob) := ⟨rfl, rfl, rfl, by decide +kernel, rfl, by decide +kernel, by decide +kernel⟩
abbrev s_Store_addresses : Stmt := inClass (top 26) 4
abbrev n_Store_addresses : List Str := ["self"]
theorem sc_Store_addresses : FnScope n_Store_addresses ["self"] (defScope s_Store_addresses) := ⟨rfl, rfl, rfl, by decide +kernel, rfl, by decide +kernel, by decide +kernel⟩
abbrev s_Store_below : Stmt := inClass (top 26) 5
abbrev n_Store_below : List Str := ["self", "address", "kind", "text"]
theorem sc_Store_below : FnScope n_Store_below ["self", "address"] (defScope s_Store_below) := ⟨rfl, rfl, rfl, by decide +kernel, rfl, by decide +kernel, by decide +kernel⟩
abbrev s_Store_is_whole : Stmt := inClass (top 26) 6
abbrev n_Store_is_whole : List Str := ["self", "address", "kind", "other"]
theorem sc_Store_is_whole : FnScope n_Store_is_whole ["self", "address"] (defScope s_Store_is_whole) := ⟨rfl, rfl, rfl, by decide +kernel, rfl, by decide +kernel, by decide +kernel⟩
abbrev s_Store_closure : Stmt := inClass (top 26) 7
abbrev n_Store_closure : List Str := ["self", "address", "found", "other", "inner"]
theorem sc_Store_closure : FnScope n_Store_closure ["self", "address"] (defScope s_Store_closure) := ⟨rfl, rfl, rfl, by decide +kernel, rfl, by decide +kernel, by decide +kernel⟩
abbrev s_Uploads___init__ : Stmt := inClass (top 28) 0
abbrev n_Uploads___init__ : List Str := ["self"]
theorem sc_Uploads___init__ : FnScope n_Uploads___init__ ["self"] (defScope s_Uploads___init__) := ⟨rfl, rfl, rfl, by decide +kernel, rfl, by decide +kernel, by decide +kernel⟩
abbrev s_Uploads_begin : Stmt := inClass (top 28) 1
abbrev n_Uploads_begin : List Str := ["self"]
theorem sc_Uploads_begin : FnScope n_Uploads_begin ["self"] (defScope s_Uploads_begin) := ⟨rfl, rfl, rfl, by decide +kernel, rfl, by decide +kernel, by decide +kernel⟩
abbrev s_Uploads_add_part : Stmt := inClass (top 28) 2
abbrev n_Uploads_add_part : List Str := ["self", "upload", "at", "part"]
theorem sc_Uploads_add_part : FnScope n_Uploads_add_part ["self", "upload", "at", "part"] (defScope s_Uploads_add_part) := ⟨rfl, rfl, rfl, by decide +kernel, rfl, by decide +kernel, by decide +kernel⟩
abbrev s_Uploads_finish : Stmt := inClass (top 28) 3
abbrev n_Uploads_finish : List Str := ["self", "upload", "text"]
theorem sc_Uploads_finish : FnScope n_Uploads_finish ["self", "upload"] (defScope s_Uploads_finish) := ⟨rfl, rfl, rfl, by decide +kernel, rfl, by decide +kernel, by decide +kernel⟩
abbrev s_Uploads_forget : Stmt := inClass (top 28) 4
abbrev n_Uploads_forget : List Str := ["self"]
theorem sc_Uploads_forget : FnScope n_Uploads_forget ["self"] (defScope s_Uploads_forget) := ⟨rfl, rfl, rfl, by decide +kernel, rfl, by decide +kernel, by decide +kernel⟩
abbrev s_Registry___init__ : Stmt := inClass (top 31) 0
abbrev n_Registry___init__ : List Str := ["self"]
theorem sc_Registry___init__ : FnScope n_Registry___init__ ["self"] (defScope s_Registry___init__) := ⟨rfl, rfl, rfl, by decide +kernel, rfl, by decide +kernel, by decide +kernel⟩
abbrev s_Registry_answer : Stmt := inClass (top 31) 1
abbrev n_Registry_answer : List Str := ["self", "request", "kind"]
theorem sc_Registry_answer : FnScope n_Registry_answer ["self", "request"] (defScope s_Registry_answer) := ⟨rfl, rfl, rfl, by decide +kernel, rfl, by decide +kernel, by decide +kernel⟩
abbrev s_Registry_answer_plain : Stmt := inClass (top 31) 2
abbrev n_Registry_answer_plain : List Str := ["self", "request", "kind"]
theorem sc_Registry_answer_plain : FnScope n_Registry_answer_plain ["self", "request"] (defScope s_Registry_answer_plain) := ⟨rfl, rfl, rfl, by decide +kernel, rfl, by decide +kernel, by decide +kernel⟩
abbrev s_Registry_kept : Stmt := inClass (top 31) 3
abbrev n_Registry_kept : List Str := ["self", "claim", "address"]
theorem sc_Registry_kept : FnScope n_Registry_kept ["self", "claim", "address"] (defScope s_Registry_kept) := ⟨rfl, rfl, rfl, by decide +kernel, rfl, by decide +kernel, by decide +kernel⟩
abbrev s_Registry_answer_has : Stmt := inClass (top 31) 4
abbrev n_Registry_answer_has : List Str := ["self", "claim", "address"]
theorem sc_Registry_answer_has : FnScope n_Registry_answer_has ["self", "claim", "address"] (defScope s_Registry_answer_has) := ⟨rfl, rfl, rfl, by decide +kernel, rfl, by decide +kernel, by decide +kernel⟩
abbrev s_Registry_answer_part : Stmt := inClass (top 31) 5
abbrev n_Registry_answer_part : List Str := ["self", "upload", "at", "part", "length"]
theorem sc_Registry_answer_part : FnScope n_Registry_answer_part ["self", "upload", "at", "part"] (defScope s_Registry_answer_part) := ⟨rfl, rfl, rfl, by decide +kernel, rfl, by decide +kernel, by decide +kernel⟩
abbrev s_Registry_answer_finish : Stmt := inClass (top 31) 6
abbrev n_Registry_answer_finish : List Str := ["self", "upload", "claim", "address", "text"]
theorem sc_Registry_answer_finish : FnScope n_Registry_answer_finish ["self", "upload", "claim", "address"] (defScope s_Registry_answer_finish) := ⟨rfl, rfl, rfl, by decide +kernel, rfl, by decide +kernel, by decide +kernel⟩
abbrev s_Registry_answer_put : Stmt := inClass (top 31) 7
abbrev n_Registry_answer_put : List Str := ["self", "claim", "kind", "text", "below", "address", "blob"]
theorem sc_Registry_answer_put : FnScope n_Registry_answer_put ["self", "claim", "kind", "text"] (defScope s_Registry_answer_put) := ⟨rfl, rfl, rfl, by decide +kernel, rfl, by decide +kernel, by decide +kernel⟩
abbrev s_Registry_answer_name : Stmt := inClass (top 31) 8
abbrev n_Registry_answer_name : List Str := ["self", "claim", "name", "address", "blob"]
theorem sc_Registry_answer_name : FnScope n_Registry_answer_name ["self", "claim", "name", "address"] (defScope s_Registry_answer_name) := ⟨rfl, rfl, rfl, by decide +kernel, rfl, by decide +kernel, by decide +kernel⟩
abbrev s_Registry_answer_get : Stmt := inClass (top 31) 9
abbrev n_Registry_answer_get : List Str := ["self", "address", "at", "count", "blob"]
theorem sc_Registry_answer_get : FnScope n_Registry_answer_get ["self", "address", "at", "count"] (defScope s_Registry_answer_get) := ⟨rfl, rfl, rfl, by decide +kernel, rfl, by decide +kernel, by decide +kernel⟩
abbrev s_Registry_drop_name : Stmt := inClass (top 31) 10
abbrev n_Registry_drop_name : List Str := ["self", "name"]
theorem sc_Registry_drop_name : FnScope n_Registry_drop_name ["self", "name"] (defScope s_Registry_drop_name) := ⟨rfl, rfl, rfl, by decide +kernel, rfl, by decide +kernel, by decide +kernel⟩
abbrev s_Registry_lapse : Stmt := inClass (top 31) 11
abbrev n_Registry_lapse : List Str := ["self", "claim"]
theorem sc_Registry_lapse : FnScope n_Registry_lapse ["self", "claim"] (defScope s_Registry_lapse) := ⟨rfl, rfl, rfl, by decide +kernel, rfl, by decide +kernel, by decide +kernel⟩
abbrev s_Registry_fall : Stmt := inClass (top 31) 12
abbrev n_Registry_fall : List Str := ["self"]
theorem sc_Registry_fall : FnScope n_Registry_fall ["self"] (defScope s_Registry_fall) := ⟨rfl, rfl, rfl, by decide +kernel, rfl, by decide +kernel, by decide +kernel⟩
abbrev s_Registry_roots : Stmt := inClass (top 31) 13
abbrev n_Registry_roots : List Str := ["self", "found", "address", "name"]
theorem sc_Registry_roots : FnScope n_Registry_roots ["self"] (defScope s_Registry_roots) := ⟨rfl, rfl, rfl, by decide +kernel, rfl, by decide +kernel, by decide +kernel⟩
abbrev s__law_state : Stmt := top 33
abbrev n__law_state : List Str := ["_law_script", "_law_cells", "_law_cell"]
theorem sc__law_state : FnScope n__law_state ["_law_script"] (defScope s__law_state) := ⟨rfl, rfl, rfl, by decide +kernel, rfl, by decide +kernel, by decide +kernel⟩
abbrev s__law_take : Stmt := top 34
abbrev n__law_take : List Str := ["_law_state_here", "_law_most", "_law_cells", "_law_at", "_law_cell", "_law_mixed"]
theorem sc__law_take : FnScope n__law_take ["_law_state_here", "_law_most"] (defScope s__law_take) := ⟨rfl, rfl, rfl, by decide +kernel, rfl, by decide +kernel, by decide +kernel⟩
abbrev s__law_text : Stmt := top 36
abbrev n__law_text : List Str := ["_law_state_here", "_law_most", "_law_k"]
theorem sc__law_text : FnScope n__law_text ["_law_state_here", "_law_most"] (defScope s__law_text) := ⟨rfl, rfl, rfl, by decide +kernel, rfl, by decide +kernel, by decide +kernel⟩
abbrev s__law_refs : Stmt := top 37
abbrev n__law_refs : List Str := ["_law_kind", "_law_text_here", "_law_lines", "_law_line"]
theorem sc__law_refs : FnScope n__law_refs ["_law_kind", "_law_text_here"] (defScope s__law_refs) := ⟨rfl, rfl, rfl, by decide +kernel, rfl, by decide +kernel, by decide +kernel⟩
abbrev s__law_whole : Stmt := top 38
abbrev n__law_whole : List Str := ["_law_model", "_law_address_here", "_law_blobs", "_law_kind", "_law_text_here", "_law_due", "_law_other"]
theorem sc__law_whole : FnScope n__law_whole ["_law_model", "_law_address_here"] (defScope s__law_whole) := ⟨rfl, rfl, rfl, by decide +kernel, rfl, by decide +kernel, by decide +kernel⟩
abbrev s__law_kept : Stmt := top 39
abbrev n__law_kept : List Str := ["_law_model", "_law_claim", "_law_address_here", "_law_pins"]
theorem sc__law_kept : FnScope n__law_kept ["_law_model", "_law_claim", "_law_address_here"] (defScope s__law_kept) := ⟨rfl, rfl, rfl, by decide +kernel, rfl, by decide +kernel, by decide +kernel⟩
abbrev s__law_finish : Stmt := top 40
abbrev n__law_finish : List Str := ["_law_model", "_law_upload", "_law_claim", "_law_address_here", "_law_texts", "_law_text_here", "_law_blobs"]
theorem sc__law_finish : FnScope n__law_finish ["_law_model", "_law_upload", "_law_claim", "_law_address_here"] (defScope s__law_finish) := ⟨rfl, rfl, rfl, by decide +kernel, rfl, by decide +kernel, by decide +kernel⟩
abbrev s__law_put : Stmt := top 41
abbrev n__law_put : List Str := ["_law_model", "_law_claim", "_law_kind", "_law_text_here", "_law_other", "_law_blobs", "_law_due", "_law_address_here"]
theorem sc__law_put : FnScope n__law_put ["_law_model", "_law_claim", "_law_kind", "_law_text_here"] (defScope s__law_put) := ⟨rfl, rfl, rfl, by decide +kernel, rfl, by decide +kernel, by decide +kernel⟩
abbrev s__law_claimed : Stmt := top 42
abbrev n__law_claimed : List Str := ["_law_model", "_law_request_here", "_law_kind", "_law_claim", "_law_texts", "_law_name", "_law_address_here", "_law_names"]
theorem sc__law_claimed : FnScope n__law_claimed ["_law_model", "_law_request_here"] (defScope s__law_claimed) := ⟨rfl, rfl, rfl, by decide +kernel, rfl, by decide +kernel, by decide +kernel⟩
abbrev s__law_answer : Stmt := top 43
abbrev n__law_answer : List Str := ["_law_model", "_law_request_here", "_law_kind", "_law_pins", "_law_texts", "_law_address_here", "_law_at", "_law_count", "_law_text_here"]
theorem sc__law_answer : FnScope n__law_answer ["_law_model", "_law_request_here"] (defScope s__law_answer) := ⟨rfl, rfl, rfl, by decide +kernel, rfl, by decide +kernel, by decide +kernel⟩
abbrev s__law_without : Stmt := top 44
abbrev n__law_without : List Str := ["_law_things", "_law_key", "_law_result", "_law_other"]
theorem sc__law_without : FnScope n__law_without ["_law_things", "_law_key"] (defScope s__law_without) := ⟨rfl, rfl, rfl, by decide +kernel, rfl, by decide +kernel, by decide +kernel⟩
abbrev s__law_address : Stmt := top 45
abbrev n__law_address : List Str := ["_law_state_here", "_law_model", "_law_known"]
theorem sc__law_address : FnScope n__law_address ["_law_state_here", "_law_model"] (defScope s__law_address) := ⟨rfl, rfl, rfl, by decide +kernel, rfl, by decide +kernel, by decide +kernel⟩
abbrev s__law_text_of : Stmt := top 46
abbrev n__law_text_of : List Str := ["_law_state_here", "_law_model", "_law_kind", "_law_blobs", "_law_below", "_law_refs_here", "_law_k", "_law_address_here"]
theorem sc__law_text_of : FnScope n__law_text_of ["_law_state_here", "_law_model", "_law_kind"] (defScope s__law_text_of) := ⟨rfl, rfl, rfl, by decide +kernel, rfl, by decide +kernel, by decide +kernel⟩
abbrev s__law_request : Stmt := top 47
abbrev n__law_request : List Str := ["_law_state_here", "_law_model", "_law_kind", "_law_claim", "_law_upload", "_law_name", "_law_at", "_law_address_here", "_law_word"]
theorem sc__law_request : FnScope n__law_request ["_law_state_here", "_law_model"] (defScope s__law_request) := ⟨rfl, rfl, rfl, by decide +kernel, rfl, by decide +kernel, by decide +kernel⟩
abbrev s__law_roots : Stmt := top 48
abbrev n__law_roots : List Str := ["_law_model", "_law_found", "_law_claim", "_law_name"]
theorem sc__law_roots : FnScope n__law_roots ["_law_model"] (defScope s__law_roots) := ⟨rfl, rfl, rfl, by decide +kernel, rfl, by decide +kernel, by decide +kernel⟩
abbrev s_law : Stmt := top 49
abbrev n_law : List Str := ["_law_script", "_law_state_here", "_law_registry", "_law_model", "_law_turn", "_law_kind", "_law_claim", "_law_request_here", "_law_due", "_law_told"]
theorem sc_law : FnScope n_law ["_law_script"] (defScope s_law) := ⟨rfl, rfl, rfl, by decide +kernel, rfl, by decide +kernel, by decide +kernel⟩
/-- the fields of Claims -/
def f_Claims (x_last x_pins : V) : List (Str × V) := [("last", x_last), ("pins", x_pins)]
theorem f_Claims_last {x_last x_pins : V} : (f_Claims x_last x_pins).lookup ("last" : Str) = some x_last := lk_eq
theorem f_Claims_put_last {x_last x_pins y : V} : putF "last" y (f_Claims x_last x_pins) = f_Claims y x_pins := pf_eq
theorem f_Claims_pins {x_last x_pins : V} : (f_Claims x_last x_pins).lookup ("pins" : Str) = some x_pins := (lk_ne (by decide +kernel)).trans (lk_eq)
theorem f_Claims_put_pins {x_last x_pins y : V} : putF "pins" y (f_Claims x_last x_pins) = f_Claims x_last y := (pf_ne (by decide +kernel)).trans (congrArg _ (pf_eq))
theorem f_Claims_no {x_last x_pins : V} {m : Str} (h : (["last", "pins"] : List Str).all (fun f => !(m == f)) = true) : (f_Claims x_last x_pins).lookup m = none := lk_no h
theorem f_Claims_len {x_last x_pins : V} : (f_Claims x_last x_pins).length < 1000 := (by decide : 2 < 1000)
theorem f_Claims_mk {x_last x_pins : V} : putF "pins" x_pins (putF "last" x_last ([])) = f_Claims x_last x_pins := by
  unfold f_Claims; simp only [putF]; first | rfl | (repeat' (first | rfl | rw [if_neg (by decide +kernel)]))
/-- the fields of Collector -/
def f_Collector (x_store x_phase x_marked x_todo x_doomed : V) : List (Str × V) := [("store", x_store), ("phase", x_phase), ("marked", x_marked), ("todo", x_todo), ("doomed", x_doomed)]
theorem f_Collector_store {x_store x_phase x_marked x_todo x_doomed : V} : (f_Collector x_store x_phase x_marked x_todo x_doomed).lookup ("store" : Str) = some x_store := lk_eq
theorem f_Collector_put_store {x_store x_phase x_marked x_todo x_doomed y : V} : putF "store" y (f_Collector x_store x_phase x_marked x_todo x_doomed) = f_Collector y x_phase x_marked x_todo x_doomed := pf_eq
theorem f_Collector_phase {x_store x_phase x_marked x_todo x_doomed : V} : (f_Collector x_store x_phase x_marked x_todo x_doomed).lookup ("phase" : Str) = some x_phase := (lk_ne (by decide +kernel)).trans (lk_eq)
theorem f_Collector_put_phase {x_store x_phase x_marked x_todo x_doomed y : V} : putF "phase" y (f_Collector x_store x_phase x_marked x_todo x_doomed) = f_Collector x_store y x_marked x_todo x_doomed := (pf_ne (by decide +kernel)).trans (congrArg _ (pf_eq))
theorem f_Collector_marked {x_store x_phase x_marked x_todo x_doomed : V} : (f_Collector x_store x_phase x_marked x_todo x_doomed).lookup ("marked" : Str) = some x_marked := (lk_ne (by decide +kernel)).trans ((lk_ne (by decide +kernel)).trans (lk_eq))
theorem f_Collector_put_marked {x_store x_phase x_marked x_todo x_doomed y : V} : putF "marked" y (f_Collector x_store x_phase x_marked x_todo x_doomed) = f_Collector x_store x_phase y x_todo x_doomed := (pf_ne (by decide +kernel)).trans (congrArg _ ((pf_ne (by decide +kernel)).trans (congrArg _ (pf_eq))))
theorem f_Collector_todo {x_store x_phase x_marked x_todo x_doomed : V} : (f_Collector x_store x_phase x_marked x_todo x_doomed).lookup ("todo" : Str) = some x_todo := (lk_ne (by decide +kernel)).trans ((lk_ne (by decide +kernel)).trans ((lk_ne (by decide +kernel)).trans (lk_eq)))
theorem f_Collector_put_todo {x_store x_phase x_marked x_todo x_doomed y : V} : putF "todo" y (f_Collector x_store x_phase x_marked x_todo x_doomed) = f_Collector x_store x_phase x_marked y x_doomed := (pf_ne (by decide +kernel)).trans (congrArg _ ((pf_ne (by decide +kernel)).trans (congrArg _ ((pf_ne (by decide +kernel)).trans (congrArg _ (pf_eq))))))
theorem f_Collector_doomed {x_store x_phase x_marked x_todo x_doomed : V} : (f_Collector x_store x_phase x_marked x_todo x_doomed).lookup ("doomed" : Str) = some x_doomed := (lk_ne (by decide +kernel)).trans ((lk_ne (by decide +kernel)).trans ((lk_ne (by decide +kernel)).trans ((lk_ne (by decide +kernel)).trans (lk_eq))))
theorem f_Collector_put_doomed {x_store x_phase x_marked x_todo x_doomed y : V} : putF "doomed" y (f_Collector x_store x_phase x_marked x_todo x_doomed) = f_Collector x_store x_phase x_marked x_todo y := (pf_ne (by decide +kernel)).trans (congrArg _ ((pf_ne (by decide +kernel)).trans (congrArg _ ((pf_ne (by decide +kernel)).trans (congrArg _ ((pf_ne (by decide +kernel)).trans (congrArg _ (pf_eq))))))))
theorem f_Collector_no {x_store x_phase x_marked x_todo x_doomed : V} {m : Str} (h : (["store", "phase", "marked", "todo", "doomed"] : List Str).all (fun f => !(m == f)) = true) : (f_Collector x_store x_phase x_marked x_todo x_doomed).lookup m = none := lk_no h
theorem f_Collector_len {x_store x_phase x_marked x_todo x_doomed : V} : (f_Collector x_store x_phase x_marked x_todo x_doomed).length < 1000 := (by decide : 5 < 1000)
theorem f_Collector_mk {x_store x_phase x_marked x_todo x_doomed : V} : putF "doomed" x_doomed (putF "todo" x_todo (putF "marked" x_marked (putF "phase" x_phase (putF "store" x_store ([]))))) = f_Collector x_store x_phase x_marked x_todo x_doomed := by
  unfold f_Collector; simp only [putF]; first | rfl | (repeat' (first | rfl | rw [if_neg (by decide +kernel)]))
/-- the fields of Store -/
def f_Store (x_blobs : V) : List (Str × V) := [("blobs", x_blobs)]
theorem f_Store_blobs {x_blobs : V} : (f_Store x_blobs).lookup ("blobs" : Str) = some x_blobs := lk_eq
theorem f_Store_put_blobs {x_blobs y : V} : putF "blobs" y (f_Store x_blobs) = f_Store y := pf_eq
theorem f_Store_no {x_blobs : V} {m : Str} (h : (["blobs"] : List Str).all (fun f => !(m == f)) = true) : (f_Store x_blobs).lookup m = none := lk_no h
theorem f_Store_len {x_blobs : V} : (f_Store x_blobs).length < 1000 := (by decide : 1 < 1000)
theorem f_Store_mk {x_blobs : V} : putF "blobs" x_blobs ([]) = f_Store x_blobs := by
  unfold f_Store; simp only [putF]; first | rfl | (repeat' (first | rfl | rw [if_neg (by decide +kernel)]))
/-- the fields of Uploads -/
def f_Uploads (x_last x_texts : V) : List (Str × V) := [("last", x_last), ("texts", x_texts)]
theorem f_Uploads_last {x_last x_texts : V} : (f_Uploads x_last x_texts).lookup ("last" : Str) = some x_last := lk_eq
theorem f_Uploads_put_last {x_last x_texts y : V} : putF "last" y (f_Uploads x_last x_texts) = f_Uploads y x_texts := pf_eq
theorem f_Uploads_texts {x_last x_texts : V} : (f_Uploads x_last x_texts).lookup ("texts" : Str) = some x_texts := (lk_ne (by decide +kernel)).trans (lk_eq)
theorem f_Uploads_put_texts {x_last x_texts y : V} : putF "texts" y (f_Uploads x_last x_texts) = f_Uploads x_last y := (pf_ne (by decide +kernel)).trans (congrArg _ (pf_eq))
theorem f_Uploads_no {x_last x_texts : V} {m : Str} (h : (["last", "texts"] : List Str).all (fun f => !(m == f)) = true) : (f_Uploads x_last x_texts).lookup m = none := lk_no h
theorem f_Uploads_len {x_last x_texts : V} : (f_Uploads x_last x_texts).length < 1000 := (by decide : 2 < 1000)
theorem f_Uploads_mk {x_last x_texts : V} : putF "texts" x_texts (putF "last" x_last ([])) = f_Uploads x_last x_texts := by
  unfold f_Uploads; simp only [putF]; first | rfl | (repeat' (first | rfl | rw [if_neg (by decide +kernel)]))
/-- the fields of Registry -/
def f_Registry (x_store x_names x_claims x_uploads x_collector : V) : List (Str × V) := [("store", x_store), ("names", x_names), ("claims", x_claims), ("uploads", x_uploads), ("collector", x_collector)]
theorem f_Registry_store {x_store x_names x_claims x_uploads x_collector : V} : (f_Registry x_store x_names x_claims x_uploads x_collector).lookup ("store" : Str) = some x_store := lk_eq
theorem f_Registry_put_store {x_store x_names x_claims x_uploads x_collector y : V} : putF "store" y (f_Registry x_store x_names x_claims x_uploads x_collector) = f_Registry y x_names x_claims x_uploads x_collector := pf_eq
theorem f_Registry_names {x_store x_names x_claims x_uploads x_collector : V} : (f_Registry x_store x_names x_claims x_uploads x_collector).lookup ("names" : Str) = some x_names := (lk_ne (by decide +kernel)).trans (lk_eq)
theorem f_Registry_put_names {x_store x_names x_claims x_uploads x_collector y : V} : putF "names" y (f_Registry x_store x_names x_claims x_uploads x_collector) = f_Registry x_store y x_claims x_uploads x_collector := (pf_ne (by decide +kernel)).trans (congrArg _ (pf_eq))
theorem f_Registry_claims {x_store x_names x_claims x_uploads x_collector : V} : (f_Registry x_store x_names x_claims x_uploads x_collector).lookup ("claims" : Str) = some x_claims := (lk_ne (by decide +kernel)).trans ((lk_ne (by decide +kernel)).trans (lk_eq))
theorem f_Registry_put_claims {x_store x_names x_claims x_uploads x_collector y : V} : putF "claims" y (f_Registry x_store x_names x_claims x_uploads x_collector) = f_Registry x_store x_names y x_uploads x_collector := (pf_ne (by decide +kernel)).trans (congrArg _ ((pf_ne (by decide +kernel)).trans (congrArg _ (pf_eq))))
theorem f_Registry_uploads {x_store x_names x_claims x_uploads x_collector : V} : (f_Registry x_store x_names x_claims x_uploads x_collector).lookup ("uploads" : Str) = some x_uploads := (lk_ne (by decide +kernel)).trans ((lk_ne (by decide +kernel)).trans ((lk_ne (by decide +kernel)).trans (lk_eq)))
theorem f_Registry_put_uploads {x_store x_names x_claims x_uploads x_collector y : V} : putF "uploads" y (f_Registry x_store x_names x_claims x_uploads x_collector) = f_Registry x_store x_names x_claims y x_collector := (pf_ne (by decide +kernel)).trans (congrArg _ ((pf_ne (by decide +kernel)).trans (congrArg _ ((pf_ne (by decide +kernel)).trans (congrArg _ (pf_eq))))))
theorem f_Registry_collector {x_store x_names x_claims x_uploads x_collector : V} : (f_Registry x_store x_names x_claims x_uploads x_collector).lookup ("collector" : Str) = some x_collector := (lk_ne (by decide +kernel)).trans ((lk_ne (by decide +kernel)).trans ((lk_ne (by decide +kernel)).trans ((lk_ne (by decide +kernel)).trans (lk_eq))))
theorem f_Registry_put_collector {x_store x_names x_claims x_uploads x_collector y : V} : putF "collector" y (f_Registry x_store x_names x_claims x_uploads x_collector) = f_Registry x_store x_names x_claims x_uploads y := (pf_ne (by decide +kernel)).trans (congrArg _ ((pf_ne (by decide +kernel)).trans (congrArg _ ((pf_ne (by decide +kernel)).trans (congrArg _ ((pf_ne (by decide +kernel)).trans (congrArg _ (pf_eq))))))))
theorem f_Registry_no {x_store x_names x_claims x_uploads x_collector : V} {m : Str} (h : (["store", "names", "claims", "uploads", "collector"] : List Str).all (fun f => !(m == f)) = true) : (f_Registry x_store x_names x_claims x_uploads x_collector).lookup m = none := lk_no h
theorem f_Registry_len {x_store x_names x_claims x_uploads x_collector : V} : (f_Registry x_store x_names x_claims x_uploads x_collector).length < 1000 := (by decide : 5 < 1000)
theorem f_Registry_mk {x_store x_names x_claims x_uploads x_collector : V} : putF "collector" x_collector (putF "uploads" x_uploads (putF "claims" x_claims (putF "names" x_names (putF "store" x_store ([]))))) = f_Registry x_store x_names x_claims x_uploads x_collector := by
  unfold f_Registry; simp only [putF]; first | rfl | (repeat' (first | rfl | rw [if_neg (by decide +kernel)]))
structure Txt (w : World) (K : PySem.W.Frag) (mg : Str → Option Value) (C_Claims : Addr) (C_Collector : Addr) (C_Store : Addr) (C_Uploads : Addr) (C_Registry : Addr) (C_Refused : Addr) (C_Malformed : Addr) (a_KINDS : Addr) (a_BELOW : Addr) (a_CLAIMED : Addr) : Prop where
  cl_Claims : Cls K C_Claims
  na_Claims_last : NoAttr K C_Claims "last"
  na_Claims_pins : NoAttr K C_Claims "pins"
  i_Claims : IniAt K mg "Claims" C_Claims "Claims.__init__" s_Claims___init__ ["self"]
  m_Claims_begin : MetAt K C_Claims "begin" "Claims.begin" s_Claims_begin ["self"]
  m_Claims_is_open : MetAt K C_Claims "is_open" "Claims.is_open" s_Claims_is_open ["self", "claim"]
  m_Claims_pin : MetAt K C_Claims "pin" "Claims.pin" s_Claims_pin ["self", "claim", "address"]
  m_Claims_end : MetAt K C_Claims "end" "Claims.end" s_Claims_end ["self", "claim"]
  m_Claims_numbers : MetAt K C_Claims "numbers" "Claims.numbers" s_Claims_numbers ["self"]
  m_Claims_pinned : MetAt K C_Claims "pinned" "Claims.pinned" s_Claims_pinned ["self"]
  cl_Collector : Cls K C_Collector
  na_Collector_store : NoAttr K C_Collector "store"
  na_Collector_phase : NoAttr K C_Collector "phase"
  na_Collector_marked : NoAttr K C_Collector "marked"
  na_Collector_todo : NoAttr K C_Collector "todo"
  na_Collector_doomed : NoAttr K C_Collector "doomed"
  i_Collector : IniAt K mg "Collector" C_Collector "Collector.__init__" s_Collector___init__ ["self", "store"]
  m_Collector_stop : MetAt K C_Collector "stop" "Collector.stop" s_Collector_stop ["self"]
  m_Collector_shade : MetAt K C_Collector "shade" "Collector.shade" s_Collector_shade ["self", "address"]
  cl_Store : Cls K C_Store
  na_Store_blobs : NoAttr K C_Store "blobs"
  i_Store : IniAt K mg "Store" C_Store "Store.__init__" s_Store___init__ ["self"]
  m_Store_keep : MetAt K C_Store "keep" "Store.keep" s_Store_keep ["self", "kind", "text"]
  m_Store_blob : MetAt K C_Store "blob" "Store.blob" s_Store_blob ["self", "address"]
  m_Store_addresses : MetAt K C_Store "addresses" "Store.addresses" s_Store_addresses ["self"]
  m_Store_below : MetAt K C_Store "below" "Store.below" s_Store_below ["self", "address"]
  m_Store_is_whole : MetAt K C_Store "is_whole" "Store.is_whole" s_Store_is_whole ["self", "address"]
  m_Store_closure : MetAt K C_Store "closure" "Store.closure" s_Store_closure ["self", "address"]
  cl_Uploads : Cls K C_Uploads
  na_Uploads_last : NoAttr K C_Uploads "last"
  na_Uploads_texts : NoAttr K C_Uploads "texts"
  i_Uploads : IniAt K mg "Uploads" C_Uploads "Uploads.__init__" s_Uploads___init__ ["self"]
  m_Uploads_begin : MetAt K C_Uploads "begin" "Uploads.begin" s_Uploads_begin ["self"]
  m_Uploads_add_part : MetAt K C_Uploads "add_part" "Uploads.add_part" s_Uploads_add_part ["self", "upload", "at", "part"]
  m_Uploads_finish : MetAt K C_Uploads "finish" "Uploads.finish" s_Uploads_finish ["self", "upload"]
  m_Uploads_forget : MetAt K C_Uploads "forget" "Uploads.forget" s_Uploads_forget ["self"]
  cl_Registry : Cls K C_Registry
  na_Registry_store : NoAttr K C_Registry "store"
  na_Registry_names : NoAttr K C_Registry "names"
  na_Registry_claims : NoAttr K C_Registry "claims"
  na_Registry_uploads : NoAttr K C_Registry "uploads"
  na_Registry_collector : NoAttr K C_Registry "collector"
  i_Registry : IniAt K mg "Registry" C_Registry "Registry.__init__" s_Registry___init__ ["self"]
  m_Registry_answer : MetAt K C_Registry "answer" "Registry.answer" s_Registry_answer ["self", "request"]
  m_Registry_answer_plain : MetAt K C_Registry "answer_plain" "Registry.answer_plain" s_Registry_answer_plain ["self", "request"]
  m_Registry_kept : MetAt K C_Registry "kept" "Registry.kept" s_Registry_kept ["self", "claim", "address"]
  m_Registry_answer_has : MetAt K C_Registry "answer_has" "Registry.answer_has" s_Registry_answer_has ["self", "claim", "address"]
  m_Registry_answer_part : MetAt K C_Registry "answer_part" "Registry.answer_part" s_Registry_answer_part ["self", "upload", "at", "part"]
  m_Registry_answer_finish : MetAt K C_Registry "answer_finish" "Registry.answer_finish" s_Registry_answer_finish ["self", "upload", "claim", "address"]
  m_Registry_answer_put : MetAt K C_Registry "answer_put" "Registry.answer_put" s_Registry_answer_put ["self", "claim", "kind", "text"]
  m_Registry_answer_name : MetAt K C_Registry "answer_name" "Registry.answer_name" s_Registry_answer_name ["self", "claim", "name", "address"]
  m_Registry_answer_get : MetAt K C_Registry "answer_get" "Registry.answer_get" s_Registry_answer_get ["self", "address", "at", "count"]
  m_Registry_drop_name : MetAt K C_Registry "drop_name" "Registry.drop_name" s_Registry_drop_name ["self", "name"]
  m_Registry_lapse : MetAt K C_Registry "lapse" "Registry.lapse" s_Registry_lapse ["self", "claim"]
  m_Registry_fall : MetAt K C_Registry "fall" "Registry.fall" s_Registry_fall ["self"]
  m_Registry_roots : MetAt K C_Registry "roots" "Registry.roots" s_Registry_roots ["self"]
  gx_Refused : mg "Refused" = some (.ref C_Refused)
  gx_Malformed : mg "Malformed" = some (.ref C_Malformed)
  ox_Malformed : OexC K C_Malformed
  xf_Malformed : XfC K C_Malformed
  xi_Malformed : XiC K C_Malformed
  te_Malformed : PySem.W.exmOne K (.ref C_Malformed) (.ref C_Malformed) = some true
  na_Malformed_line : PySem.W.findIn K (.ref C_Malformed) "line" = some none
  i_Malformed : ExiAt K mg "Malformed" C_Malformed "Malformed.__init__" s_Malformed___init__ ["self", "line"]
  d__wall : DefAt K mg "_wall" s__wall ["k"]
  d_address_of : DefAt K mg "address_of" s_address_of ["kind", "text"]
  d_is_address : DefAt K mg "is_address" s_is_address ["text"]
  d_image_text : DefAt K mg "image_text" s_image_text ["layers"]
  d_bundle_text : DefAt K mg "bundle_text" s_bundle_text ["entries"]
  d_lines_of : DefAt K mg "lines_of" s_lines_of ["text", "head"]
  d_read_image : DefAt K mg "read_image" s_read_image ["text"]
  d_is_platform : DefAt K mg "is_platform" s_is_platform ["word"]
  d_read_bundle : DefAt K mg "read_bundle" s_read_bundle ["text"]
  d_references : DefAt K mg "references" s_references ["kind", "text"]
  d__law_state : DefAt K mg "_law_state" s__law_state ["_law_script"]
  d__law_take : DefAt K mg "_law_take" s__law_take ["_law_state_here", "_law_most"]
  d__law_text : DefAt K mg "_law_text" s__law_text ["_law_state_here", "_law_most"]
  d__law_refs : DefAt K mg "_law_refs" s__law_refs ["_law_kind", "_law_text_here"]
  d__law_whole : DefAt K mg "_law_whole" s__law_whole ["_law_model", "_law_address_here"]
  d__law_kept : DefAt K mg "_law_kept" s__law_kept ["_law_model", "_law_claim", "_law_address_here"]
  d__law_finish : DefAt K mg "_law_finish" s__law_finish ["_law_model", "_law_upload", "_law_claim", "_law_address_here"]
  d__law_put : DefAt K mg "_law_put" s__law_put ["_law_model", "_law_claim", "_law_kind", "_law_text_here"]
  d__law_claimed : DefAt K mg "_law_claimed" s__law_claimed ["_law_model", "_law_request_here"]
  d__law_answer : DefAt K mg "_law_answer" s__law_answer ["_law_model", "_law_request_here"]
  d__law_without : DefAt K mg "_law_without" s__law_without ["_law_things", "_law_key"]
  d__law_address : DefAt K mg "_law_address" s__law_address ["_law_state_here", "_law_model"]
  d__law_text_of : DefAt K mg "_law_text_of" s__law_text_of ["_law_state_here", "_law_model", "_law_kind"]
  d__law_request : DefAt K mg "_law_request" s__law_request ["_law_state_here", "_law_model"]
  d__law_roots : DefAt K mg "_law_roots" s__law_roots ["_law_model"]
  n_abs : mg "abs" = none
  n_int : mg "int" = none
  n_isinstance : mg "isinstance" = none
  n_len : mg "len" = none
  n_list : mg "list" = none
  n_ord : mg "ord" = none
  n_range : mg "range" = none
  n_repr : mg "repr" = none
  n_set : mg "set" = none
  n_sorted : mg "sorted" = none
  n_tuple : mg "tuple" = none
  g_DIGITS : ∃ u, mg "DIGITS" = some u ∧ RelV (.str "0123456789abcdef") u
  g_LETTERS : ∃ u, mg "LETTERS" = some u ∧ RelV (.str "abcdefghijklmnopqrstuvwxyz") u
  g_MAX_LINES : ∃ u, mg "MAX_LINES" = some u ∧ RelV (.int 50) u
  g_PRIME : ∃ u, mg "PRIME" = some u ∧ RelV (.int 2305843009213693951) u
  g_KINDS : ∃ u, mg "KINDS" = some u ∧ RelV (.ref a_KINDS) u
  at_KINDS : ∃ o its n, K.lookup a_KINDS = some o ∧ o.cls = .type "tuple" ∧ o.dict = none ∧ o.data = .seq its n ∧ its.size ≤ sizeLine ∧ Vals (kinds3.map V.str) its.toList
  g_BELOW : ∃ u, mg "BELOW" = some u ∧ RelV (.ref a_BELOW) u
  k_BELOW_image : KDct K w a_BELOW "image" (.str "layer")
  k_BELOW_bundle : KDct K w a_BELOW "bundle" (.str "image")
  g_CLAIMED : ∃ u, mg "CLAIMED" = some u ∧ RelV (.ref a_CLAIMED) u
  at_CLAIMED : ∃ o its n, K.lookup a_CLAIMED = some o ∧ o.cls = .type "tuple" ∧ o.dict = none ∧ o.data = .seq its n ∧ its.size ≤ sizeLine ∧ Vals (claimed4.map V.str) its.toList
end Lw
local macro_rules | `(tactic| walk_at "lw side") => `(tactic| first | assumption | decide | omega | exact Or.inr ⟨by decide, by decide⟩ | exact Or.inl ⟨by decide, by decide⟩ | exact ⟨by decide, by decide⟩ | exact ⟨by omega, by omega⟩)
local macro_rules | `(tactic| walk_at "lw ne") => `(tactic| first | assumption | exact Ne.symm (by assumption) | exact L2.ne_of_none (by assumption) (by assumption) | exact Ne.symm (L2.ne_of_none (by assumption) (by assumption)))
local macro_rules | `(tactic| walk_at "lw hp") => `(tactic| first | assumption | exact L2.upd_same | (refine Eq.trans (L2.upd_ne (by walk_at "lw ne")) ?_; walk_at "lw hp"))
local macro_rules | `(tactic| walk_at "lw sq") => `(tactic| first | assumption | exact L2.SqL.of (by walk_at "lw hp") | exact L2.SqT.of (by walk_at "lw hp"))
local macro_rules | `(tactic| walk_at "lw go") => `(tactic| first
  | (with_reducible refine Lw.g_seq ?_)
  | ((with_reducible refine' Lw.g_var ?h1 ?k1); (case h1 => rfl))
  | (with_reducible refine Lw.g_c ?_)
  | (with_reducible refine Lw.g_op ?_)
  | (with_reducible refine Lw.g_I0 ?_)
  | ((with_reducible refine' Lw.g_I ?h1 ?k1); (case h1 => walk_at "lw side"))
  | ((with_reducible refine' Lw.g_eq ?h1 ?k1); (case h1 => rfl))
  | ((with_reducible refine' Lw.g_ne ?h1 ?k1); (case h1 => rfl))
  | (with_reducible refine Lw.g_nil ?_)
  | (with_reducible refine Lw.g_cons ?_)
  | (with_reducible refine Lw.g_cb ?_)
  | (with_reducible refine Lw.g_call ?_)
  | (with_reducible refine Lw.g_test ?_)
  | (with_reducible refine Lw.g_B ?_)
  | (with_reducible refine Lw.g_exb ?_)
  | (with_reducible refine Lw.g_not ?_)
  | (with_reducible refine Lw.g_and ?_)
  | (with_reducible refine Lw.g_or ?_)
  | (with_reducible refine Lw.g_tup ?_)
  | (with_reducible refine Lw.g_lst ?_)
  | (with_reducible refine Lw.g_ifx ?_)
  | (with_reducible refine Lw.g_fld ?_)
  | (with_reducible refine Lw.g_asg ?_)
  | (with_reducible refine Lw.g_name ?_)
  | (with_reducible refine Lw.g_ret ?_)
  | (with_reducible refine Lw.g_drop ?_)
  | (with_reducible refine Lw.g_next ?_)
  | (with_reducible refine Lw.g_ifs ?_)
  | (with_reducible refine Lw.g_pnx ?_)
  | (with_reducible refine Lw.g_prt ?_)
  | (with_reducible refine Lw.g_pbk ?_)
  | (with_reducible refine Lw.g_pct ?_)
  | (with_reducible refine Lw.g_sl ?_)
  | (with_reducible refine Lw.g_nopart ?_)
  | (with_reducible refine Lw.g_part ?_)
  | (with_reducible refine Lw.g_rpart ?_)
  | (with_reducible refine Lw.g_m1 ?_)
  | (with_reducible refine Lw.g_m0 ?_)
  | (with_reducible refine Lw.g_rstr ?_)
  | (with_reducible refine Lw.g_bm0 ?_)
  | (with_reducible refine Lw.g_bm ?_)
  | (with_reducible refine Lw.g_isN ?_)
  | (with_reducible refine Lw.g_isB ?_)
  | (with_reducible refine Lw.g_notB ?_)
  | (with_reducible refine Lw.g_andV ?_)
  | (with_reducible refine Lw.g_orV ?_)
  | (with_reducible refine Lw.g_notV ?_)
  | (with_reducible refine Lw.g_notN ?_)
  | (with_reducible refine L2.iteT ?_)
  | (with_reducible refine L2.iteF ?_)
  | (with_reducible refine Lw.g_int1 ?_)
  | (with_reducible refine Lw.g_int1b ?_)
  | (with_reducible refine Lw.g_sub ?_)
  | (with_reducible refine Lw.g_forR ?_)
  | (with_reducible refine Lw.g_for ?_)
  | (with_reducible refine Lw.g_lc ?_)
  | (with_reducible refine Lw.g_iStr ?_)
  | (with_reducible refine Lw.g_ritS ?_)
  | (with_reducible refine Lw.g_tyS ?_)
  | (with_reducible refine Lw.g_iList ?_)
  | (with_reducible refine Lw.g_iTup ?_)
  | (with_reducible refine Lw.g_iRng ?_)
  | (with_reducible refine Lw.g_inSg ?_)
  | (with_reducible refine Lw.g_notInSg ?_)
  | (with_reducible refine Lw.g_ord ?_)
  | (with_reducible refine Lw.g_reprB ?_)
  | (with_reducible refine Lw.g_sfld ?_)
  | (with_reducible refine Lw.g_meth ?_)
  | (with_reducible refine Lw.g_make ?_)
  | (with_reducible refine Lw.g_dget ?_)
  | (with_reducible refine Lw.g_din ?_)
  | (with_reducible refine Lw.g_dnotin ?_)
  | (with_reducible refine Lw.g_dput ?_)
  | (with_reducible refine Lw.g_ddel ?_)
  | (with_reducible refine Lw.g_dpop1 ?_)
  | (with_reducible refine Lw.g_dget1 ?_)
  | (with_reducible refine Lw.g_iKeys ?_)
  | (with_reducible refine Lw.g_fldaug ?_)
  | ((with_reducible refine' Lw.g_lenL ?h1 ?k1); (case h1 => walk_at "lw sq"))
  | ((with_reducible refine' Lw.g_lenD ?h1 ?k1); (case h1 => walk_at "lw hp")))
local macro_rules | `(tactic| walk_at "lw") => `(tactic| repeat walk_at "lw go")
/-! ## Claims and Uploads -/
namespace Lw
open PySem L2
open PyProof.Rows (envOfC sortedS)
def addTo (acc l : List Str) : List Str := l.foldl (fun acc x => if x ∈ acc then acc else acc ++ [x]) acc
def ded (l : List Str) : List Str := addTo [] l
theorem addTo_snoc (acc l : List Str) (x : Str) : addTo acc (l ++ [x]) = if x ∈ addTo acc l then addTo acc l else addTo acc l ++ [x] := by
  unfold addTo
  rw [List.foldl_append]
  rfl
theorem addTo_mem (l : List Str) : ∀ (acc : List Str) (x : Str), x ∈ addTo acc l ↔ x ∈ acc ∨ x ∈ l := by
  induction l with
  | nil => intro acc x; simp [addTo]
  | cons y r ih =>
    intro acc x
    show x ∈ addTo (if y ∈ acc then acc else acc ++ [y]) r ↔ _
    rw [ih]
    split
    · rename_i h
      constructor
      · rintro (a | a)
        · exact .inl a
        · exact .inr (List.mem_cons_of_mem _ a)
      · rintro (a | a)
        · exact .inl a
        · rcases List.mem_cons.mp a with e | e
          · rw [e]; exact .inl h
          · exact .inr e
    · rw [List.mem_append, List.mem_singleton, List.mem_cons, or_assoc]
theorem addTo_nodup (l : List Str) : ∀ (acc : List Str), acc.Nodup → (addTo acc l).Nodup := by
  induction l with
  | nil => intro acc h; exact h
  | cons y r ih =>
    intro acc h
    show (addTo (if y ∈ acc then acc else acc ++ [y]) r).Nodup
    refine ih _ ?_
    split
    · exact h
    · rename_i hy
      rw [List.nodup_append]
      refine ⟨h, by simp, fun a ha b hb => ?_⟩
      rw [List.mem_singleton.mp hb]
      exact fun z => hy (z ▸ ha)
def setD (l : List Str) : List (Key × V) := mkS (ded l) fun _ => .bl true
theorem setD_put (l : List Str) (x : Str) : putK (setD l) (kS x) (.bl true) = setD (l ++ [x]) := by
  unfold setD ded
  rw [addTo_snoc]
  by_cases h : x ∈ addTo [] l
  · rw [putK_mkS_old h, if_pos h]
    exact mkS_congr fun j _ => by split <;> rfl
  · rw [putK_mkS_new h, if_neg h]
    exact mkS_congr fun j _ => by split <;> rfl
structure ClaimsAt (C : Addr) (c : Addr → Nat) (H : Hp) (p : Addr) (n : Int) (ks : List Int) (L : Int → List Str) : Prop where
  ex : ∃ (dx d : Addr) (A : Int → Addr), c p = 4 ∧ H p = some (.ins C dx (f_Claims (.int n) (.ref d))) ∧ c d = 4 ∧ H d = some (.dK (mkD ks fun i => .ref (A i))) ∧ (∀ i ∈ ks, c (A i) = 4 ∧ H (A i) = some (.dK (setD (L i)))) ∧
    (∀ i ∈ ks, ∀ j ∈ ks, A i = A j → i = j) ∧ ∀ i ∈ ks, A i ≠ d
theorem ClaimsAt.frame {C : Addr} {I : Nat → Prop} {c c' : Addr → Nat} {H H' : Hp} {p : Addr} {n : Int} {ks : List Int} {L : Int → List Str} (h : ClaimsAt C c H p n ks L) (s : Stp I c c' H H') (hi : ¬ I 4) : ClaimsAt C c' H' p n ks L := by
  obtain ⟨dx, d, A, h1, h2, h3, h4, h5, h6⟩ := h.ex
  refine ⟨dx, d, A, by rw [s.col _ _ h2, h1], s.keep _ _ h2 (by rw [h1]; exact hi), by rw [s.col _ _ h4, h3], s.keep _ _ h4 (by rw [h3]; exact hi), fun i hm => ?_, h6⟩
  obtain ⟨a, b⟩ := h5 i hm
  exact ⟨by rw [s.col _ _ b, a], s.keep _ _ b (by rw [a]; exact hi)⟩
structure UpAt (C : Addr) (c : Addr → Nat) (H : Hp) (p : Addr) (n : Int) (ts : List Int) (X : Int → List Nat) : Prop where
  ex : ∃ (dx d : Addr), c p = 3 ∧ H p = some (.ins C dx (f_Uploads (.int n) (.ref d))) ∧ c d = 3 ∧ H d = some (.dK (mkD ts fun i => .str (SX.S (X i))))
theorem UpAt.frame {C : Addr} {I : Nat → Prop} {c c' : Addr → Nat} {H H' : Hp} {p : Addr} {n : Int} {ks : List Int} {L : Int → List Nat} (h : UpAt C c H p n ks L) (s : Stp I c c' H H') (hi : ¬ I 3) : UpAt C c' H' p n ks L := by
  obtain ⟨dx, d, h1, h2, h3, h4⟩ := h.ex
  exact ⟨dx, d, by rw [s.col _ _ h2, h1], s.keep _ _ h2 (by rw [h1]; exact hi), by rw [s.col _ _ h4, h3], s.keep _ _ h4 (by rw [h3]; exact hi)⟩
def spCInit (C : Addr) : Sp := fun vs H Q _ => ∃ (p dx : Addr), vs = [.ref p] ∧ H p = some (.ins C dx []) ∧ ∀ d H', H d = none → H' p = some (.ins C dx (f_Claims (.int 0) (.ref d))) → H' d = some (.dK []) → (∀ b o, H b = some o → b ≠ p → H' b = some o) → Q .non H'
def spUInit (C : Addr) : Sp := fun vs H Q _ => ∃ (p dx : Addr), vs = [.ref p] ∧ H p = some (.ins C dx []) ∧ ∀ d H', H d = none → H' p = some (.ins C dx (f_Uploads (.int 0) (.ref d))) → H' d = some (.dK []) → (∀ b o, H b = some o → b ≠ p → H' b = some o) → Q .non H'
def spCBegin (C : Addr) : Sp := fun vs H Q _ => ∃ (c : Addr → Nat) (p : Addr) (n : Int) (ks : List Int) (L : Int → List Str), vs = [.ref p] ∧ ClaimsAt C c H p n ks L ∧ n + 1 ∉ ks ∧ ks.length ≤ 1000 ∧
  ∀ c' H', ClaimsAt C c' H' p (n + 1) (ks ++ [n + 1]) (fun j => if j = n + 1 then [] else L j) → Stp (fun i => i = 4) c c' H H' → Q (.int (n + 1)) H'
def spCOpen (C : Addr) : Sp := fun vs H Q _ => ∃ (c : Addr → Nat) (p : Addr) (n i : Int) (ks : List Int) (L : Int → List Str), vs = [.ref p, .int i] ∧ ClaimsAt C c H p n ks L ∧ Q (.bl (decide (i ∈ ks))) H
def spCPin (C : Addr) : Sp := fun vs H Q _ => ∃ (c : Addr → Nat) (p : Addr) (n i : Int) (x : Str) (ks : List Int) (L : Int → List Str), vs = [.ref p, .int i, .str x] ∧ ClaimsAt C c H p n ks L ∧ i ∈ ks ∧ (ded (L i)).length ≤ 1000 ∧
  ∀ H', ClaimsAt C c H' p n ks (fun j => if j = i then L i ++ [x] else L j) → Stp (fun i => i = 4) c c H H' → Q .non H'
def spCEnd (C : Addr) : Sp := fun vs H Q _ => ∃ (c : Addr → Nat) (p : Addr) (n i : Int) (ks : List Int) (L : Int → List Str), vs = [.ref p, .int i] ∧ ClaimsAt C c H p n ks L ∧
  ∀ H', ClaimsAt C c H' p n (ks.filter fun j => decide (j ≠ i)) L → Stp (fun i => i = 4) c c H H' → Q .non H'
def spCNumbers (C : Addr) : Sp := fun vs H Q _ => ∃ (c : Addr → Nat) (p : Addr) (n : Int) (ks : List Int) (L : Int → List Str), vs = [.ref p] ∧ ClaimsAt C c H p n ks L ∧ ks.length < 64 ∧
  ∀ (r : Addr) (ys : List Int) H', ys.Perm ks → ys.Pairwise (· ≤ ·) → Same H H' → H' r = some (.lst (ys.map V.int)) → Q (.ref r) H'
def spCPinned (C : Addr) : Sp := fun vs H Q _ => ∃ (c : Addr → Nat) (p : Addr) (n : Int) (ks : List Int) (L : Int → List Str) (D : List Str), vs = [.ref p] ∧ ClaimsAt C c H p n ks L ∧ (∀ i ∈ ks, ∀ x ∈ L i, x ∈ D) ∧ D.length < 64 ∧
  ∀ (r : Addr) (ys : List Str) H', ys.Nodup → sortedS ys = true → (∀ x, x ∈ ys ↔ ∃ i ∈ ks, x ∈ L i) → Same H H' → H' r = some (.lst (ys.map V.str)) → Q (.ref r) H'
def spUBegin (C : Addr) : Sp := fun vs H Q _ => ∃ (c : Addr → Nat) (p : Addr) (n : Int) (ts : List Int) (X : Int → List Nat), vs = [.ref p] ∧ UpAt C c H p n ts X ∧ n + 1 ∉ ts ∧ ts.length ≤ 1000 ∧
  ∀ H', UpAt C c H' p (n + 1) (ts ++ [n + 1]) (fun j => if j = n + 1 then [] else X j) → Stp (fun i => i = 3) c c H H' → Q (.int (n + 1)) H'
def spUAdd (C : Addr) : Sp := fun vs H Q _ => ∃ (c : Addr → Nat) (p : Addr) (n u a : Int) (t : List Nat) (ts : List Int) (X : Int → List Nat), vs = [.ref p, .int u, .int a, .str (SX.S t)] ∧ UpAt C c H p n ts X ∧ ts.length ≤ 1000 ∧ (X u).length + t.length ≤ 100000 ∧
  (u ∉ ts → Q .non H) ∧ (u ∈ ts → a ≠ (X u).length → Q (.int (X u).length) H) ∧
  (u ∈ ts → a = (X u).length → ∀ H', UpAt C c H' p n ts (fun j => if j = u then X u ++ t else X j) → Stp (fun i => i = 3) c c H H' → Q (.int (X u ++ t).length) H')
def spUFin (C : Addr) : Sp := fun vs H Q _ => ∃ (c : Addr → Nat) (p : Addr) (n u : Int) (ts : List Int) (X : Int → List Nat), vs = [.ref p, .int u] ∧ UpAt C c H p n ts X ∧
  (u ∉ ts → Q .non H) ∧ (u ∈ ts → ∀ H', UpAt C c H' p n (ts.filter fun j => decide (j ≠ u)) X → Stp (fun i => i = 3) c c H H' → Q (.str (SX.S (X u))) H')
def spUForget (C : Addr) : Sp := fun vs H Q _ => ∃ (c : Addr → Nat) (p : Addr) (n : Int) (ts : List Int) (X : Int → List Nat), vs = [.ref p] ∧ UpAt C c H p n ts X ∧
  ∀ c' H', UpAt C c' H' p n [] X → Stp (fun i => i = 3) c c' H H' → Q .non H'
section
variable {P : Program} {w : World} {K : PySem.W.Frag} {mg : Str → Option Value} {base : Heap} {C_Claims C_Collector C_Store C_Uploads C_Registry C_Refused C_Malformed a_KINDS a_BELOW a_CLAIMED : Addr}
theorem ok_Claims___init__ (T : Txt w K mg C_Claims C_Collector C_Store C_Uploads C_Registry C_Refused C_Malformed a_KINDS a_BELOW a_CLAIMED) : Mak P w K mg base 1 "Claims" C_Claims (spCInit C_Claims) := by
  refine mak_mk T.i_Claims sc_Claims___init__ (fun vs H Q E h => ?_) (fun f cdv A outer s H vs Q E hr h => ?_)
  · obtain ⟨p, dx, rfl, _⟩ := h
    rfl
  · obtain ⟨p, dx, rfl, hp, k⟩ := h
    refine ⟨_, (pss_cons (ps_fld (pv 0) (pe_int) rfl)
      (pss_one (ps_fld (pv 0) (pe_dnewK) rfl))), ?_⟩
    walk_at "lw"
    refine g_rsfld hp T.cl_Claims T.na_Claims_last (by decide) fun H2 h2 k2 => ?_
    walk_at "lw"
    refine g_dnew fun d H3 nd s3 hd => ?_
    walk_at "lw"
    refine g_rsfld (s3 _ _ h2) T.cl_Claims T.na_Claims_pins (by decide) fun H4 h4 k4 => ?_
    walk_at "lw"
    have ne : d ≠ p := Ne.symm (ne_of_none h2 nd)
    rw [f_Claims_mk] at h4
    refine k d H4 (by rw [← k2 d ne]; exact nd) h4 (by rw [k4 d ne]; exact hd) fun b o e hb => ?_
    rw [k4 b hb]
    refine s3 _ _ ?_
    rw [k2 b hb]; exact e
theorem ok_Uploads___init__ (T : Txt w K mg C_Claims C_Collector C_Store C_Uploads C_Registry C_Refused C_Malformed a_KINDS a_BELOW a_CLAIMED) : Mak P w K mg base 1 "Uploads" C_Uploads (spUInit C_Uploads) := by
  refine mak_mk T.i_Uploads sc_Uploads___init__ (fun vs H Q E h => ?_) (fun f cdv A outer s H vs Q E hr h => ?_)
  · obtain ⟨p, dx, rfl, _⟩ := h
    rfl
  · obtain ⟨p, dx, rfl, hp, k⟩ := h
    refine ⟨_, (pss_cons (ps_fld (pv 0) (pe_int) rfl)
      (pss_one (ps_fld (pv 0) (pe_dnewK) rfl))), ?_⟩
    walk_at "lw"
    refine g_rsfld hp T.cl_Uploads T.na_Uploads_last (by decide) fun H2 h2 k2 => ?_
    walk_at "lw"
    refine g_dnew fun d H3 nd s3 hd => ?_
    walk_at "lw"
    refine g_rsfld (s3 _ _ h2) T.cl_Uploads T.na_Uploads_texts (by decide) fun H4 h4 k4 => ?_
    walk_at "lw"
    have ne : d ≠ p := Ne.symm (ne_of_none h2 nd)
    rw [f_Uploads_mk] at h4
    refine k d H4 (by rw [← k2 d ne]; exact nd) h4 (by rw [k4 d ne]; exact hd) fun b o e hb => ?_
    rw [k4 b hb]
    refine s3 _ _ ?_
    rw [k2 b hb]; exact e
theorem ok_Claims_begin (T : Txt w K mg C_Claims C_Collector C_Store C_Uploads C_Registry C_Refused C_Malformed a_KINDS a_BELOW a_CLAIMED) : Met P w K mg base 1 C_Claims "begin" (spCBegin C_Claims) := by
  refine met_mk T.cl_Claims T.m_Claims_begin sc_Claims_begin (fun vs H Q E h => ?_) (fun f cdv A outer s H vs Q E hr h => ?_)
  · obtain ⟨c, p, n, ks, L, rfl, _⟩ := h
    rfl
  · obtain ⟨c, p, n, ks, L, rfl, W, hn, hz, k⟩ := h
    obtain ⟨dx, d, B, h1, h2, h3, h4, h5, h6, h7⟩ := W.ex
    have hu := hu_of hr
    refine ⟨_, (pss_cons (ps_fldaug (pv 0) (pe_int) in_add)
      (pss_cons (ps_dput hu (pe_fld (pv 0) rfl) (pe_fld (pv 0) rfl) (pe_dnewK) rfl)
      (pss_one (ps_ret (pe_fld (pv 0) rfl))))), ?_⟩
    walk_at "lw"
    refine g_rfldaugI h2 T.cl_Claims T.na_Claims_last f_Claims_last f_Claims_len (fun R r => by walk_at "lw"; exact r) fun H2 p2 k2 => ?_
    rw [f_Claims_put_last] at p2
    have npd : d ≠ p := Ne.symm (ne_of h2 h4 (by intro z; cases z))
    have d2 : H2 d = some (.dK (mkD ks fun i => .ref (B i))) := by rw [k2 d npd]; exact h4
    walk_at "lw"
    refine g_dnew fun q H3 nq s3 hq => ?_
    walk_at "lw"
    refine g_rfld (s3 _ _ p2) T.cl_Claims T.na_Claims_pins f_Claims_pins ?_
    walk_at "lw"
    refine g_rfld (s3 _ _ p2) T.cl_Claims T.na_Claims_last f_Claims_last ?_
    refine g_rdputI (s3 _ _ d2) (by rw [mkD_len]; omega) fun H4 d4 k4 => ?_
    rw [putK_mkD_new hn] at d4
    have p4 : H4 p = some (.ins C_Claims dx (f_Claims (.int (n + 1)) (.ref d))) := by rw [k4 p npd.symm]; exact s3 _ _ p2
    walk_at "lw"
    refine g_rfld p4 T.cl_Claims T.na_Claims_last f_Claims_last ?_
    walk_at "lw"
    have qd : q ≠ d := Ne.symm (ne_of_none d2 nq)
    have qp : q ≠ p := Ne.symm (ne_of_none p2 nq)
    have nq0 : H q = none := by rw [← k2 q qp]; exact nq
    have q4 : H4 q = some (.dK []) := by rw [k4 q qd]; exact hq
    have st1 : Stp (fun i => i = 4) c c H H2 := Stp.ch h2 h1 (fun xs z => by cases z) p2 k2
    have st2 : Stp (fun i => i = 4) c (Stp.paint c q 4) H2 H3 := L2x_sameN s3 nq
    have st3 : Stp (fun i => i = 4) (Stp.paint c q 4) (Stp.paint c q 4) H3 H4 := Stp.ch (s3 _ _ d2) (by rw [Stp.paint_ne (Ne.symm qd)]; exact h3) (fun xs z => by cases z) d4 k4
    refine k (Stp.paint c q 4) H4 ⟨dx, d, fun j => if j = n + 1 then q else B j, by rw [Stp.paint_ne qp.symm]; exact h1, p4, by rw [Stp.paint_ne qd.symm]; exact h3, ?_, ?_, ?_, ?_⟩ ((st1.trans st2).trans st3)
    · rw [d4]
      congr 2
      refine mkD_congr fun j hj => ?_
      by_cases e : j = n + 1 <;> simp [e]
    · intro i hi
      by_cases e : i = n + 1
      · simp only [if_pos e]
        exact ⟨Stp.paint_same, q4⟩
      · simp only [if_neg e]
        have hi' : i ∈ ks := by
          rcases List.mem_append.mp hi with z | z
          · exact z
          · exact absurd (List.mem_singleton.mp z) e
        obtain ⟨a, b⟩ := h5 i hi'
        have b2 : H2 (B i) = some (.dK (setD (L i))) := by rw [k2 _ (ne_of b h2 (by intro z; cases z))]; exact b
        exact ⟨by rw [Stp.paint_ne (ne_of_none b2 nq)]; exact a, by rw [k4 _ (h7 i hi')]; exact s3 _ _ b2⟩
    · intro i hi j hj e
      have mem : ∀ i, i ∈ ks ++ [n + 1] → i ≠ n + 1 → i ∈ ks ∧ B i ≠ q := fun i hi e => by
        have hi' : i ∈ ks := by
          rcases List.mem_append.mp hi with z | z
          · exact z
          · exact absurd (List.mem_singleton.mp z) e
        exact ⟨hi', ne_of_none (h5 i hi').2 nq0⟩
      by_cases e1 : i = n + 1
      · by_cases e2 : j = n + 1
        · rw [e1, e2]
        · simp only [if_pos e1, if_neg e2] at e
          exact absurd e.symm (mem j hj e2).2
      · by_cases e2 : j = n + 1
        · simp only [if_neg e1, if_pos e2] at e
          exact absurd e (mem i hi e1).2
        · simp only [if_neg e1, if_neg e2] at e
          exact h6 i (mem i hi e1).1 j (mem j hj e2).1 e
    · intro i hi
      by_cases e : i = n + 1
      · simp only [if_pos e]
        exact qd
      · simp only [if_neg e]
        rcases List.mem_append.mp hi with z | z
        · exact h7 i z
        · exact absurd (List.mem_singleton.mp z) e
theorem ok_Claims_is_open (T : Txt w K mg C_Claims C_Collector C_Store C_Uploads C_Registry C_Refused C_Malformed a_KINDS a_BELOW a_CLAIMED) : Met P w K mg base 1 C_Claims "is_open" (spCOpen C_Claims) := by
  refine met_mk T.cl_Claims T.m_Claims_is_open sc_Claims_is_open (fun vs H Q E h => ?_) (fun f cdv A outer s H vs Q E hr h => ?_)
  · obtain ⟨c, p, n, i, ks, L, rfl, _⟩ := h
    rfl
  · obtain ⟨c, p, n, i, ks, L, rfl, W, k⟩ := h
    obtain ⟨dx, d, B, h1, h2, h3, h4, h5, h6, h7⟩ := W.ex
    have hu := hu_of hr
    refine ⟨_, (pss_one (ps_ret (pe_cmp (pc_din hu (pv 1) (pe_fld (pv 0) rfl)) rfl))), ?_⟩
    walk_at "lw"
    refine g_rfld h2 T.cl_Claims T.na_Claims_pins f_Claims_pins ?_
    refine g_rdinI (.of h4) ?_
    walk_at "lw"
    rw [valV_mkD, show (if i ∈ ks then some (V.ref (B i)) else none).isSome = decide (i ∈ ks) by split <;> simp_all]
    exact k
theorem ok_Claims_pin (T : Txt w K mg C_Claims C_Collector C_Store C_Uploads C_Registry C_Refused C_Malformed a_KINDS a_BELOW a_CLAIMED) : Met P w K mg base 1 C_Claims "pin" (spCPin C_Claims) := by
  refine met_mk T.cl_Claims T.m_Claims_pin sc_Claims_pin (fun vs H Q E h => ?_) (fun f cdv A outer s H vs Q E hr h => ?_)
  · obtain ⟨c, p, n, i, x, ks, L, rfl, _⟩ := h
    rfl
  · obtain ⟨c, p, n, i, x, ks, L, rfl, W, hi, hz, k⟩ := h
    obtain ⟨dx, d, B, h1, h2, h3, h4, h5, h6, h7⟩ := W.ex
    have hu := hu_of hr
    refine ⟨_, (pss_one (ps_dput hu (pe_dget hu (pe_fld (pv 0) rfl) (pv 1) (fun _ _ => rfl)) (pv 2) (pe_bl) rfl)), ?_⟩
    walk_at "lw"
    refine g_rfld h2 T.cl_Claims T.na_Claims_pins f_Claims_pins ?_
    walk_at "lw"
    refine g_rdgetI (.of h4) (by rw [valV_mkD, if_pos hi]) ?_
    walk_at "lw"
    obtain ⟨ca, ha⟩ := h5 i hi
    refine g_rdputS ha (by unfold setD; rw [mkS_len]; omega) fun H2 a2 k2 => ?_
    rw [setD_put] at a2
    walk_at "lw"
    refine k H2 ⟨dx, d, B, h1, by rw [k2 _ (ne_of h2 ha (by intro z; cases z))]; exact h2, h3, by rw [k2 _ (Ne.symm (h7 i hi))]; exact h4, fun j hj => ?_, h6, h7⟩ (Stp.ch ha ca (fun xs z => by cases z) a2 k2)
    by_cases e : j = i
    · subst e
      simp only [if_pos]
      exact ⟨ca, a2⟩
    · simp only [if_neg e]
      obtain ⟨cj, hj'⟩ := h5 j hj
      exact ⟨cj, by rw [k2 _ (fun z => e (h6 j hj i hi z))]; exact hj'⟩
theorem ok_Claims_end (T : Txt w K mg C_Claims C_Collector C_Store C_Uploads C_Registry C_Refused C_Malformed a_KINDS a_BELOW a_CLAIMED) : Met P w K mg base 1 C_Claims "end" (spCEnd C_Claims) := by
  refine met_mk T.cl_Claims T.m_Claims_end sc_Claims_end (fun vs H Q E h => ?_) (fun f cdv A outer s H vs Q E hr h => ?_)
  · obtain ⟨c, p, n, i, ks, L, rfl, _⟩ := h
    rfl
  · obtain ⟨c, p, n, i, ks, L, rfl, W, k⟩ := h
    obtain ⟨dx, d, B, h1, h2, h3, h4, h5, h6, h7⟩ := W.ex
    have hu := hu_of hr
    refine ⟨_, (pss_one (ps_if (pt_cmp (pc_din hu (pv 1) (pe_fld (pv 0) rfl))) (pss_one (ps_ddel (pe_fld (pv 0) rfl) (pv 1))) pss_nil)), ?_⟩
    walk_at "lw"
    refine g_rfld h2 T.cl_Claims T.na_Claims_pins f_Claims_pins ?_
    refine g_rdinI (.of h4) ?_
    rw [valV_mkD]
    by_cases hi : i ∈ ks
    · rw [if_pos hi]
      refine ⟨true, rfl, ?_⟩
      walk_at "lw"
      refine g_rfld h2 T.cl_Claims T.na_Claims_pins f_Claims_pins ?_
      walk_at "lw"
      refine g_rddelI h4 (by rw [valV_mkD, if_pos hi]; rfl) fun H2 d2 k2 => ?_
      rw [dropK_mkD] at d2
      walk_at "lw"
      have sub : ∀ j, j ∈ ks.filter (fun j => decide (j ≠ i)) → j ∈ ks := fun j hj => (List.mem_filter.mp hj).1
      refine k H2 ⟨dx, d, B, h1, by rw [k2 _ (ne_of h2 h4 (by intro z; cases z))]; exact h2, h3, d2, fun j hj => ?_, fun j hj l hl => h6 j (sub j hj) l (sub l hl), fun j hj => h7 j (sub j hj)⟩ (Stp.ch h4 h3 (fun xs z => by cases z) d2 k2)
      obtain ⟨a, b⟩ := h5 j (sub j hj)
      exact ⟨a, by rw [k2 _ (h7 j (sub j hj))]; exact b⟩
    · rw [if_neg hi]
      refine ⟨false, rfl, ?_⟩
      walk_at "lw"
      have e : ks.filter (fun j => decide (j ≠ i)) = ks := List.filter_eq_self.mpr fun j hj => decide_eq_true fun z => hi (by rw [← z]; exact hj)
      rw [e] at k
      exact k H W Stp.refl
theorem ok_Claims_numbers (T : Txt w K mg C_Claims C_Collector C_Store C_Uploads C_Registry C_Refused C_Malformed a_KINDS a_BELOW a_CLAIMED) : Met P w K mg base 1 C_Claims "numbers" (spCNumbers C_Claims) := by
  refine met_mk T.cl_Claims T.m_Claims_numbers sc_Claims_numbers (fun vs H Q E h => ?_) (fun f cdv A outer s H vs Q E hr h => ?_)
  · obtain ⟨c, p, n, ks, L, rfl, _⟩ := h
    rfl
  · obtain ⟨c, p, n, ks, L, rfl, W, hz, k⟩ := h
    obtain ⟨dx, d, B, h1, h2, h3, h4, h5, h6, h7⟩ := W.ex
    refine ⟨_, (pss_one (ps_ret (pe_callB (call_sortedDI rfl) (by rfl) T.n_sorted (by decide +kernel) (pa_cons (pe_fld (pv 0) rfl) pa_nil)))), ?_⟩
    walk_at "lw"
    refine g_rfld h2 T.cl_Claims T.na_Claims_pins f_Claims_pins ?_
    walk_at "lw"
    refine ⟨d, _, ks, rfl, .of h4, mkD_keys, hz, fun ys r hp hs hr => ?_⟩
    walk_at "lw"
    exact k r ys _ hp hs (Same.new hr) upd_same
/-- what is found behind the first i claims -/
def fnd (ks : List Int) (L : Int → List Str) (i : Nat) : List Str := (ks.take i).foldl (fun a k => addTo a (ded (L k))) []
theorem fnd_next {ks : List Int} {L : Int → List Str} {i : Nat} {x : Int} (h : ks[i]? = some x) : fnd ks L (i + 1) = addTo (fnd ks L i) (ded (L x)) := by
  unfold fnd
  rw [take_ok h, List.foldl_append]
  rfl
theorem fnd_nodup {ks : List Int} {L : Int → List Str} : ∀ {i : Nat}, (fnd ks L i).Nodup := by
  intro i
  unfold fnd
  generalize ks.take i = l
  have : ∀ (l : List Int) (a : List Str), a.Nodup → (l.foldl (fun a k => addTo a (ded (L k))) a).Nodup := by
    intro l
    induction l with
    | nil => intro a h; exact h
    | cons y r ih => intro a h; exact ih _ (addTo_nodup _ _ h)
  exact this l [] List.nodup_nil
theorem ded_mem {l : List Str} {x : Str} : x ∈ ded l ↔ x ∈ l := by
  unfold ded
  rw [addTo_mem]
  simp
theorem fnd_mem {ks : List Int} {L : Int → List Str} {x : Str} : x ∈ fnd ks L ks.length ↔ ∃ i ∈ ks, x ∈ L i := by
  unfold fnd
  rw [List.take_length]
  have : ∀ (l : List Int) (a : List Str), x ∈ l.foldl (fun a k => addTo a (ded (L k))) a ↔ x ∈ a ∨ ∃ i ∈ l, x ∈ L i := by
    intro l
    induction l with
    | nil => intro a; simp
    | cons y r ih =>
      intro a
      show x ∈ r.foldl _ (addTo a (ded (L y))) ↔ _
      rw [ih, addTo_mem, ded_mem, or_assoc]
      simp
  rw [this]
  simp
theorem fnd_in {ks : List Int} {L : Int → List Str} {D : List Str} (h : ∀ i ∈ ks, ∀ x ∈ L i, x ∈ D) : ∀ {i : Nat}, ∀ x ∈ fnd ks L i, x ∈ D := by
  intro i x
  unfold fnd
  have : ∀ (l : List Int) (a : List Str), (∀ i ∈ l, i ∈ ks) → (∀ y ∈ a, y ∈ D) → ∀ y ∈ l.foldl (fun a k => addTo a (ded (L k))) a, y ∈ D := by
    intro l
    induction l with
    | nil => intro a _ h; exact h
    | cons y r ih =>
      intro a hl ha
      refine ih _ (fun i hi => hl i (List.mem_cons_of_mem _ hi)) fun z hz => ?_
      rcases (addTo_mem _ _ _).mp hz with q | q
      · exact ha z q
      · exact h y (hl y List.mem_cons_self) z (ded_mem.mp q)
  exact this _ [] (fun i hi => List.mem_of_mem_take hi) (fun y hy => nomatch hy) x
theorem ok_Claims_pinned (T : Txt w K mg C_Claims C_Collector C_Store C_Uploads C_Registry C_Refused C_Malformed a_KINDS a_BELOW a_CLAIMED) : Met P w K mg base 1 C_Claims "pinned" (spCPinned C_Claims) := by
  refine met_mk T.cl_Claims T.m_Claims_pinned sc_Claims_pinned (fun vs H Q E h => ?_) (fun f cdv A outer s H vs Q E hr h => ?_)
  · obtain ⟨c, p, n, ks, L, D, rfl, _⟩ := h
    rfl
  · obtain ⟨c, p, n, ks, L, D, rfl, W, hD, hz, k⟩ := h
    obtain ⟨dx, d, B, h1, h2, h3, h4, h5, h6, h7⟩ := W.ex
    have hu := hu_of hr
    refine ⟨_, (pss_cons (ps_set (i := 1) sc_Claims_pinned.nd rfl (by first | exact Or.inl rfl | exact Or.inr rfl) (pe_dnewK))
      (pss_cons (ps_lock (ps_for PassesOwn.never rfl (pi_keys (pe_fld (pv 0) rfl)) (pg_name (i := 2) sc_Claims_pinned.nd rfl (by first | exact Or.inl rfl | exact Or.inr rfl)) (pss_one (ps_lock (ps_for PassesOwn.never rfl (pi_keys (pe_dget hu (pe_fld (pv 0) rfl) (pv 2) (fun _ _ => rfl))) (pg_name (i := 3) sc_Claims_pinned.nd rfl (by first | exact Or.inl rfl | exact Or.inr rfl)) (pss_one (ps_dput hu (pv 1) (pv 3) (pe_bl) rfl)))))))
      (pss_one (ps_ret (pe_callB (call_sortedD rfl) (by rfl) T.n_sorted (by decide +kernel) (pa_cons (pv 1) pa_nil)))))), ?_⟩
    walk_at "lw"
    refine g_dnew fun q H2 nq s2 hq => ?_
    walk_at "lw"
    have p2 := s2 _ _ h2
    have d2 := s2 _ _ h4
    have qd : q ≠ d := Ne.symm (ne_of_none h4 nq)
    have qp : q ≠ p := Ne.symm (ne_of_none h2 nq)
    refine g_lock d2 fun od H3 d3 k3 => ?_
    have p3 : H3 p = some (.ins C_Claims dx (f_Claims (.int n) (.ref d))) := by rw [k3 p (ne_of h2 h4 (by intro z; cases z))]; exact p2
    walk_at "lw"
    refine g_rfld p3 T.cl_Claims T.na_Claims_pins f_Claims_pins ?_
    refine g_ritK d3 ?_
    refine for_at walk_ks (fun i σ H' => H' d = some (.frz od (.dK (mkD ks fun i => .ref (B i)))) ∧ H' q = some (.dK (mkS (fnd ks L i) fun _ => .bl true)) ∧ (∀ b, b ≠ q → H' b = H3 b) ∧ ∃ v2 v3 : Option V, σ = [some (.ref p), some (.ref q), v2, v3]) ⟨d3, by rw [k3 q qd]; exact hq, fun b _ => rfl, none, none, rfl⟩ (fun i σ H' h => h.1) ?_ ?_
    · rintro i x σ H' hxi ⟨d4, q4, k4, v2, v3, rfl⟩
      rw [mkD_kV] at hxi
      obtain ⟨j, hj, rfl⟩ := map_at hxi
      have hjm := List.mem_of_getElem? hj
      obtain ⟨ca, ha⟩ := h5 j hjm
      have aq : B j ≠ q := ne_of_none ha nq
      have ad := h7 j hjm
      have a4 : H' (B j) = some (.dK (setD (L j))) := by rw [k4 _ aq, k3 _ ad]; exact s2 _ _ ha
      have p4 : H' p = some (.ins C_Claims dx (f_Claims (.int n) (.ref d))) := by rw [k4 p qp.symm]; exact p3
      walk_at "lw"
      refine g_lock a4 fun oa H5 a5 k5 => ?_
      walk_at "lw"
      refine g_rfld (a := p) (by rw [k5 p (ne_of p4 a4 (by intro z; cases z))]; exact p4) T.cl_Claims T.na_Claims_pins f_Claims_pins ?_
      walk_at "lw"
      refine g_rdgetI (a := d) (.inr ⟨od, by rw [k5 d ad.symm]; exact d4⟩) (by rw [valV_mkD, if_pos hjm]) ?_
      refine g_ritK a5 ?_
      refine for_at walk_ks (fun m σ H6 => H6 (B j) = some (.frz oa (.dK (setD (L j)))) ∧ H6 q = some (.dK (mkS (addTo (fnd ks L i) ((ded (L j)).take m)) fun _ => .bl true)) ∧ (∀ b, b ≠ q → H6 b = H5 b) ∧ ∃ v3 : Option V, σ = [some (.ref p), some (.ref q), some (.int j), v3]) ⟨a5, by rw [k5 q aq.symm]; exact q4, fun b _ => rfl, _, rfl⟩ (fun i σ H' h => h.1) ?_ ?_
      · rintro m x σ H6 hxm ⟨a6, q6, k6, v3, rfl⟩
        rw [show ((setD (L j)).map fun kv => kV kv.1) = (ded (L j)).map V.str from mkS_kV] at hxm
        obtain ⟨y, hy, rfl⟩ := map_at hxm
        walk_at "lw"
        refine g_rdputS q6 ?_ fun H7 q7 k7 => ?_
        · rw [mkS_len]
          have : (addTo (fnd ks L i) ((ded (L j)).take m)).length ≤ D.length := nodup_few (addTo_nodup _ _ fnd_nodup) fun z hz => by
            rcases (addTo_mem _ _ _).mp hz with e | e
            · exact fnd_in hD z e
            · exact hD j hjm z (ded_mem.mp (List.mem_of_mem_take e))
          omega
        · walk_at "lw"
          refine ⟨by rw [k7 _ aq]; exact a6, ?_, fun b hb => by rw [k7 b hb]; exact k6 b hb, _, rfl⟩
          rw [q7, take_ok hy, addTo_snoc]
          by_cases e : y ∈ addTo (fnd ks L i) ((ded (L j)).take m)
          · rw [if_pos e, putK_mkS_old e]
            congr 2
            exact mkS_congr fun z _ => by split <;> rfl
          · rw [if_neg e, putK_mkS_new e]
            congr 2
            exact mkS_congr fun z _ => by split <;> rfl
      · rintro σ H6 ⟨a6, q6, k6, v3, rfl⟩
        rw [show ((setD (L j)).map fun kv => kV kv.1).length = (ded (L j)).length by unfold setD; rw [mkS_kV, List.length_map], List.take_length, ← fnd_next hj] at q6
        refine ⟨a6, ?_⟩
        have fin : ∀ b, b ≠ q → (upd H6 (B j) (.dK (setD (L j)))) b = H3 b := fun b hb => by
          by_cases e : b = B j
          · subst e
            rw [upd_same, ← k4 _ hb, a4]
          · rw [upd_ne e, k6 b hb, k5 b e, k4 b hb]
        show _ ∧ _
        exact ⟨by rw [fin d qd.symm]; exact d3, by rw [upd_ne aq.symm]; exact q6, fin, _, _, rfl⟩
    · rintro σ H6 ⟨d6, q6, k6, v2, v3, rfl⟩
      rw [mkD_kV, List.length_map] at q6
      refine ⟨d6, ?_⟩
      have fin : ∀ b, b ≠ q → (upd H6 d (.dK (mkD ks fun i => .ref (B i)))) b = H2 b := fun b hb => by
        by_cases e : b = d
        · subst e
          rw [upd_same, d2]
        · rw [upd_ne e, k6 b hb, k3 b e]
      have q7 : (upd H6 d (.dK (mkD ks fun i => .ref (B i)))) q = some (.dK (mkS (fnd ks L ks.length) fun _ => .bl true)) := by rw [upd_ne qd]; exact q6
      generalize upd H6 d (.dK (mkD ks fun i => .ref (B i))) = H7 at fin q7
      walk_at "lw"
      have hl : (fnd ks L ks.length).length ≤ D.length := nodup_few fnd_nodup fun z hz => fnd_in hD z hz
      refine ⟨q, _, _, rfl, .of q7, mkS_keys, by omega, fun ys r hp hs hr => ?_⟩
      walk_at "lw"
      have sm : Same H H7 := fun b o e => by
        rw [fin b (ne_of_none e nq)]
        exact s2 _ _ e
      exact k r ys _ (hp.nodup_iff.mpr fnd_nodup) hs (fun x => by rw [hp.mem_iff, fnd_mem]) (sm.thenNew hr) upd_same
theorem ok_Uploads_begin (T : Txt w K mg C_Claims C_Collector C_Store C_Uploads C_Registry C_Refused C_Malformed a_KINDS a_BELOW a_CLAIMED) : Met P w K mg base 1 C_Uploads "begin" (spUBegin C_Uploads) := by
  refine met_mk T.cl_Uploads T.m_Uploads_begin sc_Uploads_begin (fun vs H Q E h => ?_) (fun f cdv A outer s H vs Q E hr h => ?_)
  · obtain ⟨c, p, n, ts, X, rfl, _⟩ := h
    rfl
  · obtain ⟨c, p, n, ts, X, rfl, W, hn, hz, k⟩ := h
    obtain ⟨dx, d, h1, h2, h3, h4⟩ := W.ex
    have hu := hu_of hr
    refine ⟨_, (pss_cons (ps_fldaug (pv 0) (pe_int) in_add)
      (pss_cons (ps_dput hu (pe_fld (pv 0) rfl) (pe_fld (pv 0) rfl) (pe_str) rfl)
      (pss_one (ps_ret (pe_fld (pv 0) rfl))))), ?_⟩
    walk_at "lw"
    refine g_rfldaugI h2 T.cl_Uploads T.na_Uploads_last f_Uploads_last f_Uploads_len (fun R r => by walk_at "lw"; exact r) fun H2 p2 k2 => ?_
    rw [f_Uploads_put_last] at p2
    have npd : d ≠ p := Ne.symm (ne_of h2 h4 (by intro z; cases z))
    have d2 : H2 d = some (.dK (mkD ts fun i => .str (SX.S (X i)))) := by rw [k2 d npd]; exact h4
    walk_at "lw"
    refine g_rfld p2 T.cl_Uploads T.na_Uploads_texts f_Uploads_texts ?_
    walk_at "lw"
    refine g_rfld p2 T.cl_Uploads T.na_Uploads_last f_Uploads_last ?_
    refine g_rdputI d2 (by rw [mkD_len]; omega) fun H4 d4 k4 => ?_
    rw [putK_mkD_new hn] at d4
    have p4 : H4 p = some (.ins C_Uploads dx (f_Uploads (.int (n + 1)) (.ref d))) := by rw [k4 p npd.symm]; exact p2
    walk_at "lw"
    refine g_rfld p4 T.cl_Uploads T.na_Uploads_last f_Uploads_last ?_
    walk_at "lw"
    have st1 : Stp (fun i => i = 3) c c H H2 := Stp.ch h2 h1 (fun xs z => by cases z) p2 k2
    have st3 : Stp (fun i => i = 3) c c H2 H4 := Stp.ch d2 h3 (fun xs z => by cases z) d4 k4
    refine k H4 ⟨dx, d, h1, p4, h3, ?_⟩ (st1.trans st3)
    rw [d4]
    congr 2
    refine mkD_congr fun j hj => ?_
    by_cases e : j = n + 1
    · simp only [if_pos e]
      rw [← show ("" : Str) = SX.S [] by decide +kernel]
    · simp only [if_neg e]
theorem ok_Uploads_finish (T : Txt w K mg C_Claims C_Collector C_Store C_Uploads C_Registry C_Refused C_Malformed a_KINDS a_BELOW a_CLAIMED) : Met P w K mg base 1 C_Uploads "finish" (spUFin C_Uploads) := by
  refine met_mk T.cl_Uploads T.m_Uploads_finish sc_Uploads_finish (fun vs H Q E h => ?_) (fun f cdv A outer s H vs Q E hr h => ?_)
  · obtain ⟨c, p, n, u, ts, X, rfl, _⟩ := h
    rfl
  · obtain ⟨c, p, n, u, ts, X, rfl, W, kn, ky⟩ := h
    obtain ⟨dx, d, h1, h2, h3, h4⟩ := W.ex
    have hu := hu_of hr
    refine ⟨_, (pss_cons (ps_if (pt_cmp (pc_dnotin hu (pv 1) (pe_fld (pv 0) rfl))) (pss_one (ps_ret (pe_non))) pss_nil)
      (pss_cons (ps_set (i := 2) sc_Uploads_finish.nd rfl (by first | exact Or.inl rfl | exact Or.inr rfl) (pe_dget hu (pe_fld (pv 0) rfl) (pv 1) (fun _ _ => rfl)))
      (pss_cons (ps_ddel (pe_fld (pv 0) rfl) (pv 1))
      (pss_one (ps_ret (pv 2)))))), ?_⟩
    walk_at "lw"
    refine g_rfld h2 T.cl_Uploads T.na_Uploads_texts f_Uploads_texts ?_
    refine g_rdnotinI (.of h4) ?_
    rw [valV_mkD]
    by_cases hi : u ∈ ts
    · rw [if_pos hi]
      refine ⟨false, rfl, ?_⟩
      walk_at "lw"
      refine g_rfld h2 T.cl_Uploads T.na_Uploads_texts f_Uploads_texts ?_
      walk_at "lw"
      refine g_rdgetI (.of h4) (by rw [valV_mkD, if_pos hi]) ?_
      walk_at "lw"
      refine g_rfld h2 T.cl_Uploads T.na_Uploads_texts f_Uploads_texts ?_
      walk_at "lw"
      refine g_rddelI h4 (by rw [valV_mkD, if_pos hi]; rfl) fun H2 d2 k2 => ?_
      rw [dropK_mkD] at d2
      walk_at "lw"
      exact ky hi H2 ⟨dx, d, h1, by rw [k2 _ (ne_of h2 h4 (by intro z; cases z))]; exact h2, h3, d2⟩ (Stp.ch h4 h3 (fun xs z => by cases z) d2 k2)
    · rw [if_neg hi]
      refine ⟨true, rfl, ?_⟩
      walk_at "lw"
      exact kn hi
theorem ok_Uploads_forget (T : Txt w K mg C_Claims C_Collector C_Store C_Uploads C_Registry C_Refused C_Malformed a_KINDS a_BELOW a_CLAIMED) : Met P w K mg base 1 C_Uploads "forget" (spUForget C_Uploads) := by
  refine met_mk T.cl_Uploads T.m_Uploads_forget sc_Uploads_forget (fun vs H Q E h => ?_) (fun f cdv A outer s H vs Q E hr h => ?_)
  · obtain ⟨c, p, n, ts, X, rfl, _⟩ := h
    rfl
  · obtain ⟨c, p, n, ts, X, rfl, W, k⟩ := h
    obtain ⟨dx, d, h1, h2, h3, h4⟩ := W.ex
    refine ⟨_, (pss_one (ps_fld (pv 0) (pe_dnewK) rfl)), ?_⟩
    walk_at "lw"
    refine g_dnew fun q H2 nq s2 hq => ?_
    walk_at "lw"
    have qp : q ≠ p := Ne.symm (ne_of_none h2 nq)
    refine g_rsfld (s2 _ _ h2) T.cl_Uploads T.na_Uploads_texts f_Uploads_len fun H3 p3 k3 => ?_
    rw [f_Uploads_put_texts] at p3
    walk_at "lw"
    have st2 : Stp (fun i => i = 3) c (Stp.paint c q 3) H H2 := L2x_sameN s2 nq
    have st3 : Stp (fun i => i = 3) (Stp.paint c q 3) (Stp.paint c q 3) H2 H3 := Stp.ch (s2 _ _ h2) (by rw [Stp.paint_ne qp.symm]; exact h1) (fun xs z => by cases z) p3 k3
    exact k (Stp.paint c q 3) H3 ⟨dx, q, by rw [Stp.paint_ne qp.symm]; exact h1, p3, Stp.paint_same, by rw [k3 q qp]; exact hq⟩ (st2.trans st3)
theorem ok_Uploads_add_part (T : Txt w K mg C_Claims C_Collector C_Store C_Uploads C_Registry C_Refused C_Malformed a_KINDS a_BELOW a_CLAIMED) : Met P w K mg base 1 C_Uploads "add_part" (spUAdd C_Uploads) := by
  refine met_mk T.cl_Uploads T.m_Uploads_add_part sc_Uploads_add_part (fun vs H Q E h => ?_) (fun f cdv A outer s H vs Q E hr h => ?_)
  · obtain ⟨c, p, n, u, a, t, ts, X, rfl, _⟩ := h
    rfl
  · obtain ⟨c, p, n, u, a, t, ts, X, rfl, W, hz, hl, kn, ke, ky⟩ := h
    obtain ⟨dx, d, h1, h2, h3, h4⟩ := W.ex
    have hu := hu_of hr
    refine ⟨_, (pss_cons (ps_if (pt_cmp (pc_dnotin hu (pv 1) (pe_fld (pv 0) rfl))) (pss_one (ps_ret (pe_non))) pss_nil)
      (pss_cons (ps_if (pt_cmpR op_eq (pv 2) (pe_callB call_len_str' (by rfl) T.n_len (by decide +kernel) (pa_cons (pe_dget hu (pe_fld (pv 0) rfl) (pv 1) (fun _ _ => rfl)) pa_nil)) (nomark _)) (pss_one (ps_dput hu (pe_fld (pv 0) rfl) (pv 1) (pe_op op_cat_str (pe_dget hu (pe_fld (pv 0) rfl) (pv 1) (fun _ _ => rfl)) (pv 3)) rfl)) pss_nil)
      (pss_one (ps_ret (pe_callB call_len_str' (by rfl) T.n_len (by decide +kernel) (pa_cons (pe_dget hu (pe_fld (pv 0) rfl) (pv 1) (fun _ _ => rfl)) pa_nil)))))), ?_⟩
    walk_at "lw"
    refine g_rfld h2 T.cl_Uploads T.na_Uploads_texts f_Uploads_texts ?_
    refine g_rdnotinI (.of h4) ?_
    rw [valV_mkD]
    by_cases hi : u ∈ ts
    · rw [if_pos hi]
      refine ⟨false, rfl, ?_⟩
      walk_at "lw"
      refine g_rfld h2 T.cl_Uploads T.na_Uploads_texts f_Uploads_texts ?_
      walk_at "lw"
      refine g_rdgetI (.of h4) (by rw [valV_mkD, if_pos hi]) ?_
      walk_at "lw"
      refine g_lenT (by rw [SX.S_len]; exact Nat.le_trans (show (X u).length ≤ 100000 by omega) (by decide)) ?_
      rw [SX.S_len]
      walk_at "lw"
      refine if2 (fun he => ?_) (fun he => ?_)
      · have he := int_eq.mp he
        walk_at "lw"
        refine g_rfld h2 T.cl_Uploads T.na_Uploads_texts f_Uploads_texts ?_
        walk_at "lw"
        refine g_rdgetI (.of h4) (by rw [valV_mkD, if_pos hi]) ?_
        walk_at "lw"
        refine g_cat_str (a := SX.S (X u)) (b := SX.S t) (by rw [SX.S_len, SX.S_len]; exact Nat.le_trans hl (by decide)) ?_
        rw [SX.S_cat]
        walk_at "lw"
        refine g_rfld h2 T.cl_Uploads T.na_Uploads_texts f_Uploads_texts ?_
        walk_at "lw"
        refine g_rdputI h4 (by rw [mkD_len]; omega) fun H2 d2 k2 => ?_
        rw [putK_mkD_old hi] at d2
        have p2 : H2 p = some (.ins C_Uploads dx (f_Uploads (.int n) (.ref d))) := by rw [k2 p (ne_of h2 h4 (by intro z; cases z))]; exact h2
        walk_at "lw"
        refine g_rfld p2 T.cl_Uploads T.na_Uploads_texts f_Uploads_texts ?_
        walk_at "lw"
        refine g_rdgetI (.of d2) (by rw [valV_mkD, if_pos hi, if_pos rfl]) ?_
        walk_at "lw"
        refine g_lenT (by rw [SX.S_len, List.length_append]; exact Nat.le_trans hl (by decide)) ?_
        rw [SX.S_len]
        walk_at "lw"
        refine ky hi he H2 ⟨dx, d, h1, p2, h3, ?_⟩ (Stp.ch h4 h3 (fun xs z => by cases z) d2 k2)
        rw [d2]
        congr 2
        refine mkD_congr fun j hj => ?_
        by_cases e : j = u
        · simp only [if_pos e]
        · simp only [if_neg e]
      · have he : a ≠ (X u).length := fun z => he (by rw [z])
        walk_at "lw"
        refine g_rfld h2 T.cl_Uploads T.na_Uploads_texts f_Uploads_texts ?_
        walk_at "lw"
        refine g_rdgetI (.of h4) (by rw [valV_mkD, if_pos hi]) ?_
        walk_at "lw"
        refine g_lenT (by rw [SX.S_len]; exact Nat.le_trans (show (X u).length ≤ 100000 by omega) (by decide)) ?_
        rw [SX.S_len]
        walk_at "lw"
        exact ke hi he
    · rw [if_neg hi]
      refine ⟨true, rfl, ?_⟩
      walk_at "lw"
      exact kn hi
end
end Lw

local macro_rules | `(tactic| walk_at "lw side") => `(tactic| first | assumption | decide | omega | exact Or.inr ⟨by decide, by decide⟩ | exact Or.inl ⟨by decide, by decide⟩ | exact ⟨by decide, by decide⟩ | exact ⟨by omega, by omega⟩)
local macro_rules | `(tactic| walk_at "lw ne") => `(tactic| first | assumption | exact Ne.symm (by assumption) | exact L2.ne_of_none (by assumption) (by assumption) | exact Ne.symm (L2.ne_of_none (by assumption) (by assumption)))
local macro_rules | `(tactic| walk_at "lw hp") => `(tactic| first | assumption | exact L2.upd_same | (refine Eq.trans (L2.upd_ne (by walk_at "lw ne")) ?_; walk_at "lw hp"))
local macro_rules | `(tactic| walk_at "lw sq") => `(tactic| first | assumption | exact L2.SqL.of (by walk_at "lw hp") | exact L2.SqT.of (by walk_at "lw hp"))
local macro_rules | `(tactic| walk_at "lw go") => `(tactic| first
  | (with_reducible refine Lw.g_seq ?_)
  | ((with_reducible refine' Lw.g_var ?h1 ?k1); (case h1 => rfl))
  | (with_reducible refine Lw.g_c ?_)
  | (with_reducible refine Lw.g_op ?_)
  | (with_reducible refine Lw.g_I0 ?_)
  | ((with_reducible refine' Lw.g_I ?h1 ?k1); (case h1 => walk_at "lw side"))
  | ((with_reducible refine' Lw.g_eq ?h1 ?k1); (case h1 => rfl))
  | ((with_reducible refine' Lw.g_ne ?h1 ?k1); (case h1 => rfl))
  | (with_reducible refine Lw.g_nil ?_)
  | (with_reducible refine Lw.g_cons ?_)
  | (with_reducible refine Lw.g_cb ?_)
  | (with_reducible refine Lw.g_call ?_)
  | (with_reducible refine Lw.g_test ?_)
  | (with_reducible refine Lw.g_B ?_)
  | (with_reducible refine Lw.g_exb ?_)
  | (with_reducible refine Lw.g_not ?_)
  | (with_reducible refine Lw.g_and ?_)
  | (with_reducible refine Lw.g_or ?_)
  | (with_reducible refine Lw.g_tup ?_)
  | (with_reducible refine Lw.g_lst ?_)
  | (with_reducible refine Lw.g_ifx ?_)
  | (with_reducible refine Lw.g_fld ?_)
  | (with_reducible refine Lw.g_asg ?_)
  | (with_reducible refine Lw.g_name ?_)
  | (with_reducible refine Lw.g_ret ?_)
  | (with_reducible refine Lw.g_drop ?_)
  | (with_reducible refine Lw.g_next ?_)
  | (with_reducible refine Lw.g_ifs ?_)
  | (with_reducible refine Lw.g_pnx ?_)
  | (with_reducible refine Lw.g_prt ?_)
  | (with_reducible refine Lw.g_pbk ?_)
  | (with_reducible refine Lw.g_pct ?_)
  | (with_reducible refine Lw.g_sl ?_)
  | (with_reducible refine Lw.g_nopart ?_)
  | (with_reducible refine Lw.g_part ?_)
  | (with_reducible refine Lw.g_rpart ?_)
  | (with_reducible refine Lw.g_m1 ?_)
  | (with_reducible refine Lw.g_m0 ?_)
  | (with_reducible refine Lw.g_rstr ?_)
  | (with_reducible refine Lw.g_bm0 ?_)
  | (with_reducible refine Lw.g_bm ?_)
  | (with_reducible refine Lw.g_isN ?_)
  | (with_reducible refine Lw.g_isB ?_)
  | (with_reducible refine Lw.g_notB ?_)
  | (with_reducible refine Lw.g_andV ?_)
  | (with_reducible refine Lw.g_orV ?_)
  | (with_reducible refine Lw.g_notV ?_)
  | (with_reducible refine Lw.g_notN ?_)
  | (with_reducible refine L2.iteT ?_)
  | (with_reducible refine L2.iteF ?_)
  | (with_reducible refine Lw.g_int1 ?_)
  | (with_reducible refine Lw.g_int1b ?_)
  | (with_reducible refine Lw.g_sub ?_)
  | (with_reducible refine Lw.g_forR ?_)
  | (with_reducible refine Lw.g_for ?_)
  | (with_reducible refine Lw.g_lc ?_)
  | (with_reducible refine Lw.g_iStr ?_)
  | (with_reducible refine Lw.g_ritS ?_)
  | (with_reducible refine Lw.g_tyS ?_)
  | (with_reducible refine Lw.g_iList ?_)
  | (with_reducible refine Lw.g_iTup ?_)
  | (with_reducible refine Lw.g_iRng ?_)
  | (with_reducible refine Lw.g_inSg ?_)
  | (with_reducible refine Lw.g_notInSg ?_)
  | (with_reducible refine Lw.g_ord ?_)
  | (with_reducible refine Lw.g_reprB ?_)
  | (with_reducible refine Lw.g_sfld ?_)
  | (with_reducible refine Lw.g_meth ?_)
  | (with_reducible refine Lw.g_make ?_)
  | (with_reducible refine Lw.g_dget ?_)
  | (with_reducible refine Lw.g_din ?_)
  | (with_reducible refine Lw.g_dnotin ?_)
  | (with_reducible refine Lw.g_dput ?_)
  | (with_reducible refine Lw.g_ddel ?_)
  | (with_reducible refine Lw.g_dpop1 ?_)
  | (with_reducible refine Lw.g_dget1 ?_)
  | (with_reducible refine Lw.g_iKeys ?_)
  | (with_reducible refine Lw.g_fldaug ?_)
  | ((with_reducible refine' Lw.g_lenL ?h1 ?k1); (case h1 => walk_at "lw sq"))
  | ((with_reducible refine' Lw.g_lenD ?h1 ?k1); (case h1 => walk_at "lw hp")))
local macro_rules | `(tactic| walk_at "lw") => `(tactic| repeat walk_at "lw go")
local macro_rules | `(tactic| walk_at "lw hp") => `(tactic| first | assumption | exact L2.upd_same | exact L2.Same.at (by assumption) (by walk_at "lw hp") | (refine Eq.trans (L2.upd_ne (by walk_at "lw ne")) ?_; walk_at "lw hp"))
local macro_rules | `(tactic| walk_at "lw go") => `(tactic| first
  | ((with_reducible refine Lw.g_kinT (b := true) (by decide) rfl rfl (by decide +kernel) ?_); intro _ _)
  | ((with_reducible refine Lw.g_kinT (b := false) (by decide) rfl rfl (by decide +kernel) ?_); intro _ _)
  | ((with_reducible refine Lw.g_kninT (b := true) (by decide) rfl rfl (by decide +kernel) ?_); intro _ _)
  | ((with_reducible refine Lw.g_kninT (b := false) (by decide) rfl rfl (by decide +kernel) ?_); intro _ _)
  | ((with_reducible refine Lw.g_kinL (b := true) (by decide) rfl rfl (by decide +kernel) ?_); intro _ _)
  | ((with_reducible refine Lw.g_kinL (b := false) (by decide) rfl rfl (by decide +kernel) ?_); intro _ _)
  | ((with_reducible refine Lw.g_kninL (b := true) (by decide) rfl rfl (by decide +kernel) ?_); intro _ _)
  | ((with_reducible refine Lw.g_kninL (b := false) (by decide) rfl rfl (by decide +kernel) ?_); intro _ _)
  | (with_reducible refine Lw.g_pairs1 ?_)
  | (with_reducible refine Lw.g_pairs0 ?_)
  | (with_reducible refine Lw.g_gcons ?_)
  | (with_reducible refine Lw.g_gnil ?_)
  | (with_reducible refine Lw.ifT (by decide +kernel) ?_)
  | (with_reducible refine Lw.ifF (by decide +kernel) ?_))
local macro_rules | `(tactic| walk_at "lw same") => `(tactic| first | assumption | exact L2.Same.refl _ | (refine L2.Same.trans ?_ (by assumption); walk_at "lw same"))
local macro_rules | `(tactic| walk_at "lw go") => `(tactic| first
  | ((with_reducible refine' Lw.g_rfld (f := "last") ?h1 ?h2 ?h3 Lw.f_Claims_last ?k1); (case h1 => walk_at "lw hp"); (case h2 => exact Lw.Txt.cl_Claims (by assumption)); (case h3 => exact Lw.Txt.na_Claims_last (by assumption)))
  | ((with_reducible refine' Lw.g_rfld (f := "pins") ?h1 ?h2 ?h3 Lw.f_Claims_pins ?k1); (case h1 => walk_at "lw hp"); (case h2 => exact Lw.Txt.cl_Claims (by assumption)); (case h3 => exact Lw.Txt.na_Claims_pins (by assumption)))
  | ((with_reducible refine' Lw.g_rmeth ?h1 (Lw.f_Claims_no (by decide +kernel)) ?k1); (case h1 => walk_at "lw hp")))
local macro_rules | `(tactic| walk_at "lw go") => `(tactic| first
  | ((with_reducible refine' Lw.g_rfld (f := "store") ?h1 ?h2 ?h3 Lw.f_Collector_store ?k1); (case h1 => walk_at "lw hp"); (case h2 => exact Lw.Txt.cl_Collector (by assumption)); (case h3 => exact Lw.Txt.na_Collector_store (by assumption)))
  | ((with_reducible refine' Lw.g_rfld (f := "phase") ?h1 ?h2 ?h3 Lw.f_Collector_phase ?k1); (case h1 => walk_at "lw hp"); (case h2 => exact Lw.Txt.cl_Collector (by assumption)); (case h3 => exact Lw.Txt.na_Collector_phase (by assumption)))
  | ((with_reducible refine' Lw.g_rfld (f := "marked") ?h1 ?h2 ?h3 Lw.f_Collector_marked ?k1); (case h1 => walk_at "lw hp"); (case h2 => exact Lw.Txt.cl_Collector (by assumption)); (case h3 => exact Lw.Txt.na_Collector_marked (by assumption)))
  | ((with_reducible refine' Lw.g_rfld (f := "todo") ?h1 ?h2 ?h3 Lw.f_Collector_todo ?k1); (case h1 => walk_at "lw hp"); (case h2 => exact Lw.Txt.cl_Collector (by assumption)); (case h3 => exact Lw.Txt.na_Collector_todo (by assumption)))
  | ((with_reducible refine' Lw.g_rfld (f := "doomed") ?h1 ?h2 ?h3 Lw.f_Collector_doomed ?k1); (case h1 => walk_at "lw hp"); (case h2 => exact Lw.Txt.cl_Collector (by assumption)); (case h3 => exact Lw.Txt.na_Collector_doomed (by assumption)))
  | ((with_reducible refine' Lw.g_rmeth ?h1 (Lw.f_Collector_no (by decide +kernel)) ?k1); (case h1 => walk_at "lw hp")))
local macro_rules | `(tactic| walk_at "lw go") => `(tactic| first
  | ((with_reducible refine' Lw.g_rfld (f := "blobs") ?h1 ?h2 ?h3 Lw.f_Store_blobs ?k1); (case h1 => walk_at "lw hp"); (case h2 => exact Lw.Txt.cl_Store (by assumption)); (case h3 => exact Lw.Txt.na_Store_blobs (by assumption)))
  | ((with_reducible refine' Lw.g_rmeth ?h1 (Lw.f_Store_no (by decide +kernel)) ?k1); (case h1 => walk_at "lw hp")))
local macro_rules | `(tactic| walk_at "lw go") => `(tactic| first
  | ((with_reducible refine' Lw.g_rfld (f := "last") ?h1 ?h2 ?h3 Lw.f_Uploads_last ?k1); (case h1 => walk_at "lw hp"); (case h2 => exact Lw.Txt.cl_Uploads (by assumption)); (case h3 => exact Lw.Txt.na_Uploads_last (by assumption)))
  | ((with_reducible refine' Lw.g_rfld (f := "texts") ?h1 ?h2 ?h3 Lw.f_Uploads_texts ?k1); (case h1 => walk_at "lw hp"); (case h2 => exact Lw.Txt.cl_Uploads (by assumption)); (case h3 => exact Lw.Txt.na_Uploads_texts (by assumption)))
  | ((with_reducible refine' Lw.g_rmeth ?h1 (Lw.f_Uploads_no (by decide +kernel)) ?k1); (case h1 => walk_at "lw hp")))
local macro_rules | `(tactic| walk_at "lw go") => `(tactic| first
  | ((with_reducible refine' Lw.g_rfld (f := "store") ?h1 ?h2 ?h3 Lw.f_Registry_store ?k1); (case h1 => walk_at "lw hp"); (case h2 => exact Lw.Txt.cl_Registry (by assumption)); (case h3 => exact Lw.Txt.na_Registry_store (by assumption)))
  | ((with_reducible refine' Lw.g_rfld (f := "names") ?h1 ?h2 ?h3 Lw.f_Registry_names ?k1); (case h1 => walk_at "lw hp"); (case h2 => exact Lw.Txt.cl_Registry (by assumption)); (case h3 => exact Lw.Txt.na_Registry_names (by assumption)))
  | ((with_reducible refine' Lw.g_rfld (f := "claims") ?h1 ?h2 ?h3 Lw.f_Registry_claims ?k1); (case h1 => walk_at "lw hp"); (case h2 => exact Lw.Txt.cl_Registry (by assumption)); (case h3 => exact Lw.Txt.na_Registry_claims (by assumption)))
  | ((with_reducible refine' Lw.g_rfld (f := "uploads") ?h1 ?h2 ?h3 Lw.f_Registry_uploads ?k1); (case h1 => walk_at "lw hp"); (case h2 => exact Lw.Txt.cl_Registry (by assumption)); (case h3 => exact Lw.Txt.na_Registry_uploads (by assumption)))
  | ((with_reducible refine' Lw.g_rfld (f := "collector") ?h1 ?h2 ?h3 Lw.f_Registry_collector ?k1); (case h1 => walk_at "lw hp"); (case h2 => exact Lw.Txt.cl_Registry (by assumption)); (case h3 => exact Lw.Txt.na_Registry_collector (by assumption)))
  | ((with_reducible refine' Lw.g_rmeth ?h1 (Lw.f_Registry_no (by decide +kernel)) ?k1); (case h1 => walk_at "lw hp")))
local macro_rules | `(tactic| walk_at "lw go") => `(tactic| first
  | (with_reducible refine Lw.g_callS ?_)
  | (with_reducible refine Lw.g_raise ?_)
  | (with_reducible refine Lw.g_tryAs ?_)
  | (with_reducible refine Lw.g_xf ?_))
/-! ## the law's draws: any number below the bound may come -/
namespace Lw
open PySem L2
open PyProof.Rows (envOfC)
theorem at_in {α : Type} {xs : List α} {i : Int} (h0 : 0 ≤ i) (h1 : i < xs.length) : ∃ v, xs[i.toNat]? = some v ∧ atI xs i = some v := by
  have hl : i.toNat < xs.length := by omega
  refine ⟨xs[i.toNat], List.getElem?_eq_getElem hl, ?_⟩
  have := atI_nat (xs := xs) (j := i.toNat) (v := xs[i.toNat]) (List.getElem?_eq_getElem hl)
  rw [show ((i.toNat : Nat) : Int) = i by omega] at this
  exact this
theorem ix_in {n : Nat} {i : Int} (h0 : 0 ≤ i) (h1 : i < n) : ixN n i = some i.toNat := by
  unfold ixN
  rw [if_pos h0, if_pos h1]
theorem map_int_set (l : List Int) (j : Nat) (z : Int) : (l.map V.int).set j (.int z) = (l.set j z).map V.int := by rw [List.map_set]
/-- the state of the draws at S: its place, its cells at C -/
structure StateAt (c : Addr → Nat) (H : Hp) (S : Addr) : Prop where
  ex : ∃ (C : Addr) (pos : Int) (cells : List Int), c S = 0 ∧ c C = 0 ∧ S ≠ C ∧ H S = some (.lst [.int pos, .ref C]) ∧ H C = some (.lst (cells.map V.int)) ∧ cells ≠ [] ∧ (∀ x ∈ cells, 0 ≤ x) ∧ 0 ≤ pos
theorem StateAt.frame {I : Nat → Prop} {c c' : Addr → Nat} {H H' : Hp} {S : Addr} (h : StateAt c H S) (s : Stp I c c' H H') (hi : ¬ I 0 := by decide) : StateAt c' H' S := by
  obtain ⟨C, pos, cells, h1, h2, h3, h4, h5, h6⟩ := h.ex
  exact ⟨C, pos, cells, by rw [s.col _ _ h4, h1], by rw [s.col _ _ h5, h2], h3, s.keep _ _ h4 (by rw [h1]; exact hi), s.keep _ _ h5 (by rw [h2]; exact hi), h6⟩
def spState (K : PySem.W.Frag) : Sp := fun vs H Q _ => ∃ (a : Addr) (ns : List Int) (c : Addr → Nat), vs = [.ref a] ∧ SqL K H a (ns.map V.int) ∧ ns.length ≤ 63 ∧
  ∀ S c' H', StateAt c' H' S → Stp (fun _ => False) c c' H H' → Q (.ref S) H'
def spTake : Sp := fun vs H Q _ => ∃ (c : Addr → Nat) (S : Addr) (m : Int), vs = [.ref S, .int m] ∧ StateAt c H S ∧ 0 < m ∧ m < 1073741824 ∧
  ∀ (r : Int) c' H', 0 ≤ r → r < m → StateAt c' H' S → Stp (fun i => i = 0) c c' H H' → Q (.int r) H'
section
variable {P : Program} {w : World} {K : PySem.W.Frag} {mg : Str → Option Value} {base : Heap} {C_Claims C_Collector C_Store C_Uploads C_Registry C_Refused C_Malformed a_KINDS a_BELOW a_CLAIMED : Addr}
theorem ok__law_state (T : Txt w K mg C_Claims C_Collector C_Store C_Uploads C_Registry C_Refused C_Malformed a_KINDS a_BELOW a_CLAIMED) : Cal P w K mg base 1 "_law_state" (spState K) := by
  refine cal_mk T.d__law_state sc__law_state (fun vs H Q E h => ?_) (fun f cdv A outer s H vs Q E hr h => ?_)
  · obtain ⟨a, ns, c, rfl, _⟩ := h
    rfl
  · obtain ⟨a, ns, c, rfl, hS, hlen, k⟩ := h
    refine ⟨_, (pss_cons (ps_setLc (i := 1) (own := [("_law_cell", 2)]) (g := (gName 2)) (by rfl) sc__law_state.nd rfl rfl (sw_true rfl rfl rfl (by decide +kernel)) (pi_list (pe_slice sl_list (pv 0) po_none (po_some (pe_int)))) (blkOk_by (own := [("_law_cell", 2)]) (N := n__law_state) (sc := defScope s__law_state) (by decide +kernel)) (fun _ _ _ _ _ => (pg_name (i := 2) sc__law_state.nd rfl (by first | exact Or.inl rfl | exact Or.inr rfl))) (fun _ _ _ _ _ => pts_nil) (fun _ _ _ _ _ => (pe_callB call_abs (by rfl) T.n_abs (by decide +kernel) (pa_cons (pv 2) pa_nil))))
      (pss_cons (ps_if (pt_cmpR op_eq (pe_callB call_len_seq' (by rfl) T.n_len (by decide +kernel) (pa_cons (pv 1) pa_nil)) (pe_int) (nomark _)) (pss_one (ps_set (i := 1) sc__law_state.nd rfl (by first | exact Or.inl rfl | exact Or.inr rfl) (pe_lst (pa_cons (pe_int) pa_nil)))) pss_nil)
      (pss_one (ps_ret (pe_lst (pa_cons (pe_int) (pa_cons (pv 1) pa_nil))))))), ?_⟩
    refine ⟨_, rfl, 63, rfl, a, _, rfl, hS, fun p np => ?_⟩
    have e63 : (cutV (ns.map V.int) none (some 63)) = ns.map V.int := by
      unfold cutV
      rw [HT.sIx_none, show ((63 : Int)) = ((63 : Nat) : Int) from rfl, HT.sIx_nat, List.drop_zero, List.take_of_length_le (by rw [List.length_map]; omega)]
    rw [e63]
    refine ⟨p, rfl, ⟨_, SqL.of upd_same⟩, fun D hD => ?_⟩
    have hDp : D ≠ p := fun z => by subst z; rw [upd_same] at hD; cases hD
    have hD0 : H D = none := by rw [upd_ne hDp] at hD; exact hD
    refine lc_list (K := K) (a := p) (xs := ns.map V.int) (fun i H2 => ∃ l : List Int, l.length = i ∧ (∀ x ∈ l, 0 ≤ x) ∧ Same H H2 ∧ H2 p = some (.lst (ns.map V.int)) ∧ H2 D = some (.lst (l.map V.int)))
      ⟨[], rfl, by simp, (Same.new np).thenNew hD, by rw [upd_ne (Ne.symm hDp)]; exact upd_same, upd_same⟩
      (fun i H2 hi h => by obtain ⟨l, _, _, _, h2, _⟩ := h; exact SqL.of h2) (fun i x H2 hx h => ?_) (fun H2 h => ?_)
    · obtain ⟨l, h1, h2, h3, h4, h5⟩ := h
      obtain ⟨z, hz, rfl⟩ : ∃ z, ns[i]? = some z ∧ V.int z = x := by
        rw [List.getElem?_map] at hx
        cases e : ns[i]? with
        | none => rw [e] at hx; cases hx
        | some z => rw [e] at hx; exact ⟨z, rfl, Option.some.inj hx⟩
      refine ⟨rfl, ?_⟩
      refine ⟨_, rfl, z, rfl, l.map V.int, h5, ?_, l ++ [if z < 0 then -z else z], by simp [h1], ?_, h3.grow hD0, by rw [upd_ne (Ne.symm hDp)]; exact h4, by rw [upd_same]; simp⟩
      · have hi := (List.getElem?_eq_some_iff.mp hz).1
        rw [List.length_map, h1]
        exact small1000 (by omega)
      · intro x hx
        rcases List.mem_append.mp hx with q | q
        · exact h2 x q
        · rw [List.mem_singleton.mp q]
          split <;> omega
    · obtain ⟨l, h1, h2, h3, h4, h5⟩ := h
      rw [List.length_map] at h1
      refine ⟨_, rfl, D, l.map V.int, rfl, Or.inl (SqL.of h5), ?_⟩
      refine ⟨rfl, _, rfl, ?_⟩
      refine if2 (fun hz => ?_) (fun hz => ?_)
      · refine ⟨(by show 1 ≤ sizeLine; decide), fun q nq => ?_⟩
        refine ⟨_, rfl, (by show 2 ≤ sizeLine; decide), fun S nS => ?_⟩
        have hqS : q ≠ S := fun z => by subst z; rw [upd_same] at nS; cases nS
        refine k S (Stp.paint (Stp.paint c q 0) S 0) _ ⟨q, 0, [0], Stp.paint_same, by rw [Stp.paint_ne hqS]; exact Stp.paint_same, Ne.symm hqS, upd_same, by rw [upd_ne hqS]; exact upd_same, by simp, by simp, by decide⟩ ?_
        exact ((Stp.same h3).trans (Stp.newc nq)).trans (Stp.newc nS)
      · refine ⟨_, rfl, (by show 2 ≤ sizeLine; decide), fun S nS => ?_⟩
        have hDS : D ≠ S := ne_of_none h5 nS
        refine k S (Stp.paint (Stp.paint c D 0) S 0) _ ⟨D, 0, l, Stp.paint_same, by rw [Stp.paint_ne hDS]; exact Stp.paint_same, Ne.symm hDS, upd_same, by rw [upd_ne hDS]; exact h5, fun e => hz (by rw [int_eq, e]; rfl), h2, by decide⟩ ?_
        have s1 : Stp (fun _ => False) c (Stp.paint c D 0) H H2 := ⟨fun b o e _ => h3 b o e, fun b o e => Stp.paint_ne (ne_of_none e hD0), fun b xs e => h3 b _ e, fun b e => h3.free e⟩
        exact s1.trans (Stp.newc nS)
theorem ok__law_take (T : Txt w K mg C_Claims C_Collector C_Store C_Uploads C_Registry C_Refused C_Malformed a_KINDS a_BELOW a_CLAIMED) : Cal P w K mg base 1 "_law_take" spTake := by
  refine cal_mk T.d__law_take sc__law_take (fun vs H Q E h => ?_) (fun f cdv A outer s H vs Q E hr h => ?_)
  · obtain ⟨c, S, m, rfl, _⟩ := h
    rfl
  · obtain ⟨c, S, m, rfl, hS, hm0, hm1, k⟩ := h
    obtain ⟨C, pos, cells, c1, c2, ne, h1, h2, h3, h4, h5⟩ := hS.ex
    have hcl : 0 < cells.length := List.length_pos_iff.mpr h3
    refine ⟨_, (pss_cons (ps_set (i := 2) sc__law_take.nd rfl (by first | exact Or.inl rfl | exact Or.inr rfl) (pe_ix ix_list (pv 0) (pe_int) (fun _ _ => rfl)))
      (pss_cons (ps_set (i := 3) sc__law_take.nd rfl (by first | exact Or.inl rfl | exact Or.inr rfl) (pe_op op_mod (pe_ix ix_list (pv 0) (pe_int) (fun _ _ => rfl)) (pe_callB call_len_seq' (by rfl) T.n_len (by decide +kernel) (pa_cons (pv 2) pa_nil))))
      (pss_cons (ps_set (i := 4) sc__law_take.nd rfl (by first | exact Or.inl rfl | exact Or.inr rfl) (pe_ix ix_list (pv 2) (pv 3) (fun _ _ => rfl)))
      (pss_cons (ps_if (pt_cmpR op_ge (pv 4) (pe_int) (nomark _)) (pss_cons (ps_asg (pe_op op_fdiv (pv 4) (pv 1)) (pg_sub (pv 2) (pv 3) set_list))
      (pss_one (ps_ret (pe_op op_mod (pv 4) (pv 1))))) pss_nil)
      (pss_cons (ps_asg (pe_op op_add (pe_ix ix_list (pv 0) (pe_int) (fun _ _ => rfl)) (pe_int)) (pg_sub (pv 0) (pe_int) set_list))
      (pss_cons (ps_set (i := 5) sc__law_take.nd rfl (by first | exact Or.inl rfl | exact Or.inr rfl) (pe_op op_mod (pe_callTy call_int1' (by rfl) T.n_int (by decide +kernel) (pa_cons (pe_op op_add (pe_op op_mul (pv 4) (pe_int)) (pe_op op_mul (pe_ix ix_list (pv 0) (pe_int) (fun _ _ => rfl)) (pe_int))) pa_nil)) (pe_int)))
      (pss_cons (ps_set (i := 5) sc__law_take.nd rfl (by first | exact Or.inl rfl | exact Or.inr rfl) (pe_op op_mod (pe_callTy call_int1' (by rfl) T.n_int (by decide +kernel) (pa_cons (pe_op op_add (pe_op op_mul (pv 5) (pe_int)) (pe_op op_mul (pe_ix ix_list (pv 0) (pe_int) (fun _ _ => rfl)) (pe_int))) pa_nil)) (pe_int)))
      (pss_one (ps_ret (pe_op op_mod (pe_op op_fdiv (pv 5) (pe_int)) (pv 1))))))))))), ?_⟩
    refine ⟨_, rfl, S, _, 1, .ref C, rfl, rfl, SqL.of h1, atI_nat (j := 1) rfl, ?_⟩
    refine ⟨_, rfl, S, _, 0, .int pos, rfl, rfl, SqL.of h1, atI_nat (j := 0) rfl, ?_⟩
    have hpl : 0 ≤ pos % (cells.length : Int) ∧ pos % (cells.length : Int) < (cells.length : Int) := ⟨Int.emod_nonneg _ (by omega), Int.emod_lt_of_pos _ (by omega)⟩
    refine ⟨_, rfl, C, _, rfl, Or.inl (SqL.of h2), _, _, rfl, rfl, by show (0 : Int) < ((cells.map V.int).length : Int); rw [List.length_map]; omega, ?_⟩
    rw [List.length_map]
    obtain ⟨v, hv, hat⟩ := at_in (xs := cells.map V.int) (i := pos % (cells.length : Int)) hpl.1 (by rw [List.length_map]; exact hpl.2)
    obtain ⟨x, hx, rfl⟩ : ∃ x, x ∈ cells ∧ V.int x = v := by
      rw [List.getElem?_map] at hv
      cases e : cells[(pos % (cells.length : Int)).toNat]? with
      | none => rw [e] at hv; cases hv
      | some x => rw [e] at hv; exact ⟨x, List.mem_of_getElem? e, Option.some.inj hv⟩
    have hx0 := h4 x hx
    refine ⟨_, rfl, _, rfl, C, _, _, _, rfl, rfl, SqL.of h2, hat, ?_⟩
    refine ⟨_, rfl, _, _, rfl, rfl, _, rfl, ?_⟩
    refine if2 (fun hz => ?_) (fun hz => ?_)
    · refine ⟨_, rfl, _, rfl, _, _, rfl, rfl, ⟨hm0, hm1⟩, ?_⟩
      refine ⟨_, rfl, _, rfl, C, _, _, _, rfl, rfl, h2, by rw [List.length_map]; exact ix_in hpl.1 hpl.2, ?_⟩
      refine ⟨_, rfl, _, rfl, _, _, rfl, rfl, hm0, ?_⟩
      refine k _ c _ (Int.emod_nonneg _ (by omega)) (Int.emod_lt_of_pos _ hm0) ⟨C, pos, cells.set (pos % (cells.length : Int)).toNat (x / m), c1, c2, ne, by rw [upd_ne ne]; exact h1, by rw [upd_same, map_int_set], ?_, ?_, h5⟩ ?_
      · intro e
        have := congrArg List.length e
        rw [List.length_set, List.length_nil] at this
        omega
      · intro y hy
        rcases List.mem_or_eq_of_mem_set hy with q | q
        · exact h4 y q
        · rw [q]; exact Int.ediv_nonneg hx0 (by omega)
      · exact Stp.own h2 c2 (fun xs z => by cases z)
    · refine ⟨_, rfl, S, _, 0, .int pos, rfl, rfl, SqL.of h1, atI_nat (j := 0) rfl, _, _, rfl, rfl, ?_⟩
      refine ⟨_, rfl, S, _, _, 0, rfl, rfl, h1, rfl, ?_⟩
      have h1' : (upd H S (.lst [.int (pos + 1), .ref C])) S = some (.lst [.int (pos + 1), .ref C]) := upd_same
      refine ⟨_, rfl, _, _, rfl, rfl, .inr ⟨by decide, by decide⟩, ?_⟩
      refine ⟨_, rfl, S, _, 0, .int (pos + 1), rfl, rfl, SqL.of h1', atI_nat (j := 0) rfl, _, _, rfl, rfl, .inr ⟨by decide, by decide⟩, _, _, rfl, rfl, ?_⟩
      refine Or.inl ⟨_, rfl, _, _, rfl, rfl, (by show (0 : Int) < 2147483647; decide), ?_⟩
      refine ⟨_, rfl, _, _, rfl, rfl, .inr ⟨by decide, by decide⟩, ?_⟩
      refine ⟨_, rfl, S, _, 0, .int (pos + 1), rfl, rfl, SqL.of h1', atI_nat (j := 0) rfl, _, _, rfl, rfl, .inr ⟨by decide, by decide⟩, _, _, rfl, rfl, ?_⟩
      refine Or.inl ⟨_, rfl, _, _, rfl, rfl, (by show (0 : Int) < 1000000007; decide), ?_⟩
      refine ⟨_, rfl, _, _, rfl, rfl, ⟨by decide, by decide⟩, ?_⟩
      refine ⟨_, rfl, _, _, rfl, rfl, hm0, ?_⟩
      refine k _ c _ (Int.emod_nonneg _ (by omega)) (Int.emod_lt_of_pos _ hm0) ⟨C, pos + 1, cells, c1, c2, ne, h1', by rw [upd_ne ne.symm]; exact h2, h3, h4, by omega⟩ ?_
      exact Stp.own h1 c1 (fun xs z => by cases z)
end
end Lw
namespace Lw
open PySem L2
/-- a comprehension whose items are drawn -/
theorem lc_draw {α : Type} {J : It} {xs : List V} {vs : List Nat} {σ : L2.St} {te : TE} {j : Nat} {Q : VK} {c : Addr → Nat} {H : Hp} {S : Addr} (w : Walk J xs.length (fun _ => True) (YAt xs)) (hz : xs.length ≤ 100000) (F : α → V) (G : α → Prop) (hS : StateAt c H S)
    (hw : ∀ x, wipe ((wipe σ vs).set j (some x)) vs = wipe σ vs)
    (he : ∀ x c1 H1 (R : VK), StateAt c1 H1 S → Stp (fun i => i = 0) c c1 H H1 → (∀ a c2 H2, G a → StateAt c2 H2 S → Stp (fun i => i = 0) c1 c2 H1 H2 → R (F a) H2) → te ((wipe σ vs).set j (some x)) H1 R)
    (k : ∀ q (l : List α) c' H', H q = none → l.length = xs.length → (∀ a ∈ l, G a) → StateAt c' H' S → Stp (fun i => i = 0) c c' H H' → H' q = some (.lst (l.map F)) → c' q = 9 → Q (.ref q) H') : kLc (gName j) tYes te vs σ Q J H := by
  intro D hD
  refine lc_it w (fun i H2 => ∃ (l : List α) (c2 : Addr → Nat), l.length = i ∧ (∀ a ∈ l, G a) ∧ StateAt c2 H2 S ∧ Stp (fun i => i = 0) c c2 H H2 ∧ c2 D = 9 ∧ H2 D = some (.lst (l.map F)))
    ⟨[], Stp.paint c D 9, rfl, by simp, hS.frame (I := fun _ => False) (Stp.newc hD) (by decide), Stp.newc hD, Stp.paint_same, upd_same⟩ (fun _ _ _ _ => trivial) (fun i x H2 H2' hi h y => ?_) (fun H2 h => ?_)
  · obtain ⟨e, hx⟩ := y
    subst e
    obtain ⟨l, c2, h1, h2, S2, st2, cD, hl⟩ := h
    refine ⟨hw x, ?_⟩
    show te _ H2' _
    refine he x c2 H2' _ S2 st2 fun a c3 H3 ga S3 st3 => ?_
    have hD3 := st3.keep _ _ hl (by rw [cD]; decide)
    refine ⟨_, hD3, ?_, l ++ [a], c3, by rw [List.length_append, h1]; rfl, fun b hb => ?_, S3.frame (I := fun i => i = 9) (Stp.own hD3 (by rw [st3.col _ _ hl, cD]) (fun xs z => by cases z)) (by decide), ?_, by rw [st3.col _ _ hl, cD], by rw [upd_same, List.map_append]; rfl⟩
    · rw [List.length_map, h1]
      exact Nat.lt_of_lt_of_le (show i < 200000 by omega) (by decide)
    · rcases List.mem_append.mp hb with z | z
      · exact h2 b z
      · rw [List.mem_singleton.mp z]; exact ga
    · have st4 := st2.trans st3
      exact ⟨fun b o e n => by rw [upd_ne (ne_of_none e hD)]; exact st4.keep b o e n, st4.col, fun b xs e => by rw [upd_ne (ne_of_none e hD)]; exact st4.tup b xs e, fun b e => by
        by_cases z : b = D
        · subst z; rw [upd_same] at e; cases e
        · rw [upd_ne z] at e; exact st4.fre b e⟩
  · obtain ⟨l, c2, h1, h2, S2, st2, cD, hl⟩ := h
    exact k D l c2 H2 hD h1 h2 S2 st2 hl cD
end Lw

/-! ## a drawn text -/
namespace Lw
open PySem L2
open PyProof.Rows (envOfC)
def signs8 : List Nat := [97, 98, 99, 88, 89, 32, 48, 49]
theorem signs8_eq : ("abcXY 01" : Str) = SX.S signs8 := by decide +kernel
def spText : Sp := fun vs H Q _ => ∃ (c : Addr → Nat) (S : Addr) (m : Int), vs = [.ref S, .int m] ∧ StateAt c H S ∧ 0 ≤ m ∧ m ≤ 1000 ∧
  ∀ (l : List Nat) c' H', (l.length : Int) ≤ m → (∀ x ∈ l, x ∈ signs8) → StateAt c' H' S → Stp (fun i => i = 0) c c' H H' → Q (.str (SX.S l)) H'
section
variable {P : Program} {w : World} {K : PySem.W.Frag} {mg : Str → Option Value} {base : Heap} {C_Claims C_Collector C_Store C_Uploads C_Registry C_Refused C_Malformed a_KINDS a_BELOW a_CLAIMED : Addr}
theorem ok__law_text (T : Txt w K mg C_Claims C_Collector C_Store C_Uploads C_Registry C_Refused C_Malformed a_KINDS a_BELOW a_CLAIMED) : Cal P w K mg base 2 "_law_text" spText := by
  have c__law_take : Cal P w K mg base 1 "_law_take" spTake := ok__law_take T
  refine cal_mk T.d__law_text sc__law_text (fun vs H Q E h => ?_) (fun f cdv A outer s H vs Q E hr h => ?_)
  · obtain ⟨c, S, m, rfl, _⟩ := h
    rfl
  · obtain ⟨c, S, m, rfl, hS, hm0, hm1, k⟩ := h
    refine ⟨_, (pss_one (ps_ret (pe_join (pe_str) (pe_lc (own := [("_law_k", 2)]) (g := (gName 2)) (by rfl) sc__law_text.nd (pi_range1 (by rfl) T.n_range (pa_cons (pe_c c__law_take hr (by first | decide | omega) rfl (pa_cons (pv 0) (pa_cons (pe_op op_add (pv 1) (pe_int)) pa_nil))) pa_nil)) (blkOk_by (own := [("_law_k", 2)]) (N := n__law_text) (sc := defScope s__law_text) (by decide +kernel)) (fun _ _ _ _ _ => (pg_name (i := 2) sc__law_text.nd rfl (by first | exact Or.inl rfl | exact Or.inr rfl))) (fun _ _ _ _ _ => pts_nil) (fun _ _ _ _ _ => (pe_ix ix_str (pe_str) (pe_c c__law_take hr (by first | decide | omega) rfl (pa_cons (pv 0) (pa_cons (pe_int) pa_nil))) (fun _ _ => rfl))))))), ?_⟩
    refine ⟨⟨_, rfl⟩, ?_⟩
    refine ⟨_, rfl, _, rfl, _, _, rfl, rfl, ?_⟩
    refine ⟨c, S, m + 1, rfl, hS, by omega, by omega, fun r c1 H1 r0 r1 S1 st1 => ?_⟩
    refine ⟨r, rfl, by omega, by omega, fun D hD => ?_⟩
    refine lc_range (lo := 0) (n := r.toNat) (fun i H2 => ∃ (l : List Nat) (c2 : Addr → Nat), l.length = i ∧ (∀ x ∈ l, x ∈ signs8) ∧ StateAt c2 H2 S ∧ Stp (fun i => i = 0) c1 c2 H1 H2 ∧ c2 D = 9 ∧ H2 D = some (.lst ((l.map fun c => SX.S [c]).map V.str)))
      ⟨[], Stp.paint c1 D 9, rfl, by simp, S1.frame (I := fun _ => False) (Stp.newc hD) (by decide), Stp.newc hD, Stp.paint_same, upd_same⟩ (fun i H2 hi h => ?_) (fun H2 h => ?_)
    · obtain ⟨l, c2, h1, h2, S2, st2, cD, hl⟩ := h
      refine ⟨rfl, _, rfl, ?_⟩
      refine ⟨c2, S, 8, rfl, S2, by decide, by decide, fun q c3 H3 q0 q1 S3 st3 => ?_⟩
      have hD3 := st3.keep _ _ hl (by rw [cD]; decide)
      obtain ⟨ch, hch, hat⟩ := at_in (xs := signs8) (i := q) q0 q1
      refine ⟨"abcXY 01", q, ch, rfl, rfl, by decide +kernel, by rw [signs8_eq]; exact hat, ?_⟩
      refine ⟨_, hD3, ?_, l ++ [ch], c3, by rw [List.length_append, h1]; rfl, fun x hx => ?_, S3.frame (I := fun i => i = 9) (Stp.own hD3 (by rw [st3.col _ _ hl, cD]) (fun xs z => by cases z)) (by decide), ?_, by rw [st3.col _ _ hl, cD], ?_⟩
      · rw [List.length_map, List.length_map, h1]
        exact small1000 (by omega)
      · rcases List.mem_append.mp hx with z | z
        · exact h2 x z
        · rw [List.mem_singleton.mp z]
          exact List.mem_of_getElem? hch
      · have st4 : Stp (fun i => i = 0) c1 c3 H1 H3 := st2.trans st3
        have hDn : H1 D = none := hD
        exact ⟨fun b o e n => by rw [upd_ne (ne_of_none e hDn)]; exact st4.keep b o e n, st4.col, fun b xs e => by rw [upd_ne (ne_of_none e hDn)]; exact st4.tup b xs e, fun b e => by
          by_cases z : b = D
          · subst z; rw [upd_same] at e; cases e
          · rw [upd_ne z] at e; exact st4.fre b e⟩
      · rw [upd_same, List.map_append, List.map_append]
        rfl
    · obtain ⟨l, c2, h1, h2, S2, st2, cD, hl⟩ := h
      refine ⟨"", D, _, rfl, rfl, Or.inl (SqL.of hl), ?_, ?_⟩
      · rw [sum_ones, List.length_map, h1]
        show r.toNat + r.toNat * 0 ≤ 16777216
        omega
      · rw [join_empty]
        exact k l c2 H2 (by omega) h2 S2 (st1.trans st2)
end
end Lw

/-! ## addresses, as the program reckons them -/
namespace Lw
open PySem L2
open PyProof.Rows (envOfC)
def P61 : Nat := 2305843009213693951
def hN (s : Nat) (t : List Nat) : Nat := t.foldl (fun v c => (v * 257 + c + 1) % P61) s
theorem hN_snoc (s : Nat) (t : List Nat) (c : Nat) : hN s (t ++ [c]) = (hN s t * 257 + c + 1) % P61 := by
  unfold hN
  rw [List.foldl_append]
  rfl
theorem hN_lt {s : Nat} (h : s < P61) : ∀ t : List Nat, hN s t < P61 := by
  intro t
  unfold hN
  induction t generalizing s with
  | nil => exact h
  | cons c t ih => exact ih (Nat.mod_lt _ (by decide))
/-- the number of a kind, from 1 -/
def kn (k : Str) : Nat := if k = "layer" then 1 else if k = "image" then 2 else 3
theorem kn_lt (k : Str) : kn k < 4 := by
  unfold kn
  split
  · decide
  · split <;> decide
def adrN (k : Str) (t : List Nat) : Nat := hN (kn k) t
theorem adrN_lt (k : Str) (t : List Nat) : adrN k t < P61 := hN_lt (Nat.lt_trans (kn_lt k) (by decide)) t
/-- the address of a text of a kind -/
def adr (k : Str) (t : List Nat) : Str := hexT (adrN k t)
def hexS : List Nat := [48, 49, 50, 51, 52, 53, 54, 55, 56, 57, 97, 98, 99, 100, 101, 102]
theorem hexS_eq : ("0123456789abcdef" : Str) = SX.S hexS := by decide +kernel
/-- sixteen hexadecimal signs -/
def isAdr (l : List Nat) : Bool := l.length == 16 && l.all fun c => decide (c ∈ hexS)
/-- the signs of an address -/
def adrL (k : Str) (t : List Nat) : List Nat := List.replicate (16 - ((Nat.toDigits 16 (adrN k t)).map Char.toNat).length) 48 ++ (Nat.toDigits 16 (adrN k t)).map Char.toNat
theorem adr_S (k : Str) (t : List Nat) : adr k t = SX.S (adrL k t) := rfl
theorem adrL_len (k : Str) (t : List Nat) : (adrL k t).length = 16 := by
  have h := adrN_lt k t
  have h2 : (Nat.toDigits 16 (adrN k t)).length ≤ 16 := (Nat.length_toDigits_le_iff (b := 16) (n := adrN k t) (k := 16) (by decide) (by decide)).mpr (Nat.lt_trans h (by decide))
  unfold adrL
  rw [List.length_append, List.length_replicate, List.length_map]
  omega
theorem digit_hex {c : Nat} (h : c < 16) : (Nat.digitChar c).toNat ∈ hexS := by
  have : ∀ c : Nat, c < 16 → (Nat.digitChar c).toNat ∈ hexS := by decide
  exact this c h
theorem digs_hex : ∀ (n : Nat), ∀ c ∈ Nat.toDigits 16 n, c.toNat ∈ hexS := by
  intro n
  induction n using Nat.strongRecOn with
  | _ n ih =>
    intro c hc
    by_cases h : n < 16
    · rw [Nat.toDigits_of_lt_base h] at hc
      rw [List.mem_singleton.mp hc]
      exact digit_hex h
    · rw [Nat.toDigits_of_base_le (by decide) (by omega)] at hc
      rcases List.mem_append.mp hc with z | z
      · exact ih (n / 16) (by omega) c z
      · rw [List.mem_singleton.mp z]
        exact digit_hex (Nat.mod_lt _ (by decide))
theorem adrL_hex (k : Str) (t : List Nat) : ∀ c ∈ adrL k t, c ∈ hexS := by
  intro c hc
  unfold adrL at hc
  rcases List.mem_append.mp hc with z | z
  · rw [List.eq_of_mem_replicate z]
    decide
  · obtain ⟨d, h1, rfl⟩ := List.mem_map.mp z
    exact digs_hex _ d h1
theorem adr_is (k : Str) (t : List Nat) : isAdr (adrL k t) = true := by
  unfold isAdr
  rw [adrL_len, Bool.and_eq_true]
  exact ⟨rfl, List.all_eq_true.mpr fun c hc => decide_eq_true (adrL_hex k t c hc)⟩
def spAddr : Sp := fun vs H Q _ => ∃ (k : Str) (t : List Nat), vs = [.str k, .str (SX.S t)] ∧ k ∈ kinds3 ∧ Q (.str (adr k t)) H
def spIsAdr : Sp := fun vs H Q _ => ∃ (l : List Nat), vs = [.str (SX.S l)] ∧ l.length ≤ 100000 ∧ Q (.bl (isAdr l)) H
theorem kinds_at : ∀ k ∈ kinds3, kinds3[kn k - 1]? = some k ∧ 0 < kn k ∧ ∀ m, m < kn k - 1 → kinds3[m]? ≠ some k := by
  intro k hk
  simp only [kinds3, List.mem_cons, List.not_mem_nil, or_false] at hk
  have e2 : kn "image" = 2 := by decide +kernel
  have e3 : kn "bundle" = 3 := by decide +kernel
  rcases hk with rfl | rfl | rfl
  · refine ⟨by decide +kernel, by decide +kernel, fun m hm => ?_⟩
    exact absurd hm (by rw [show kn "layer" = 1 by decide +kernel]; omega)
  · rw [e2]
    refine ⟨rfl, by decide, fun m hm => ?_⟩
    have : m = 0 := by omega
    subst this
    decide +kernel
  · rw [e3]
    refine ⟨rfl, by decide, fun m hm => ?_⟩
    have : m = 0 ∨ m = 1 := by omega
    rcases this with rfl | rfl <;> decide +kernel
section
variable {P : Program} {w : World} {K : PySem.W.Frag} {mg : Str → Option Value} {base : Heap} {C_Claims C_Collector C_Store C_Uploads C_Registry C_Refused C_Malformed a_KINDS a_BELOW a_CLAIMED : Addr}
theorem ok_address_of (T : Txt w K mg C_Claims C_Collector C_Store C_Uploads C_Registry C_Refused C_Malformed a_KINDS a_BELOW a_CLAIMED) : Cal P w K mg base 1 "address_of" spAddr := by
  refine cal_mk T.d_address_of sc_address_of (fun vs H Q E h => ?_) (fun f cdv A outer s H vs Q E hr h => ?_)
  · obtain ⟨k, t, rfl, _⟩ := h
    rfl
  · obtain ⟨k, t, rfl, hk, q⟩ := h
    obtain ⟨o, its, n, k1, k2, k3, k4, k5, k6⟩ := T.at_KINDS
    obtain ⟨a1, a2, a3⟩ := kinds_at k hk
    refine ⟨_, (pss_cons (ps_set (i := 2) sc_address_of.nd rfl (by first | exact Or.inl rfl | exact Or.inr rfl) (pe_op op_add (pe_bm PySem.F.plainAttrs_tuple PySem.F.slot_tuple_index PySem.F.type_tuple_index mt_tup_index (pe_gc rfl T.g_KINDS) (pa_cons (pv 0) pa_nil)) (pe_int)))
      (pss_cons (ps_for PassesOwn.never rfl (pi_str (pv 1)) (pg_name (i := 3) sc_address_of.nd rfl (by first | exact Or.inl rfl | exact Or.inr rfl)) (pss_one (ps_set (i := 2) sc_address_of.nd rfl (by first | exact Or.inl rfl | exact Or.inr rfl) (pe_op op_mod (pe_op op_add (pe_op op_add (pe_op op_mul (pv 2) (pe_int)) (pe_callB call_ord' (by rfl) T.n_ord (by decide +kernel) (pa_cons (pv 3) pa_nil))) (pe_int)) (pe_gc rfl T.g_PRIME)))))
      (pss_one (ps_ret (pe_joined1 (pe_hex (pv 2) (pe_joined1 pe_str))))))), ?_⟩
    walk_at "lw"
    refine ⟨Or.inr (Or.inl ⟨rfl, o, k1, k2, k3⟩), ?_⟩
    walk_at "lw"
    refine ⟨a_KINDS, kinds3, k, kn k - 1, rfl, rfl, .inr ⟨o, its, n, k1, k2, k4, k5, k6⟩, a1, a3, ?_⟩
    walk_at "lw"
    rw [show ((kn k - 1 : Nat) : Int) + 1 = (kn k : Int) by omega]
    refine for_at walk_sgs (fun i σ H' => H' = H ∧ ∃ v : Option V, σ = [some (.str k), some (.str (SX.S t)), some (.int (hN (kn k) (t.take i) : Nat)), v]) ⟨rfl, none, rfl⟩ (fun _ _ _ _ => trivial) ?_ ?_
    · rintro i x σ H' hx ⟨rfl, v, rfl⟩
      obtain ⟨c, hc, rfl⟩ : ∃ c, t[i]? = some c ∧ V.str (SX.S [c]) = x := by
        unfold sgs at hx
        rw [List.getElem?_map] at hx
        cases e : t[i]? with
        | none => rw [e] at hx; cases hx
        | some c => rw [e] at hx; exact ⟨c, rfl, Option.some.inj hx⟩
      walk_at "lw"
      refine ⟨rfl, some (.str (SX.S [c])), ?_⟩
      rw [take_ok hc, hN_snoc]
      have e : ((hN (kn k) (t.take i) : Nat) : Int) * 257 + (c : Int) + 1 = ((hN (kn k) (t.take i) * 257 + c + 1 : Nat) : Int) := by omega
      have e2 : (((hN (kn k) (t.take i) * 257 + c + 1 : Nat) : Int)) % 2305843009213693951 = (((hN (kn k) (t.take i) * 257 + c + 1) % P61 : Nat) : Int) := by
        unfold P61; omega
      rw [e, e2]
      rfl
    · rintro σ H' ⟨rfl, v, rfl⟩
      rw [show (sgs t).length = t.length by unfold sgs; rw [List.length_map], List.take_length]
      walk_at "lw"
      refine g_hex ?_
      walk_at "lw"
      refine ⟨hN (kn k) t, rfl, Nat.lt_trans (adrN_lt k t) (by decide), ?_⟩
      walk_at "lw"
      exact q
end
end Lw

namespace Lw
open PySem L2
open PyProof.Rows (envOfC)
section
variable {P : Program} {w : World} {K : PySem.W.Frag} {mg : Str → Option Value} {base : Heap} {C_Claims C_Collector C_Store C_Uploads C_Registry C_Refused C_Malformed a_KINDS a_BELOW a_CLAIMED : Addr}
theorem ok_is_address (T : Txt w K mg C_Claims C_Collector C_Store C_Uploads C_Registry C_Refused C_Malformed a_KINDS a_BELOW a_CLAIMED) : Cal P w K mg base 1 "is_address" spIsAdr := by
  refine cal_mk T.d_is_address sc_is_address (fun vs H Q E h => ?_) (fun f cdv A outer s H vs Q E hr h => ?_)
  · obtain ⟨l, rfl, _⟩ := h
    rfl
  · obtain ⟨l, rfl, hl, q⟩ := h
    refine ⟨_, (pss_cons (ps_if (pt_cmpR op_ne (pe_callB call_len_str' (by rfl) T.n_len (by decide +kernel) (pa_cons (pv 0) pa_nil)) (pe_int) (nomark _)) (pss_one (ps_ret (pe_bl))) pss_nil)
      (pss_cons (ps_for PassesOwn.never rfl (pi_str (pv 0)) (pg_name (i := 1) sc_is_address.nd rfl (by first | exact Or.inl rfl | exact Or.inr rfl)) (pss_one (ps_if (pt_cmpR op_notInSg (pv 1) (pe_gc rfl T.g_DIGITS) (by rfl)) (pss_one (ps_ret (pe_bl))) pss_nil)))
      (pss_one (ps_ret (pe_bl))))), ?_⟩
    walk_at "lw"
    refine g_lenT (by rw [SX.S_len]; exact Nat.le_trans hl (by decide)) ?_
    rw [SX.S_len]
    walk_at "lw"
    refine ifn2 (fun h16 => ?_) (fun h16 => ?_)
    · have h16 : l.length = 16 := by have := int_eq.mp h16; omega
      walk_at "lw"
      refine for_at walk_sgs (fun i σ H' => H' = H ∧ (∀ c ∈ l.take i, c ∈ hexS) ∧ ∃ v : Option V, σ = [some (.str (SX.S l)), v]) ⟨rfl, by simp, none, rfl⟩ (fun _ _ _ _ => trivial) ?_ ?_
      · rintro i x σ H' hx ⟨rfl, hi, v, rfl⟩
        obtain ⟨c, hc, rfl⟩ : ∃ c, l[i]? = some c ∧ V.str (SX.S [c]) = x := by
          unfold sgs at hx
          rw [List.getElem?_map] at hx
          cases e : l[i]? with
          | none => rw [e] at hx; cases hx
          | some c => rw [e] at hx; exact ⟨c, rfl, Option.some.inj hx⟩
        walk_at "lw"
        refine ifn2 (fun hm => ?_) (fun hm => ?_)
        · walk_at "lw"
          refine ⟨rfl, fun d hd => ?_, _, rfl⟩
          rw [take_ok hc] at hd
          rcases List.mem_append.mp hd with z | z
          · exact hi d z
          · rw [List.mem_singleton.mp z]
            rw [hexS_eq] at hm
            simpa using hm
        · walk_at "lw"
          have e : isAdr l = false := by
            unfold isAdr
            rw [Bool.and_eq_false_iff]
            right
            rw [List.all_eq_false]
            refine ⟨c, List.mem_of_getElem? hc, ?_⟩
            rw [hexS_eq] at hm
            simpa using hm
          rw [e] at q
          exact q
      · rintro σ H' ⟨rfl, hi, v, rfl⟩
        rw [show (sgs l).length = l.length by unfold sgs; rw [List.length_map], List.take_length] at hi
        walk_at "lw"
        have e : isAdr l = true := by
          unfold isAdr
          rw [Bool.and_eq_true]
          exact ⟨by rw [h16]; rfl, List.all_eq_true.mpr fun c hc => decide_eq_true (hi c hc)⟩
        rw [e] at q
        exact q
    · walk_at "lw"
      have e : isAdr l = false := by
        unfold isAdr
        rw [Bool.and_eq_false_iff]
        left
        exact beq_false_of_ne fun z => h16 (by rw [z]; rfl)
      rw [e] at q
      exact q
end
end Lw

/-! ## texts of images and bundles -/
namespace Lw
open PySem L2
open PyProof.Rows (envOfC)
def imgH : List Nat := [105, 109, 97, 103, 101, 10]
def bunH : List Nat := [98, 117, 110, 100, 108, 101, 10]
theorem imgH_eq : ("image\n" : Str) = SX.S imgH := by decide +kernel
theorem bunH_eq : ("bundle\n" : Str) = SX.S bunH := by decide +kernel
theorem nl_eq : ("\n" : Str) = SX.S [10] := by decide +kernel
theorem sp_eq : (" " : Str) = SX.S [32] := by decide +kernel
def imgL (as : List (List Nat)) : List Nat := imgH ++ (as.map fun a => a ++ [10]).flatten
def bunL (es : List (List Nat × List Nat)) : List Nat := bunH ++ (es.map fun e => e.1 ++ [32] ++ e.2 ++ [10]).flatten
def strS (l : List Nat) : V := .str (SX.S l)
def spImg : Sp := fun vs H Q _ => ∃ (p : Addr) (as : List (List Nat)), vs = [.ref p] ∧ H p = some (.lst (as.map strS)) ∧ as.length ≤ 100 ∧ (∀ a ∈ as, a.length ≤ 1000) ∧ ∀ H', Same H H' → Q (.str (SX.S (imgL as))) H'
def spBun : Sp := fun vs H Q _ => ∃ (p : Addr) (es : List (Addr × List Nat × List Nat)), vs = [.ref p] ∧ H p = some (.lst (es.map fun e => V.ref e.1)) ∧ (∀ e ∈ es, H e.1 = some (.tup [strS e.2.1, strS e.2.2])) ∧ es.length ≤ 100 ∧ (∀ e ∈ es, e.2.1.length + e.2.2.length ≤ 1000) ∧
  ∀ H', Same H H' → Q (.str (SX.S (bunL (es.map (·.2))))) H'
theorem flat_le {l : List (List Nat)} {m : Nat} (h : ∀ a ∈ l, a.length ≤ m) : l.flatten.length ≤ l.length * m := by
  induction l with
  | nil => simp
  | cons a r ih =>
    rw [List.flatten_cons, List.length_append, List.length_cons]
    have := ih fun b hb => h b (List.mem_cons_of_mem _ hb)
    have := h a List.mem_cons_self
    rw [Nat.succ_mul]
    omega
section
variable {P : Program} {w : World} {K : PySem.W.Frag} {mg : Str → Option Value} {base : Heap} {C_Claims C_Collector C_Store C_Uploads C_Registry C_Refused C_Malformed a_KINDS a_BELOW a_CLAIMED : Addr}
theorem ok_image_text (T : Txt w K mg C_Claims C_Collector C_Store C_Uploads C_Registry C_Refused C_Malformed a_KINDS a_BELOW a_CLAIMED) : Cal P w K mg base 1 "image_text" spImg := by
  refine cal_mk T.d_image_text sc_image_text (fun vs H Q E h => ?_) (fun f cdv A outer s H vs Q E hr h => ?_)
  · obtain ⟨p, as, rfl, _⟩ := h
    rfl
  · obtain ⟨p, as, rfl, hp, hz, hl, k⟩ := h
    refine ⟨_, (pss_one (ps_ret (pe_op op_cat_str (pe_str) (pe_join (pe_str) (pe_lc (own := [("address", 1)]) (g := (gName 1)) (by rfl) sc_image_text.nd (pi_list (pv 0)) (blkOk_by (own := [("address", 1)]) (N := n_image_text) (sc := defScope s_image_text) (by decide +kernel)) (fun _ _ _ _ _ => (pg_name (i := 1) sc_image_text.nd rfl (by first | exact Or.inl rfl | exact Or.inr rfl))) (fun _ _ _ _ _ => pts_nil) (fun _ _ _ _ _ => (pe_op op_cat_str (pv 1) (pe_str)))))))), ?_⟩
    walk_at "lw"
    refine g_ritL (SqL.of hp) ?_
    refine lc_map (G := fun H' => SqL K H' p (as.map strS)) walk_list (fun H' s => SqL.of (s _ _ hp)) (by rw [List.length_map]; omega) (fun _ => true) (fun v => match v with | .str x => .str (x ++ SX.S [10]) | _ => v) ?_ ?_
    · intro x hx H' R s1 kk
      obtain ⟨a, ha, rfl⟩ := List.mem_map.mp hx
      walk_at "lw"
      refine kk _ rfl (fun H'' R s2 r => ?_) (fun hp' H'' R s2 r => ?_)
      · walk_at "lw"
        exact r
      · walk_at "lw"
        refine g_cat_str (a := SX.S a) (b := "\n") (by rw [nl_eq, SX.S_len, SX.S_len]; exact Nat.le_trans (Nat.add_le_add (hl a ha) (Nat.le_refl 1)) (by decide)) ?_
        rw [nl_eq]
        exact r _ (Same.refl _)
    · intro q H' nq s1 hq
      rw [List.filter_eq_self.mpr (fun _ _ => rfl), List.map_map] at hq
      have e : (as.map ((fun v => match v with | V.str x => V.str (x ++ SX.S [10]) | _ => v) ∘ strS)) = ((as.map fun a => a ++ [10]).map SX.S).map V.str := by
        rw [List.map_map, List.map_map]
        refine List.map_congr_left fun a _ => ?_
        show V.str (SX.S a ++ SX.S [10]) = V.str (SX.S (a ++ [10]))
        rw [SX.S_cat]
      rw [e] at hq
      have hf : (as.map fun a => a ++ [10]).flatten.length ≤ 100 * 1001 := by
        refine Nat.le_trans (flat_le (m := 1001) fun b hb => ?_) ?_
        · obtain ⟨a, ha, rfl⟩ := List.mem_map.mp hb
          rw [List.length_append]
          have := hl a ha
          show _ + 1 ≤ _
          omega
        · rw [List.length_map]
          exact Nat.mul_le_mul_right _ hz
      refine ⟨"", q, _, rfl, rfl, Or.inl (SqL.of hq), ?_, ?_⟩
      · rw [sum_flat]
        show _ + _ * 0 ≤ 16777216
        omega
      · rw [join_flat]
        refine g_cat_str (a := "image\n") (b := SX.S _) (by rw [imgH_eq, SX.S_len, SX.S_len]; exact Nat.le_trans (Nat.add_le_add (Nat.le_refl 6) hf) (by decide)) ?_
        rw [imgH_eq, SX.S_cat]
        walk_at "lw"
        exact k H' s1
theorem ok_bundle_text (T : Txt w K mg C_Claims C_Collector C_Store C_Uploads C_Registry C_Refused C_Malformed a_KINDS a_BELOW a_CLAIMED) : Cal P w K mg base 1 "bundle_text" spBun := by
  refine cal_mk T.d_bundle_text sc_bundle_text (fun vs H Q E h => ?_) (fun f cdv A outer s H vs Q E hr h => ?_)
  · obtain ⟨p, es, rfl, _⟩ := h
    rfl
  · obtain ⟨p, es, rfl, hp, ht, hz, hl, k⟩ := h
    refine ⟨_, (pss_one (ps_ret (pe_op op_cat_str (pe_str) (pe_join (pe_str) (pe_lc (own := [("platform", 1), ("address", 2)]) (g := (gTup K 2 (gCons (gName 1) (gCons (gName 2) gNil)))) (by rfl) sc_bundle_text.nd (pi_list (pv 0)) (blkOk_by (own := [("platform", 1), ("address", 2)]) (N := n_bundle_text) (sc := defScope s_bundle_text) (by decide +kernel)) (fun _ _ _ _ _ => (pg_tup (by rfl) (pgs_cons (pg_name (i := 1) sc_bundle_text.nd rfl (by first | exact Or.inl rfl | exact Or.inr rfl)) (pgs_cons (pg_name (i := 2) sc_bundle_text.nd rfl (by first | exact Or.inl rfl | exact Or.inr rfl)) pgs_nil)))) (fun _ _ _ _ _ => pts_nil) (fun _ _ _ _ _ => (pe_op op_cat_str (pe_op op_cat_str (pe_op op_cat_str (pv 1) (pe_str)) (pv 2)) (pe_str)))))))), ?_⟩
    walk_at "lw"
    refine g_ritL (SqL.of hp) ?_
    refine lc_map (G := fun H' => SqL K H' p (es.map fun e => V.ref e.1)) walk_list (fun H' s => SqL.of (s _ _ hp)) (by rw [List.length_map]; omega) (fun _ => true)
      (fun v => match v with | .ref a => (match H a with | some (.tup [.str x, .str y]) => .str (x ++ SX.S [32] ++ y ++ SX.S [10]) | _ => .non) | _ => .non) ?_ ?_
    · intro x hx H' R s1 kk
      obtain ⟨e, he, rfl⟩ := List.mem_map.mp hx
      have h1 := ht e he
      refine g_gtup (SqT.of (s1 _ _ h1)) rfl ?_
      walk_at "lw"
      refine kk _ rfl (fun H'' R s2 r => ?_) (fun hp' H'' R s2 r => ?_)
      · walk_at "lw"
        exact r
      · have hl1 := hl e he
        walk_at "lw"
        refine g_cat_str (a := SX.S e.2.1) (b := " ") (by rw [sp_eq, SX.S_len, SX.S_len]; exact Nat.le_trans (show e.2.1.length + 1 ≤ 1001 by omega) (by decide)) ?_
        rw [sp_eq, SX.S_cat]
        walk_at "lw"
        refine g_cat_str (a := SX.S (e.2.1 ++ [32])) (b := SX.S e.2.2) (by rw [SX.S_len, SX.S_len, List.length_append]; exact Nat.le_trans (show e.2.1.length + 1 + e.2.2.length ≤ 1001 by omega) (by decide)) ?_
        rw [SX.S_cat]
        walk_at "lw"
        refine g_cat_str (a := SX.S (e.2.1 ++ [32] ++ e.2.2)) (b := "\n") (by rw [nl_eq, SX.S_len, SX.S_len, List.length_append, List.length_append]; exact Nat.le_trans (show e.2.1.length + 1 + e.2.2.length + 1 ≤ 1002 by omega) (by decide)) ?_
        rw [nl_eq, SX.S_cat]
        have r := r H'' (Same.refl _)
        simp only [h1, strS, SX.S_cat] at r
        exact r
    · intro q H' nq s1 hq
      rw [List.filter_eq_self.mpr (fun _ _ => rfl), List.map_map] at hq
      have e : (es.map ((fun v => match v with | .ref a => (match H a with | some (.tup [.str x, .str y]) => .str (x ++ SX.S [32] ++ y ++ SX.S [10]) | _ => .non) | _ => .non) ∘ fun e => V.ref e.1)) = ((es.map fun e => e.2.1 ++ [32] ++ e.2.2 ++ [10]).map SX.S).map V.str := by
        rw [List.map_map, List.map_map]
        refine List.map_congr_left fun e he => ?_
        simp only [Function.comp, ht e he, strS, SX.S_cat]
      rw [e] at hq
      have hf : (es.map fun e => e.2.1 ++ [32] ++ e.2.2 ++ [10]).flatten.length ≤ 100 * 1002 := by
        refine Nat.le_trans (flat_le (m := 1002) fun b hb => ?_) ?_
        · obtain ⟨e, he, rfl⟩ := List.mem_map.mp hb
          simp only [List.length_append]
          have := hl e he
          show _ + 1 + _ + 1 ≤ _
          omega
        · rw [List.length_map]
          exact Nat.mul_le_mul_right _ hz
      refine ⟨"", q, _, rfl, rfl, Or.inl (SqL.of hq), ?_, ?_⟩
      · rw [sum_flat]
        show _ + _ * 0 ≤ 16777216
        omega
      · rw [join_flat]
        refine g_cat_str (a := "bundle\n") (b := SX.S _) (by rw [bunH_eq, SX.S_len, SX.S_len]; exact Nat.le_trans (Nat.add_le_add (Nat.le_refl 7) hf) (by decide)) ?_
        rw [bunH_eq, SX.S_cat]
        walk_at "lw"
        have k := k H' s1
        unfold bunL at k
        rw [List.map_map] at k
        exact k
end
end Lw

/-! ## texts of images and bundles are read -/
namespace Lw
open PySem L2
open PyProof.Rows (envOfC)
theorem atI_map {α β : Type} {f : α → β} {l : List α} {i : Int} {x : α} (h : atI l i = some x) : atI (l.map f) i = some (f x) := by
  unfold atI at h ⊢
  rw [List.length_map]
  cases e : ixN l.length i with
  | none => rw [e] at h; cases h
  | some j =>
    rw [e] at h
    have h : l[j]? = some x := h
    show (l.map f)[j]? = some (f x)
    rw [List.getElem?_map, h]
    rfl
def lnL (t : List Nat) : List (List Nat) := TL.spl [10] 0 [] t
def wdL (t : List Nat) : List (List Nat) := TL.spl [32] 0 [] t
def lowS : List Nat := [97, 98, 99, 100, 101, 102, 103, 104, 105, 106, 107, 108, 109, 110, 111, 112, 113, 114, 115, 116, 117, 118, 119, 120, 121, 122]
theorem lowS_eq : ("abcdefghijklmnopqrstuvwxyz" : Str) = SX.S lowS := by decide +kernel
def isPlat (l : List Nat) : Bool := decide (1 ≤ l.length) && decide (l.length ≤ 10) && l.all fun c => decide (c ∈ lowS)
def imgW : List Nat := [105, 109, 97, 103, 101]
def bunW : List Nat := [98, 117, 110, 100, 108, 101]
theorem imgW_eq : ("image" : Str) = SX.S imgW := by decide +kernel
theorem bunW_eq : ("bundle" : Str) = SX.S bunW := by decide +kernel
/-- the lines between the first and the last -/
def mid (ls : List (List Nat)) : List (List Nat) := (ls.drop 1).dropLast
def w0 (l : List Nat) : List Nat := (wdL l).getD 0 []
def w1 (l : List Nat) : List Nat := (wdL l).getD 1 []
def okLine (b : Bool) (seen : List (List Nat)) (l : List Nat) : Bool := if b = true then decide ((wdL l).length = 2) && (isPlat (w0 l) && (isAdr (w1 l) && !decide (w0 l ∈ seen))) else isAdr l
/-- the number of the first line that has not its form -/
def scan (b : Bool) : List (List Nat) → Nat → List (List Nat) → Option Nat
  | _, _, [] => none
  | seen, i, l :: r => if okLine b seen l = true then scan b (seen ++ [w0 l]) (i + 1) r else some i
def fault3 (h t : List Nat) : Option Nat :=
  if (lnL t).getD 0 [] ≠ h then some 0 else if (lnL t).getD ((lnL t).length - 1) [] ≠ [] then some ((lnL t).length - 1) else if 52 < (lnL t).length then some 51 else none
def kw (b : Bool) : List Nat := if b = true then bunW else imgW
/-- the line at fault -/
def fault (b : Bool) (t : List Nat) : Option Nat :=
  match fault3 (kw b) t with
  | some n => some n
  | none => if b = true ∧ (lnL t).length = 2 then some 1 else scan b [] 1 (mid (lnL t))
theorem spl_ne (s : List Nat) : ∀ (l : List Nat) (k : Nat) (acc : List Nat), TL.spl s k acc l ≠ []
  | [], k, acc => by simp [TL.spl]
  | c :: r, 0, acc => by
    unfold TL.spl
    split
    · simp
    · exact spl_ne s r 0 _
  | c :: r, k + 1, acc => by
    unfold TL.spl
    exact spl_ne s r k acc
theorem spl_len (s : List Nat) : ∀ (l : List Nat) (k : Nat) (acc : List Nat), (TL.spl s k acc l).length ≤ l.length + 1
  | [], k, acc => by simp [TL.spl]
  | c :: r, 0, acc => by
    unfold TL.spl
    split
    · have := spl_len s r (s.length - 1) []
      simp only [List.length_cons]; omega
    · have := spl_len s r 0 (acc ++ [c])
      simp only [List.length_cons]; omega
  | c :: r, k + 1, acc => by
    unfold TL.spl
    have := spl_len s r k acc
    simp only [List.length_cons]; omega
theorem spl_part_len (s : List Nat) : ∀ (l : List Nat) (k : Nat) (acc : List Nat), ∀ p ∈ TL.spl s k acc l, p.length ≤ acc.length + l.length
  | [], k, acc, p, h => by
    simp [TL.spl] at h
    subst h
    simp
  | c :: r, 0, acc, p, h => by
    unfold TL.spl at h
    split at h
    · rcases List.mem_cons.mp h with z | z
      · subst z; simp only [List.length_cons]; omega
      · have := spl_part_len s r _ _ p z
        simp only [List.length_cons, List.length_nil] at this ⊢; omega
    · have := spl_part_len s r _ _ p h
      simp only [List.length_cons, List.length_append, List.length_nil] at this ⊢; omega
  | c :: r, k + 1, acc, p, h => by
    unfold TL.spl at h
    have := spl_part_len s r _ _ p h
    simp only [List.length_cons] at this ⊢; omega
theorem ln_ne (t : List Nat) : lnL t ≠ [] := spl_ne _ _ _ _
theorem ln_pos (t : List Nat) : 0 < (lnL t).length := List.length_pos_iff.mpr (ln_ne t)
theorem ln_le (t : List Nat) : (lnL t).length ≤ t.length + 1 := spl_len _ _ _ _
theorem ln_part {t p : List Nat} (h : p ∈ lnL t) : p.length ≤ t.length := by have := spl_part_len _ _ _ _ p h; simpa using this
theorem wd_le (t : List Nat) : (wdL t).length ≤ t.length + 1 := spl_len _ _ _ _
theorem wd_pos (t : List Nat) : 0 < (wdL t).length := List.length_pos_iff.mpr (spl_ne _ _ _ _)
theorem wd_part {t p : List Nat} (h : p ∈ wdL t) : p.length ≤ t.length := by have := spl_part_len _ _ _ _ p h; simpa using this
theorem mid_len (ls : List (List Nat)) : (mid ls).length = ls.length - 2 := by unfold mid; rw [List.length_dropLast, List.length_drop]; omega
theorem mid_mem {ls : List (List Nat)} {p : List Nat} (h : p ∈ mid ls) : p ∈ ls := List.mem_of_mem_drop ((List.dropLast_sublist _).subset h)
theorem mid_at {ls : List (List Nat)} {i : Nat} (h : i < (mid ls).length) : (mid ls)[i]? = ls[i + 1]? := by
  unfold mid at h ⊢
  rw [List.length_dropLast] at h
  rw [List.getElem?_dropLast, if_pos h, List.getElem?_drop, Nat.add_comm]
theorem split_ln {t : List Nat} : Txt.split (SX.S t) "\n" = (lnL t).map SX.S := by
  rw [show ("\n" : Str) = SX.S [10] by decide +kernel]
  exact SX.split_S (by simp) (by decide)
theorem split_wd {t : List Nat} : Txt.split (SX.S t) " " = (wdL t).map SX.S := by
  rw [show (" " : Str) = SX.S [32] by decide +kernel]
  exact SX.split_S (by simp) (by decide)
theorem cut_mid (ls : List (List Nat)) : cutV (ls.map strS) (some 1) (some (-1)) = (mid ls).map strS := by
  unfold cutV mid
  rw [List.length_map]
  have h1 : HT.sIx ls.length 0 (some 1) = min 1 ls.length := by
    unfold HT.sIx
    simp
  have h2 : HT.sIx ls.length ls.length (some (-1)) = ls.length - 1 := by
    unfold HT.sIx
    simp
    omega
  rw [h1, h2, List.dropLast_eq_take, List.length_drop, ← List.map_drop, ← List.map_take]
  by_cases h : ls.length = 0
  · rw [List.length_eq_zero_iff.mp h]
    rfl
  · rw [Nat.min_eq_left (by omega)]
theorem g_spl {x y : Str} {H : Hp} {Q : VK} (hy : (y.length == 0) = false) (hx : x.length + 2 ≤ sizeLine) (k : ∀ p H', H p = none → Same H H' → H' p = some (.lst ((Txt.split x y).map V.str)) → Q (.ref p) H') :
    ∃ a b, V.str x = .str a ∧ [V.str y] = [.str b] ∧ (b.length == 0) = false ∧ a.length + 2 ≤ sizeLine ∧ rNewStrs (Txt.split a b) H Q :=
  ⟨x, y, rfl, rfl, hy, hx, New.to (Q := fun p H' => Q (.ref p) H') k⟩
theorem scan_at {b : Bool} {s ls : List (List Nat)} {k i : Nat} {l : List Nat} (h : ls[i]? = some l) : scan b s k (ls.drop i) = if okLine b s l = true then scan b (s ++ [w0 l]) (k + 1) (ls.drop (i + 1)) else some k := by
  obtain ⟨hl, e⟩ := List.getElem?_eq_some_iff.mp h
  rw [List.drop_eq_getElem_cons hl, e]
  rfl
def spPlat : Sp := fun vs H Q _ => ∃ (l : List Nat), vs = [.str (SX.S l)] ∧ l.length ≤ 100000 ∧ Q (.bl (isPlat l)) H
/-- the way out of a def that finds the line n at fault -/
def OutX (C : Addr) (H : Hp) (E : XK) (o : Option Nat) : Prop := ∀ n, o = some n → ∀ d H', Same H H' → H' d = some (.xd [("line", .int (n : Int))]) → E (.ref C) (some d) H'
def spLines (C : Addr) : Sp := fun vs H Q E => ∃ (t h : List Nat), vs = [.str (SX.S t), .str (SX.S h)] ∧ t.length ≤ 100000 ∧
  (fault3 h t = none → ∀ q H', Same H H' → H' q = some (.lst ((mid (lnL t)).map strS)) → Q (.ref q) H') ∧ OutX C H E (fault3 h t)
def spReadI (C : Addr) : Sp := fun vs H Q E => ∃ (t : List Nat), vs = [.str (SX.S t)] ∧ t.length ≤ 100000 ∧
  (fault false t = none → ∀ q H', Same H H' → H' q = some (.lst ((mid (lnL t)).map strS)) → Q (.ref q) H') ∧ OutX C H E (fault false t)
/-- a list of pairs of texts at q -/
def PrsAt (H : Hp) (q : Addr) (ps : List (List Nat × List Nat)) : Prop := ∃ es : List (Addr × List Nat × List Nat), es.map (·.2) = ps ∧ H q = some (.lst (es.map fun e => V.ref e.1)) ∧ ∀ e ∈ es, H e.1 = some (.tup [strS e.2.1, strS e.2.2])
def prs (t : List Nat) : List (List Nat × List Nat) := (mid (lnL t)).map fun l => (w0 l, w1 l)
def spReadB (C : Addr) : Sp := fun vs H Q E => ∃ (t : List Nat), vs = [.str (SX.S t)] ∧ t.length ≤ 100000 ∧
  (fault true t = none → ∀ q H', Same H H' → PrsAt H' q (prs t) → Q (.ref q) H') ∧ OutX C H E (fault true t)
def refsL (k : Str) (t : List Nat) : List (List Nat) := if k = "layer" then [] else if k = "image" then mid (lnL t) else (prs t).map (·.2)
def faultK (k : Str) (t : List Nat) : Option Nat := if k = "layer" then none else fault (!decide (k = "image")) t
def spRefs (C : Addr) : Sp := fun vs H Q E => ∃ (k : Str) (t : List Nat), vs = [.str k, .str (SX.S t)] ∧ t.length ≤ 100000 ∧
  (faultK k t = none → ∀ q H', Same H H' → H' q = some (.lst ((refsL k t).map strS)) → Q (.ref q) H') ∧ OutX C H E (faultK k t)
section
variable {P : Program} {w : World} {K : PySem.W.Frag} {mg : Str → Option Value} {base : Heap} {C_Claims C_Collector C_Store C_Uploads C_Registry C_Refused C_Malformed a_KINDS a_BELOW a_CLAIMED : Addr}
theorem ok_Malformed___init__ (T : Txt w K mg C_Claims C_Collector C_Store C_Uploads C_Registry C_Refused C_Malformed a_KINDS a_BELOW a_CLAIMED) : Exo P w K mg base 1 "Malformed" C_Malformed (spXInit C_Malformed "line") := by
  refine exo_mk T.ox_Malformed T.i_Malformed sc_Malformed___init__ (fun vs H Q E h => ?_) (fun f cdv A outer s H vs Q E hr h => ?_)
  · obtain ⟨a, v, rfl, _⟩ := h
    rfl
  · obtain ⟨a, v, rfl, ha, k⟩ := h
    refine ⟨_, (pss_one (ps_ost (pv 0) (pv 1))), ?_⟩
    exact ⟨_, rfl, _, rfl, a, C_Malformed, rfl, T.ox_Malformed, T.na_Malformed_line, .inl ⟨ha, fun dx h1 h2 => k dx h1 h2⟩⟩
theorem ok_is_platform (T : Txt w K mg C_Claims C_Collector C_Store C_Uploads C_Registry C_Refused C_Malformed a_KINDS a_BELOW a_CLAIMED) : Cal P w K mg base 1 "is_platform" spPlat := by
  refine cal_mk T.d_is_platform sc_is_platform (fun vs H Q E h => ?_) (fun f cdv A outer s H vs Q E hr h => ?_)
  · obtain ⟨l, rfl, _⟩ := h
    rfl
  · obtain ⟨l, rfl, hl, q⟩ := h
    refine ⟨_, (pss_cons (ps_if (PW.pt (pw_or (pt_cmpR op_lt (pe_callB call_len_str' (by rfl) T.n_len (by decide +kernel) (pa_cons (pv 0) pa_nil)) (pe_int) (nomark _)) (pw_or1 (pt_cmpR op_gt (pe_callB call_len_str' (by rfl) T.n_len (by decide +kernel) (pa_cons (pv 0) pa_nil)) (pe_int) (nomark _))))) (pss_one (ps_ret (pe_bl))) pss_nil)
      (pss_cons (ps_for PassesOwn.never rfl (pi_str (pv 0)) (pg_name (i := 1) sc_is_platform.nd rfl (by first | exact Or.inl rfl | exact Or.inr rfl)) (pss_one (ps_if (pt_cmpR op_notInSg (pv 1) (pe_gc rfl T.g_LETTERS) (by rfl)) (pss_one (ps_ret (pe_bl))) pss_nil)))
      (pss_one (ps_ret (pe_bl))))), ?_⟩
    have hz : (SX.S l).length ≤ sizeLine := by rw [SX.S_len]; exact Nat.le_trans hl (by decide)
    walk_at "lw"
    refine g_lenT hz ?_
    rw [SX.S_len]
    walk_at "lw"
    refine if2 (fun h1 => ?_) (fun h1 => ?_)
    · walk_at "lw"
      have e : isPlat l = false := by
        unfold isPlat
        rw [decide_eq_false (by omega : ¬ 1 ≤ l.length)]
        rfl
      rw [e] at q
      exact q
    · walk_at "lw"
      refine g_lenT hz ?_
      rw [SX.S_len]
      walk_at "lw"
      refine if2 (fun h2 => ?_) (fun h2 => ?_)
      · walk_at "lw"
        have e : isPlat l = false := by
          unfold isPlat
          rw [decide_eq_false (by omega : ¬ l.length ≤ 10), Bool.and_false]
          rfl
        rw [e] at q
        exact q
      · walk_at "lw"
        refine for_at walk_sgs (fun i σ H' => H' = H ∧ (∀ c ∈ l.take i, c ∈ lowS) ∧ ∃ v : Option V, σ = [some (.str (SX.S l)), v]) ⟨rfl, by simp, none, rfl⟩ (fun _ _ _ _ => trivial) ?_ ?_
        · rintro i x σ H' hx ⟨rfl, hi, v, rfl⟩
          obtain ⟨c, hc, rfl⟩ := sgs_at hx
          walk_at "lw"
          refine ifn2 (fun hm => ?_) (fun hm => ?_)
          · walk_at "lw"
            refine ⟨rfl, fun d hd => ?_, _, rfl⟩
            rw [take_ok hc] at hd
            rcases List.mem_append.mp hd with z | z
            · exact hi d z
            · rw [List.mem_singleton.mp z]
              rw [lowS_eq] at hm
              simpa using hm
          · walk_at "lw"
            have e : isPlat l = false := by
              unfold isPlat
              rw [Bool.and_eq_false_iff]
              right
              rw [List.all_eq_false]
              refine ⟨c, List.mem_of_getElem? hc, ?_⟩
              rw [lowS_eq] at hm
              simpa using hm
            rw [e] at q
            exact q
        · rintro σ H' ⟨rfl, hi, v, rfl⟩
          rw [sgs_len, List.take_length] at hi
          walk_at "lw"
          have e : isPlat l = true := by
            unfold isPlat
            rw [Bool.and_eq_true, Bool.and_eq_true, decide_eq_true_eq, decide_eq_true_eq]
            exact ⟨⟨by omega, by omega⟩, List.all_eq_true.mpr fun c hc => decide_eq_true (hi c hc)⟩
          rw [e] at q
          exact q
theorem ok_lines_of (T : Txt w K mg C_Claims C_Collector C_Store C_Uploads C_Registry C_Refused C_Malformed a_KINDS a_BELOW a_CLAIMED) : CalX P w K mg base 3 "lines_of" (spLines C_Malformed) := by
  have x_Malformed : Exo P w K mg base 1 "Malformed" C_Malformed (spXInit C_Malformed "line") := ok_Malformed___init__ T
  refine calX_mk T.d_lines_of sc_lines_of (fun vs H Q E h => ?_) (fun f cdv A outer s H vs Q E hr h => ?_)
  · obtain ⟨t, h, rfl, _⟩ := h
    rfl
  · obtain ⟨t, h, rfl, hl, k, kx⟩ := h
    refine ⟨_, (pss_cons (ps_set (i := 2) sc_lines_of.nd rfl (by first | exact Or.inl rfl | exact Or.inr rfl) (pe_split (pv 0) (pe_str)))
      (pss_cons (ps_if (pt_cmpR op_ne (pe_ix ix_list (pv 2) (pe_int) (fun _ _ => rfl)) (pv 1) (nomark _)) (pss_one (ps_rs rfl (takes_of rfl rfl rfl rfl) (pmk_x x_Malformed hr (by first | decide | omega) rfl (pa_cons (pe_int) pa_nil)))) pss_nil)
      (pss_cons (ps_if (pt_cmpR op_ne (pe_ix ix_list (pv 2) (pe_un un_neg (pe_int)) (fun _ _ => rfl)) (pe_str) (nomark _)) (pss_one (ps_rs rfl (takes_of rfl rfl rfl rfl) (pmk_x x_Malformed hr (by first | decide | omega) rfl (pa_cons (pe_op op_sub (pe_callB call_len_seq' (by rfl) T.n_len (by decide +kernel) (pa_cons (pv 2) pa_nil)) (pe_int)) pa_nil)))) pss_nil)
      (pss_cons (ps_if (pt_cmpR op_gt (pe_callB call_len_seq' (by rfl) T.n_len (by decide +kernel) (pa_cons (pv 2) pa_nil)) (pe_op op_add (pe_gc rfl T.g_MAX_LINES) (pe_int)) (nomark _)) (pss_one (ps_rs rfl (takes_of rfl rfl rfl rfl) (pmk_x x_Malformed hr (by first | decide | omega) rfl (pa_cons (pe_op op_add (pe_gc rfl T.g_MAX_LINES) (pe_int)) pa_nil)))) pss_nil)
      (pss_one (ps_ret (pe_slice sl_list (pv 2) (po_some (pe_int)) (po_some (pe_un un_neg (pe_int)))))))))), ?_⟩
    have hp := ln_pos t
    have hle := ln_le t
    walk_at "lw"
    refine g_spl (by decide +kernel) (by rw [SX.S_len]; exact Nat.le_trans (show t.length + 2 ≤ 100002 by omega) (by decide)) fun q H1 nq s1 hq => ?_
    rw [split_ln, List.map_map] at hq
    have hq : H1 q = some (.lst ((lnL t).map strS)) := hq
    have a0 : atI (lnL t) 0 = some ((lnL t).getD 0 []) := by
      have := atI_nat (xs := lnL t) (j := 0) (v := (lnL t).getD 0 []) (by rw [List.getD_eq_getElem?_getD, List.getElem?_eq_getElem hp]; rfl)
      exact this
    have a1 : atI (lnL t) (-1) = some ((lnL t).getD ((lnL t).length - 1) []) := by
      have h1 : (lnL t)[(lnL t).length - 1]? = some ((lnL t).getD ((lnL t).length - 1) []) := by rw [List.getD_eq_getElem?_getD, List.getElem?_eq_getElem (by omega)]; rfl
      unfold atI
      rw [show ixN (lnL t).length (-1) = some ((lnL t).length - 1) by unfold ixN; rw [if_neg (by decide), if_pos (by omega)]; congr 1; omega]
      exact h1
    walk_at "lw"
    refine g_rix (SqL.of hq) (atI_map a0) ?_
    walk_at "lw"
    show if (!decide (V.str (SX.S ((lnL t).getD 0 [])) = V.str (SX.S h))) = true then _ else _
    refine ifn2 (fun e0 => ?_) (fun e0 => ?_)
    · have e0 : (lnL t).getD 0 [] = h := SX.S_inj (str_eq.mp e0)
      walk_at "lw"
      refine ⟨_, rfl, ?_⟩
      refine g_rix (SqL.of hq) (atI_map a1) ?_
      walk_at "lw"
      show if (!decide (V.str (SX.S ((lnL t).getD ((lnL t).length - 1) [])) = V.str "")) = true then _ else _
      refine ifn2 (fun e1 => ?_) (fun e1 => ?_)
      · have e1 : (lnL t).getD ((lnL t).length - 1) [] = [] := SX.S_inj (by rw [← empty_S]; exact str_eq.mp e1)
        walk_at "lw"
        rw [List.length_map]
        refine if2 (fun e2 => ?_) (fun e2 => ?_)
        · have e : fault3 h t = some 51 := by
            unfold fault3
            rw [if_neg (fun z => z e0), if_neg (fun z => z e1), if_pos (by omega)]
          walk_at "lw"
          exact g_rmkO fun d H' _ s' hd => kx _ e d H' (s1.trans s') hd
        · have e : fault3 h t = none := by
            unfold fault3
            rw [if_neg (fun z => z e0), if_neg (fun z => z e1), if_neg (by omega)]
          walk_at "lw"
          refine ⟨_, rfl, ?_⟩
          walk_at "lw"
          refine g_slL (SqL.of hq) fun q2 H2 _ s2 hq2 => ?_
          rw [cut_mid] at hq2
          walk_at "lw"
          exact k e q2 H2 (s1.trans s2) hq2
      · have e1 : ¬ (lnL t).getD ((lnL t).length - 1) [] = [] := fun z => e1 (by rw [z]; exact str_eq.mpr empty_S.symm)
        have e : fault3 h t = some ((lnL t).length - 1) := by
          unfold fault3
          rw [if_neg (fun z => z e0), if_pos e1]
        walk_at "lw"
        refine g_rmkO fun d H' _ s' hd => kx _ e d H' (s1.trans s') ?_
        rw [hd, List.length_map]
        congr 6
        omega
    · have e0 : ¬ (lnL t).getD 0 [] = h := fun z => e0 (by rw [z])
      have e : fault3 h t = some 0 := by
        unfold fault3
        rw [if_pos e0]
      walk_at "lw"
      exact g_rmkO fun d H' _ s' hd => kx _ e d H' (s1.trans s') hd
end
end Lw

/-! ## images, bundles, references -/
namespace Lw
open PySem L2
open PyProof.Rows (envOfC)
theorem OutX.mk {C : Addr} {H : Hp} {E : XK} {o : Option Nat} {n : Nat} {z : Int} (k : OutX C H E o) (e : o = some n) (hz : z = (n : Int)) : ∀ d H', Same H H' → H' d = some (.xd [("line", .int z)]) → E (.ref C) (some d) H' := by
  subst hz
  exact fun d H' s h => k n e d H' s h
theorem fault_of3 {b : Bool} {t : List Nat} {n : Nat} (h : fault3 (kw b) t = some n) : fault b t = some n := by
  unfold fault
  rw [h]
theorem fault_one {t : List Nat} (h : fault3 (kw true) t = none) (h2 : (lnL t).length = 2) : fault true t = some 1 := by
  unfold fault
  rw [h]
  exact if_pos ⟨rfl, h2⟩
theorem fault_scan {b : Bool} {t : List Nat} (h : fault3 (kw b) t = none) (h2 : ¬ (b = true ∧ (lnL t).length = 2)) : fault b t = scan b [] 1 (mid (lnL t)) := by
  unfold fault
  rw [h]
  exact if_neg h2
theorem kw_ne (b : Bool) : kw b ≠ [] := by cases b <;> decide
theorem ln_two {b : Bool} {t : List Nat} (h : fault3 (kw b) t = none) : 2 ≤ (lnL t).length := by
  have hp := ln_pos t
  unfold fault3 at h
  split at h
  · cases h
  · rename_i h1
    split at h
    · cases h
    · rename_i h2
      by_cases h3 : (lnL t).length = 1
      · rw [h3] at h2
        have e1 := Classical.not_not.mp h1
        have e2 := Classical.not_not.mp h2
        exact absurd (e1.symm.trans e2) (kw_ne b)
      · omega
theorem _root_.L2.Same.chg {H H' H2 : Hp} {p : Addr} (s : Same H H') (n : H p = none) (k : ∀ b, b ≠ p → H2 b = H' b) : Same H H2 := fun b o e => by rw [k b (ne_of_none e n)]; exact s b o e
section
variable {σ : L2.St} {H : Hp} {D : Ends} {g : TG} {tl : TA}
def kFor2 (g : TG) (tb : TS) (D : Ends) (σ : L2.St) (vs : List V) (H : Hp) : Prop := ∃ a b : Int, vs = [.int a, .int b] ∧ (-(2 ^ 62) ≤ a ∧ a < 2 ^ 62 ∧ -(2 ^ 62) ≤ b ∧ b < 2 ^ 62) ∧ kFor g tb D σ (Itr a (b - a).toNat) H
theorem g_forR2 {tb : TS} (k : tl σ H (kFor2 g tb D σ)) : tFor (iRng2 tl) g tb D σ H := k
theorem g_for2 {tb : TS} {a b : Int} (h0 : 0 ≤ a) (h1 : a ≤ 100000) (h2 : 0 ≤ b) (h3 : b ≤ 100000) (Pv : Nat → L2.St → Hp → Prop) (hi : Pv 0 σ H) (hs : ∀ (i : Nat) σ H, i < (b - a).toNat → Pv i σ H → g (.int (a + (i : Int))) σ H fun σ2 H2 => tb { D with nx := Pv (i + 1), ct := Pv (i + 1), bk := D.nx } σ2 H2)
    (hd : ∀ σ H, Pv (b - a).toNat σ H → D.nx σ H) : kFor2 g tb D σ [.int a, .int b] H :=
  ⟨a, b, rfl, ⟨by omega, by omega, by omega, by omega⟩, for_range Pv hi hs hd⟩
end
theorem w0_at {l : List Nat} : (wdL l)[0]? = some (w0 l) := by
  have h := wd_pos l
  unfold w0
  rw [List.getD_eq_getElem?_getD, List.getElem?_eq_getElem h]
  rfl
theorem w1_at {l : List Nat} (h : (wdL l).length = 2) : (wdL l)[1]? = some (w1 l) := by
  unfold w1
  rw [List.getD_eq_getElem?_getD, List.getElem?_eq_getElem (by omega)]
  rfl
theorem w0_len (l : List Nat) : (w0 l).length ≤ l.length := wd_part (List.mem_of_getElem? w0_at)
theorem w1_len {l : List Nat} (h : (wdL l).length = 2) : (w1 l).length ≤ l.length := wd_part (List.mem_of_getElem? (w1_at h))
theorem S_mem {a : List Nat} {s : List (List Nat)} : SX.S a ∈ s.map SX.S ↔ a ∈ s := by
  rw [List.mem_map]
  exact ⟨fun ⟨b, hb, e⟩ => by rw [← SX.S_inj e]; exact hb, fun h => ⟨a, h, rfl⟩⟩
section
variable {P : Program} {w : World} {K : PySem.W.Frag} {mg : Str → Option Value} {base : Heap} {C_Claims C_Collector C_Store C_Uploads C_Registry C_Refused C_Malformed a_KINDS a_BELOW a_CLAIMED : Addr}
theorem ok_read_image (T : Txt w K mg C_Claims C_Collector C_Store C_Uploads C_Registry C_Refused C_Malformed a_KINDS a_BELOW a_CLAIMED) : CalX P w K mg base 4 "read_image" (spReadI C_Malformed) := by
  have x_Malformed : Exo P w K mg base 1 "Malformed" C_Malformed (spXInit C_Malformed "line") := ok_Malformed___init__ T
  have c_is_address : Cal P w K mg base 1 "is_address" spIsAdr := ok_is_address T
  have c_lines_of : CalX P w K mg base 3 "lines_of" (spLines C_Malformed) := ok_lines_of T
  refine calX_mk T.d_read_image sc_read_image (fun vs H Q E h => ?_) (fun f cdv A outer s H vs Q E hr h => ?_)
  · obtain ⟨t, rfl, _⟩ := h
    rfl
  · obtain ⟨t, rfl, hl, k, kx⟩ := h
    refine ⟨_, (pss_cons (ps_set (i := 1) sc_read_image.nd rfl (by first | exact Or.inl rfl | exact Or.inr rfl) (pe_cX c_lines_of (takes_of rfl rfl rfl rfl) hr (by first | decide | omega) rfl (pa_cons (pv 0) (pa_cons (pe_str) pa_nil))))
      (pss_cons (ps_for (passes_of rfl) rfl (pi_range1 (by rfl) T.n_range (pa_cons (pe_callB call_len_seq' (by rfl) T.n_len (by decide +kernel) (pa_cons (pv 1) pa_nil)) pa_nil)) (pg_name (i := 2) sc_read_image.nd rfl (by first | exact Or.inl rfl | exact Or.inr rfl)) (pss_one (ps_if (pt_not (pt_val (pe_c c_is_address hr (by first | decide | omega) rfl (pa_cons (pe_ix ix_list (pv 1) (pv 2) (fun _ _ => rfl)) pa_nil)))) (pss_one (ps_rs rfl (takes_of rfl rfl rfl rfl) (pmk_x x_Malformed hr (by first | decide | omega) rfl (pa_cons (pe_op op_add (pv 2) (pe_int)) pa_nil)))) pss_nil)))
      (pss_one (ps_ret (pv 1))))), ?_⟩
    walk_at "lw"
    refine ⟨t, imgW, by rw [imgW_eq], hl, fun h3 q H1 s1 hq => ?_, fun n hn d H1 s1 hd => kx.mk (fault_of3 (b := false) hn) rfl d H1 s1 hd⟩
    have hf := fault_scan (b := false) h3 (fun z => by cases z.1)
    have hm : (mid (lnL t)).length ≤ 100000 := by rw [mid_len]; have := ln_le t; omega
    rw [hf] at k kx
    walk_at "lw"
    rw [List.length_map]
    refine g_for1 (by omega) (by omega) (fun i σ H' => H' = H1 ∧ (∃ s, scan false [] 1 (mid (lnL t)) = scan false s (1 + i) ((mid (lnL t)).drop i)) ∧ ∃ v : Option V, σ = [some (.str (SX.S t)), some (.ref q), v]) ⟨rfl, ⟨[], rfl⟩, none, rfl⟩ ?_ ?_
    · rintro i σ H' hi ⟨rfl, ⟨s, hs⟩, v, rfl⟩
      obtain ⟨l, hl2⟩ : ∃ l, (mid (lnL t))[i]? = some l := ⟨_, List.getElem?_eq_getElem (by omega)⟩
      have hlen := ln_part (mid_mem (List.mem_of_getElem? hl2))
      rw [scan_at hl2] at hs
      walk_at "lw"
      refine g_rix (SqL.of hq) (atI_map (atI_nat hl2)) ?_
      walk_at "lw"
      refine ⟨l, rfl, by omega, ?_⟩
      walk_at "lw"
      cases hb : isAdr l with
      | true =>
        walk_at "lw"
        refine ⟨rfl, ⟨_, hs.trans (if_pos ?_)⟩, _, rfl⟩
        exact hb
      | false =>
        have e := hs.trans (if_neg (show ¬ okLine false s l = true by unfold okLine; rw [if_neg (by decide), hb]; decide))
        walk_at "lw"
        exact g_rmkO fun d H2 _ s2 hd => kx.mk e (by omega) d H2 (s1.trans s2) hd
    · rintro σ H' ⟨rfl, ⟨s, hs⟩, v, rfl⟩
      rw [show ((mid (lnL t)).length : Int).toNat = (mid (lnL t)).length by omega, List.drop_length] at hs
      walk_at "lw"
      exact k hs q H' s1 hq
theorem ok_read_bundle (T : Txt w K mg C_Claims C_Collector C_Store C_Uploads C_Registry C_Refused C_Malformed a_KINDS a_BELOW a_CLAIMED) : CalX P w K mg base 4 "read_bundle" (spReadB C_Malformed) := by
  have x_Malformed : Exo P w K mg base 1 "Malformed" C_Malformed (spXInit C_Malformed "line") := ok_Malformed___init__ T
  have c_is_address : Cal P w K mg base 1 "is_address" spIsAdr := ok_is_address T
  have c_is_platform : Cal P w K mg base 1 "is_platform" spPlat := ok_is_platform T
  have c_lines_of : CalX P w K mg base 3 "lines_of" (spLines C_Malformed) := ok_lines_of T
  refine calX_mk T.d_read_bundle sc_read_bundle (fun vs H Q E h => ?_) (fun f cdv A outer s H vs Q E hr h => ?_)
  · obtain ⟨t, rfl, _⟩ := h
    rfl
  · obtain ⟨t, rfl, hl, k, kx⟩ := h
    have hu := hu_of hr
    refine ⟨_, (pss_cons (ps_set (i := 1) sc_read_bundle.nd rfl (by first | exact Or.inl rfl | exact Or.inr rfl) (pe_cX c_lines_of (takes_of rfl rfl rfl rfl) hr (by first | decide | omega) rfl (pa_cons (pv 0) (pa_cons (pe_str) pa_nil))))
      (pss_cons (ps_if (pt_cmpR op_eq (pe_callB call_len_seq' (by rfl) T.n_len (by decide +kernel) (pa_cons (pv 1) pa_nil)) (pe_int) (nomark _)) (pss_one (ps_rs rfl (takes_of rfl rfl rfl rfl) (pmk_x x_Malformed hr (by first | decide | omega) rfl (pa_cons (pe_int) pa_nil)))) pss_nil)
      (pss_cons (ps_set (i := 2) sc_read_bundle.nd rfl (by first | exact Or.inl rfl | exact Or.inr rfl) (pe_lst pa_nil))
      (pss_cons (ps_set (i := 3) sc_read_bundle.nd rfl (by first | exact Or.inl rfl | exact Or.inr rfl) (pe_dnewK))
      (pss_cons (ps_for (passes_of rfl) rfl (pi_range1 (by rfl) T.n_range (pa_cons (pe_callB call_len_seq' (by rfl) T.n_len (by decide +kernel) (pa_cons (pv 1) pa_nil)) pa_nil)) (pg_name (i := 4) sc_read_bundle.nd rfl (by first | exact Or.inl rfl | exact Or.inr rfl)) (pss_cons (ps_set (i := 5) sc_read_bundle.nd rfl (by first | exact Or.inl rfl | exact Or.inr rfl) (pe_split (pe_ix ix_list (pv 1) (pv 4) (fun _ _ => rfl)) (pe_str)))
      (pss_cons (ps_if (PW.pt (pw_or (pt_cmpR op_ne (pe_callB call_len_seq' (by rfl) T.n_len (by decide +kernel) (pa_cons (pv 5) pa_nil)) (pe_int) (nomark _)) (pw_or (pt_not (pt_val (pe_c c_is_platform hr (by first | decide | omega) rfl (pa_cons (pe_ix ix_list (pv 5) (pe_int) (fun _ _ => rfl)) pa_nil)))) (pw_or1 (pt_not (pt_val (pe_c c_is_address hr (by first | decide | omega) rfl (pa_cons (pe_ix ix_list (pv 5) (pe_int) (fun _ _ => rfl)) pa_nil)))))))) (pss_one (ps_rs rfl (takes_of rfl rfl rfl rfl) (pmk_x x_Malformed hr (by first | decide | omega) rfl (pa_cons (pe_op op_add (pv 4) (pe_int)) pa_nil)))) pss_nil)
      (pss_cons (ps_if (pt_cmp (pc_din hu (pe_ix ix_list (pv 5) (pe_int) (fun _ _ => rfl)) (pv 3))) (pss_one (ps_rs rfl (takes_of rfl rfl rfl rfl) (pmk_x x_Malformed hr (by first | decide | omega) rfl (pa_cons (pe_op op_add (pv 4) (pe_int)) pa_nil)))) pss_nil)
      (pss_cons (ps_dput hu (pv 3) (pe_ix ix_list (pv 5) (pe_int) (fun _ _ => rfl)) (pe_bl) rfl)
      (pss_one (ps_expr (pe_bm PySem.F.plainAttrs_list PySem.F.slot_list_append PySem.F.type_list_append mt_append (pv 2) (pa_cons (pe_tup (pa_cons (pe_ix ix_list (pv 5) (pe_int) (fun _ _ => rfl)) (pa_cons (pe_ix ix_list (pv 5) (pe_int) (fun _ _ => rfl)) pa_nil))) pa_nil)))))))))
      (pss_one (ps_ret (pv 2)))))))), ?_⟩
    walk_at "lw"
    refine ⟨t, bunW, by rw [bunW_eq], hl, fun h3 q H1 s1 hq => ?_, fun n hn d H1 s1 hd => kx.mk (fault_of3 (b := true) hn) rfl d H1 s1 hd⟩
    have h2 := ln_two (b := true) h3
    have hm0 := mid_len (lnL t)
    have hm : (mid (lnL t)).length ≤ 100000 := by have := ln_le t; omega
    walk_at "lw"
    rw [List.length_map]
    refine if2 (fun hz => ?_) (fun hz => ?_)
    · have hz : (mid (lnL t)).length = 0 := by have := int_eq.mp hz; omega
      walk_at "lw"
      exact g_rmkO fun d H2 _ s2 hd => kx.mk (fault_one h3 (by omega)) rfl d H2 (s1.trans s2) hd
    · have hf := fault_scan (b := true) h3 (fun z => hz (by rw [hm0, z.2]; rfl))
      rw [hf] at k kx
      walk_at "lw"
      refine g_klst (by show 0 ≤ 100; decide) fun en H2 nen s2 hen => ?_
      walk_at "lw"
      refine g_dnew fun sn H3 nsn s3 hsn => ?_
      have hen3 := s3.at hen
      have neq : q ≠ en := ne_of_none hq nen
      have nes : en ≠ sn := ne_of hen3 hsn (by intro z; cases z)
      have nqs : q ≠ sn := ne_of ((s2.trans s3).at hq) hsn (by intro z; cases z)
      have n0e : H en = none := s1.free nen
      have n0s : H sn = none := (s1.trans s2).free nsn
      walk_at "lw"
      rw [List.length_map]
      refine g_for1 (by omega) (by omega) (fun i σ H' => Same H H' ∧ H' q = some (.lst ((mid (lnL t)).map strS)) ∧ scan true [] 1 (mid (lnL t)) = scan true (((mid (lnL t)).take i).map w0) (1 + i) ((mid (lnL t)).drop i) ∧
        H' sn = some (.dK (mkS ((((mid (lnL t)).take i).map w0).map SX.S) fun _ => .bl true)) ∧ PrsAt H' en (((mid (lnL t)).take i).map fun l => (w0 l, w1 l)) ∧ ∃ v v2 : Option V, σ = [some (.str (SX.S t)), some (.ref q), some (.ref en), some (.ref sn), v, v2]) ?_ ?_ ?_
      · exact ⟨(s1.trans s2).trans s3, (s2.trans s3).at hq, rfl, hsn, ⟨[], rfl, hen3, fun e he => nomatch he⟩, _, _, rfl⟩
      · rintro i σ H4 hi ⟨s4, hq4, hs, hs4, ⟨es, es1, es2, es3⟩, v, v2, rfl⟩
        obtain ⟨l, hl2⟩ : ∃ l, (mid (lnL t))[i]? = some l := ⟨_, List.getElem?_eq_getElem (by omega)⟩
        have hlen := ln_part (mid_mem (List.mem_of_getElem? hl2))
        rw [scan_at hl2] at hs
        have hesl : es.length ≤ 100000 := by
          have := congrArg List.length es1
          rw [List.length_map, List.length_map, List.length_take] at this
          omega
        generalize hseen : ((mid (lnL t)).take i).map w0 = seen at hs hs4
        have hsl : seen.length ≤ i := by rw [← hseen, List.length_map]; exact List.length_take_le _ _
        walk_at "lw"
        refine g_rix (SqL.of hq4) (atI_map (atI_nat hl2)) ?_
        refine g_rstr (x := SX.S l) ?_
        walk_at "lw"
        refine g_spl (by decide +kernel) (by rw [SX.S_len]; exact Nat.le_trans (show l.length + 2 ≤ 100002 by omega) (by decide)) fun wq H5 nwq s5 hwq => ?_
        rw [split_wd, List.map_map] at hwq
        have hwq : H5 wq = some (.lst ((wdL l).map strS)) := hwq
        have s45 := s4.trans s5
        have bad : okLine true seen l = false → scan true [] 1 (mid (lnL t)) = some (1 + i) := fun hb => by
          rw [hs, if_neg (by rw [hb]; decide)]
        walk_at "lw"
        rw [List.length_map]
        refine ifn2 (fun w2 => ?_) (fun w2 => ?_)
        · have w2 : (wdL l).length = 2 := by have := int_eq.mp w2; omega
          have hw0 := w0_len l
          have hw1 := w1_len w2
          walk_at "lw"
          refine g_rix (SqL.of hwq) (atI_map (atI_nat (j := 0) w0_at)) ?_
          walk_at "lw"
          refine ⟨w0 l, rfl, by omega, ?_⟩
          walk_at "lw"
          cases hp : isPlat (w0 l) with
          | false =>
            walk_at "lw"
            exact g_rmkO fun d H6 _ s6 hd => kx.mk (bad (by unfold okLine; rw [if_pos rfl, hp, Bool.false_and, Bool.and_false])) (by omega) d H6 (s45.trans s6) hd
          | true =>
            walk_at "lw"
            refine g_rix (SqL.of hwq) (atI_map (atI_nat (j := 1) (w1_at w2))) ?_
            walk_at "lw"
            refine ⟨w1 l, rfl, by omega, ?_⟩
            walk_at "lw"
            cases ha : isAdr (w1 l) with
            | false =>
              walk_at "lw"
              exact g_rmkO fun d H6 _ s6 hd => kx.mk (bad (by unfold okLine; rw [if_pos rfl, ha, Bool.false_and, Bool.and_false, Bool.and_false])) (by omega) d H6 (s45.trans s6) hd
            | true =>
              walk_at "lw"
              refine g_rix (SqL.of hwq) (atI_map (atI_nat (j := 0) w0_at)) ?_
              walk_at "lw"
              refine g_rdinS (.of (s5.at hs4)) ?_
              rw [valV_mkS]
              by_cases hin : w0 l ∈ seen
              · rw [if_pos (S_mem.mpr hin)]
                walk_at "lw"
                exact g_rmkO fun d H6 _ s6 hd => kx.mk (bad (by unfold okLine; rw [if_pos rfl, decide_eq_true hin, Bool.not_true, Bool.and_false, Bool.and_false, Bool.and_false])) (by omega) d H6 (s45.trans s6) hd
              · rw [if_neg (fun z => hin (S_mem.mp z))]
                have good : okLine true seen l = true := by
                  unfold okLine
                  rw [if_pos rfl, decide_eq_true w2, hp, ha, decide_eq_false hin]
                  rfl
                rw [if_pos good] at hs
                walk_at "lw"
                refine g_rix (SqL.of hwq) (atI_map (atI_nat (j := 0) w0_at)) ?_
                walk_at "lw"
                refine g_rdputS (s5.at hs4) (by rw [mkS_len, List.length_map]; omega) fun H6 h6 k6 => ?_
                rw [putK_mkS_new (fun z => hin (S_mem.mp z))] at h6
                have nws : wq ≠ sn := ne_of hwq (s5.at hs4) (by intro z; cases z)
                have hwq6 : H6 wq = some (.lst ((wdL l).map strS)) := by rw [k6 wq nws]; exact hwq
                have s6 := s45.chg n0s k6
                have en6 : H6 en = some (.lst (es.map fun e => V.ref e.1)) := by rw [k6 en nes]; exact s5.at es2
                have q6 : H6 q = some (.lst ((mid (lnL t)).map strS)) := by rw [k6 q nqs]; exact s5.at hq4
                have t6 : ∀ e ∈ es, H6 e.1 = some (.tup [strS e.2.1, strS e.2.2]) := fun e he => by
                  have := s5.at (es3 e he)
                  rw [k6 e.1 (ne_of this (s5.at hs4) (by intro z; cases z))]
                  exact this
                walk_at "lw"
                refine g_tyL en6 ?_
                walk_at "lw"
                refine g_rix (SqL.of hwq6) (atI_map (atI_nat (j := 0) w0_at)) ?_
                walk_at "lw"
                refine g_rix (SqL.of hwq6) (atI_map (atI_nat (j := 1) (w1_at w2))) ?_
                walk_at "lw"
                refine g_ktup (by show 2 ≤ 100; decide) fun tp H7 _ s7 htp => ?_
                walk_at "lw"
                refine g_append (s7.at en6) (by rw [List.length_map]; have := congrArg List.length es1; rw [List.length_map, List.length_map, List.length_take] at this; omega) fun H8 h8 k8 => ?_
                walk_at "lw"
                have s8 := (s6.trans s7).chg n0e k8
                have hesn : (mid (lnL t)).take (i + 1) = (mid (lnL t)).take i ++ [l] := take_ok hl2
                refine ⟨s8, by rw [k8 q neq]; exact s7.at q6, ?_, ?_, ⟨es ++ [(tp, w0 l, w1 l)], ?_, ?_, fun e he => ?_⟩, _, _, rfl⟩
                · rw [hs, hesn, List.map_append, hseen, Nat.add_assoc]
                  rfl
                · rw [k8 sn nes.symm, s7.at h6, hesn, List.map_append, hseen, List.map_append]
                  congr 2
                  refine mkS_congr fun j _ => ?_
                  split <;> rfl
                · rw [List.map_append, es1, hesn, List.map_append]
                  rfl
                · rw [h8, List.map_append]
                  rfl
                · rcases List.mem_append.mp he with z | z
                  · have := s7.at (t6 e z)
                    rw [k8 e.1 (ne_of this (s7.at en6) (by intro z; cases z))]
                    exact this
                  · rw [List.mem_singleton.mp z, k8 tp (ne_of htp (s7.at en6) (by intro z; cases z))]
                    exact htp
        · have w2 : ¬ (wdL l).length = 2 := fun z => w2 (by rw [z]; rfl)
          walk_at "lw"
          exact g_rmkO fun d H6 _ s6 hd => kx.mk (bad (by unfold okLine; rw [if_pos rfl, decide_eq_false w2, Bool.false_and])) (by omega) d H6 (s45.trans s6) hd
      · rintro σ H4 ⟨s4, hq4, hs, hs4, hes, v, v2, rfl⟩
        rw [show ((mid (lnL t)).length : Int).toNat = (mid (lnL t)).length by omega] at hs hes
        rw [List.drop_length] at hs
        rw [List.take_length] at hes
        walk_at "lw"
        exact k hs en H4 s4 hes
theorem ok_references (T : Txt w K mg C_Claims C_Collector C_Store C_Uploads C_Registry C_Refused C_Malformed a_KINDS a_BELOW a_CLAIMED) : CalX P w K mg base 5 "references" (spRefs C_Malformed) := by
  have c_read_image : CalX P w K mg base 4 "read_image" (spReadI C_Malformed) := ok_read_image T
  have c_read_bundle : CalX P w K mg base 4 "read_bundle" (spReadB C_Malformed) := ok_read_bundle T
  refine calX_mk T.d_references sc_references (fun vs H Q E h => ?_) (fun f cdv A outer s H vs Q E hr h => ?_)
  · obtain ⟨kd, t, rfl, _⟩ := h
    rfl
  · obtain ⟨kd, t, rfl, hl, k, kx⟩ := h
    refine ⟨_, (pss_cons (ps_if (pt_cmpR op_eq (pv 0) (pe_str) (nomark _)) (pss_one (ps_ret (pe_lst pa_nil))) pss_nil)
      (pss_cons (ps_if (pt_cmpR op_eq (pv 0) (pe_str) (nomark _)) (pss_one (ps_ret (pe_cX c_read_image (takes_of rfl rfl rfl rfl) hr (by first | decide | omega) rfl (pa_cons (pv 1) pa_nil)))) pss_nil)
      (pss_one (ps_ret (pe_lc (own := [("platform", 2), ("address", 3)]) (g := (gTup K 2 (gCons (gName 2) (gCons (gName 3) gNil)))) (by rfl) sc_references.nd (pi_list (pe_cX c_read_bundle (takes_of rfl rfl rfl rfl) hr (by first | decide | omega) rfl (pa_cons (pv 1) pa_nil))) (blkOk_by (own := [("platform", 2), ("address", 3)]) (N := n_references) (sc := defScope s_references) (by decide +kernel)) (fun _ _ _ _ _ => (pg_tup (by rfl) (pgs_cons (pg_name (i := 2) sc_references.nd rfl (by first | exact Or.inl rfl | exact Or.inr rfl)) (pgs_cons (pg_name (i := 3) sc_references.nd rfl (by first | exact Or.inl rfl | exact Or.inr rfl)) pgs_nil)))) (fun _ _ _ _ _ => pts_nil) (fun _ _ _ _ _ => (pv 3))))))), ?_⟩
    unfold faultK refsL at k
    unfold faultK at kx
    walk_at "lw"
    refine if2 (fun h1 => ?_) (fun h1 => ?_)
    · have h1 := str_eq.mp h1
      rw [if_pos h1, if_pos h1] at k
      walk_at "lw"
      exact g_klst (by show 0 ≤ 100; decide) fun q H1 _ s1 hq => k rfl q H1 s1 hq
    · have h1 : ¬ kd = "layer" := fun z => h1 (by rw [z])
      rw [if_neg h1] at k kx
      rw [if_neg h1] at k
      walk_at "lw"
      refine if2 (fun h2 => ?_) (fun h2 => ?_)
      · have h2 := str_eq.mp h2
        rw [decide_eq_true h2, Bool.not_true] at kx
        rw [decide_eq_true h2, Bool.not_true, if_pos h2] at k
        walk_at "lw"
        exact ⟨t, rfl, hl, k, kx⟩
      · have h2 : ¬ kd = "image" := fun z => h2 (by rw [z])
        rw [decide_eq_false h2, Bool.not_false] at kx
        rw [decide_eq_false h2, Bool.not_false, if_neg h2] at k
        walk_at "lw"
        refine ⟨t, rfl, hl, fun hf q H1 s1 hq => ?_, kx⟩
        obtain ⟨es, es1, es2, es3⟩ := hq
        have hz : es.length ≤ 100000 := by
          have := congrArg List.length es1
          unfold prs at this
          rw [List.length_map, List.length_map, mid_len] at this
          have := ln_le t
          omega
        refine g_ritL (SqL.of es2) ?_
        refine lc_map (G := fun H' => SqL K H' q (es.map fun e => V.ref e.1)) walk_list (fun H' s => SqL.of (s _ _ es2)) (by rw [List.length_map]; exact hz) (fun _ => true)
          (fun v => match v with | .ref a => (match H1 a with | some (.tup [_, y]) => y | _ => .non) | _ => .non) ?_ ?_
        · intro x hx H' R s2 kk
          obtain ⟨e, he, rfl⟩ := List.mem_map.mp hx
          have h3 := es3 e he
          refine g_gtup (SqT.of (s2 _ _ h3)) rfl ?_
          walk_at "lw"
          refine kk _ rfl (fun H'' R s3 r => ?_) (fun hp' H'' R s3 r => ?_)
          · walk_at "lw"
            exact r
          · walk_at "lw"
            have r := r H'' (Same.refl _)
            simp only [h3] at r
            exact r
        · intro q2 H2 nq2 s2 hq2
          rw [List.filter_eq_self.mpr (fun _ _ => rfl), List.map_map] at hq2
          have e : es.map ((fun v => match v with | .ref a => (match H1 a with | some (.tup [_, y]) => y | _ => .non) | _ => .non) ∘ fun e => V.ref e.1) = ((prs t).map (·.2)).map strS := by
            rw [← es1, List.map_map, List.map_map]
            refine List.map_congr_left fun e he => ?_
            simp only [Function.comp, es3 e he]
          rw [e] at hq2
          walk_at "lw"
          exact k hf q2 H2 (s1.trans s2) hq2
end
end Lw

/-! ## what was written is read -/
namespace Lw
open PySem L2
theorem joinL_lines : ∀ (as : List (List Nat)) (x : List Nat), TL.joinL [10] (x :: (as ++ [[]])) = x ++ [10] ++ (as.map fun a => a ++ [10]).flatten
  | [], x => by simp [TL.joinL]
  | a :: r, x => by
    show x ++ ([10] ++ TL.joinL [10] (a :: (r ++ [[]]))) = _
    rw [joinL_lines r a, List.map_cons, List.flatten_cons]
    simp only [List.append_assoc]
theorem imgL_join (as : List (List Nat)) : imgL as = TL.joinL [10] (imgW :: (as ++ [[]])) := by
  rw [joinL_lines]
  rfl
theorem bunL_join (ps : List (List Nat × List Nat)) : bunL ps = TL.joinL [10] (bunW :: ((ps.map fun e => e.1 ++ [32] ++ e.2) ++ [[]])) := by
  rw [joinL_lines, List.map_map]
  rfl
theorem ln_imgL {as : List (List Nat)} (h : ∀ a ∈ as, 10 ∉ a) : lnL (imgL as) = imgW :: (as ++ [[]]) := by
  unfold lnL
  rw [imgL_join]
  refine TL.spl_join (by simp) fun p hp => ?_
  rcases List.mem_cons.mp hp with z | z
  · rw [z]; decide
  · rcases List.mem_append.mp z with y | y
    · exact h p y
    · rw [List.mem_singleton.mp y]; simp
theorem ln_bunL {ps : List (List Nat × List Nat)} (h : ∀ e ∈ ps, 10 ∉ e.1 ∧ 10 ∉ e.2) : lnL (bunL ps) = bunW :: ((ps.map fun e => e.1 ++ [32] ++ e.2) ++ [[]]) := by
  unfold lnL
  rw [bunL_join]
  refine TL.spl_join (by simp) fun p hp => ?_
  rcases List.mem_cons.mp hp with z | z
  · rw [z]; decide
  · rcases List.mem_append.mp z with y | y
    · obtain ⟨e, he, rfl⟩ := List.mem_map.mp y
      obtain ⟨h1, h2⟩ := h e he
      simp only [List.mem_append, List.mem_singleton]
      rintro ((z | z) | z)
      · exact h1 z
      · cases z
      · exact h2 z
    · rw [List.mem_singleton.mp y]; simp
theorem mid_of (x : List Nat) (as : List (List Nat)) : mid (x :: (as ++ [[]])) = as := by
  unfold mid
  rw [List.drop_succ_cons, List.drop_zero, List.dropLast_concat]
theorem adr_no {a : List Nat} (h : isAdr a = true) {c : Nat} (hc : c ∉ hexS) : c ∉ a := fun z => by
  unfold isAdr at h
  rw [Bool.and_eq_true] at h
  exact hc (of_decide_eq_true (List.all_eq_true.mp h.2 c z))
theorem adr_len {a : List Nat} (h : isAdr a = true) : a.length = 16 := by
  unfold isAdr at h
  rw [Bool.and_eq_true] at h
  exact beq_iff_eq.mp h.1
theorem plat_no {a : List Nat} (h : isPlat a = true) {c : Nat} (hc : c ∉ lowS) : c ∉ a := fun z => by
  unfold isPlat at h
  rw [Bool.and_eq_true] at h
  exact hc (of_decide_eq_true (List.all_eq_true.mp h.2 c z))
theorem plat_len {a : List Nat} (h : isPlat a = true) : a.length ≤ 10 := by
  unfold isPlat at h
  rw [Bool.and_eq_true, Bool.and_eq_true] at h
  exact of_decide_eq_true h.1.2
theorem wd_pair {p a : List Nat} (hp : 32 ∉ p) (ha : 32 ∉ a) : wdL (p ++ [32] ++ a) = [p, a] := by
  unfold wdL
  have e : p ++ [32] ++ a = TL.joinL [32] [p, a] := by show _ = p ++ ([32] ++ a); rw [List.append_assoc]
  rw [e]
  refine TL.spl_join (by simp) fun q hq => ?_
  simp only [List.mem_cons, List.not_mem_nil, or_false] at hq
  rcases hq with rfl | rfl <;> assumption
theorem scan_img : ∀ {as : List (List Nat)} {s : List (List Nat)} {i : Nat}, (∀ a ∈ as, isAdr a = true) → scan false s i as = none
  | [], _, _, _ => rfl
  | a :: r, s, i, h => by
    unfold scan
    rw [if_pos (show okLine false s a = true from by unfold okLine; rw [if_neg (by decide)]; exact h a List.mem_cons_self)]
    exact scan_img fun b hb => h b (List.mem_cons_of_mem _ hb)
theorem fault3_of {h : List Nat} {t : List Nat} {as : List (List Nat)} (e : lnL t = h :: (as ++ [[]])) : fault3 h t = if 50 < as.length then some 51 else none := by
  unfold fault3
  have h1 : (lnL t).getD 0 [] = h := by rw [e]; rfl
  have hl : (lnL t).length = as.length + 2 := by rw [e]; simp
  have h2 : (lnL t).getD ((lnL t).length - 1) [] = [] := by
    rw [hl, e, List.getD_eq_getElem?_getD, show as.length + 2 - 1 = as.length + 1 from rfl, List.getElem?_cons_succ, List.getElem?_append_right (Nat.le_refl _), Nat.sub_self]
    rfl
  rw [if_neg (fun z => z h1), if_neg (fun z => z h2), hl]
  by_cases hh : 50 < as.length
  · rw [if_pos hh, if_pos (by omega)]
  · rw [if_neg hh, if_neg (by omega)]
theorem fault_img {as : List (List Nat)} (h : ∀ a ∈ as, isAdr a = true) (hl : as.length ≤ 50) : fault false (imgL as) = none ∧ mid (lnL (imgL as)) = as := by
  have e := ln_imgL fun a ha => adr_no (h a ha) (c := 10) (by decide)
  have e3 := fault3_of e
  rw [if_neg (by omega)] at e3
  have em : mid (lnL (imgL as)) = as := by rw [e, mid_of]
  refine ⟨?_, em⟩
  rw [fault_scan (b := false) e3 (fun z => by cases z.1), em]
  exact scan_img h
theorem fault_img51 {as : List (List Nat)} (h : ∀ a ∈ as, isAdr a = true) (hl : as.length = 51) : fault false (imgL as) = some 51 := by
  have e := ln_imgL fun a ha => adr_no (h a ha) (c := 10) (by decide)
  have e3 := fault3_of e
  rw [if_pos (by omega)] at e3
  exact fault_of3 (b := false) e3
/-- pairs that a bundle may have -/
structure WFB (ps : List (List Nat × List Nat)) : Prop where
  all : ∀ e ∈ ps, isPlat e.1 = true ∧ isAdr e.2 = true
  nd : (ps.map (·.1)).Nodup
  ne : ps ≠ []
  le : ps.length ≤ 50
theorem w0_pair {e : List Nat × List Nat} (h : isPlat e.1 = true ∧ isAdr e.2 = true) : w0 (e.1 ++ [32] ++ e.2) = e.1 := by
  unfold w0
  rw [wd_pair (plat_no h.1 (by decide)) (adr_no h.2 (by decide))]
  rfl
theorem w1_pair {e : List Nat × List Nat} (h : isPlat e.1 = true ∧ isAdr e.2 = true) : w1 (e.1 ++ [32] ++ e.2) = e.2 := by
  unfold w1
  rw [wd_pair (plat_no h.1 (by decide)) (adr_no h.2 (by decide))]
  rfl
theorem scan_bun : ∀ {ps : List (List Nat × List Nat)} {s : List (List Nat)} {i : Nat}, (∀ e ∈ ps, isPlat e.1 = true ∧ isAdr e.2 = true) → (ps.map (·.1)).Nodup → (∀ e ∈ ps, e.1 ∉ s) → scan true s i (ps.map fun e => e.1 ++ [32] ++ e.2) = none
  | [], _, _, _, _, _ => rfl
  | e :: r, s, i, h, hn, hs => by
    have he := h e List.mem_cons_self
    rw [List.map_cons, List.nodup_cons] at hn
    rw [List.map_cons]
    unfold scan
    have e0 := w0_pair he
    have e1 := w1_pair he
    have ew : (wdL (e.1 ++ [32] ++ e.2)).length = 2 := by rw [wd_pair (plat_no he.1 (by decide)) (adr_no he.2 (by decide))]; rfl
    rw [if_pos (show okLine true s (e.1 ++ [32] ++ e.2) = true from by
      unfold okLine
      rw [if_pos rfl, decide_eq_true ew, e0, e1, he.1, he.2, decide_eq_false (hs e List.mem_cons_self)]
      rfl)]
    rw [e0]
    refine scan_bun (fun b hb => h b (List.mem_cons_of_mem _ hb)) hn.2 fun b hb z => ?_
    rcases List.mem_append.mp z with y | y
    · exact hs b (List.mem_cons_of_mem _ hb) y
    · exact hn.1 (by rw [← List.mem_singleton.mp y]; exact List.mem_map.mpr ⟨b, hb, rfl⟩)
theorem fault_bun {ps : List (List Nat × List Nat)} (W : WFB ps) : fault true (bunL ps) = none ∧ prs (bunL ps) = ps := by
  have e := ln_bunL fun p hp => ⟨plat_no (W.all p hp).1 (c := 10) (by decide), adr_no (W.all p hp).2 (c := 10) (by decide)⟩
  have e3 := fault3_of e
  rw [List.length_map, if_neg (by have := W.le; omega)] at e3
  have em : mid (lnL (bunL ps)) = ps.map fun p => p.1 ++ [32] ++ p.2 := by rw [e, mid_of]
  refine ⟨?_, ?_⟩
  · rw [fault_scan (b := true) e3 (fun z => ?_), em]
    · exact scan_bun W.all W.nd (fun _ _ z => nomatch z)
    · have := z.2
      rw [e] at this
      simp at this
      exact W.ne this
  · unfold prs
    rw [em, List.map_map]
    conv => rhs; rw [← List.map_id ps]
    refine List.map_congr_left fun p hp => ?_
    show (w0 _, w1 _) = p
    rw [w0_pair (W.all p hp), w1_pair (W.all p hp)]
end Lw

namespace Lw
open PySem L2
theorem op_inK {X : Cx} (K : PySem.W.Frag) (h : X.K = K) : OpR X (compareOp .In) (rIn K false) := by subst h; exact op_in_seq
theorem op_notInK {X : Cx} (K : PySem.W.Frag) (h : X.K = K) : OpR X (compareOp .NotIn) (rIn K true) := by subst h; exact op_notIn_seq
/-- a comprehension whose items are drawn and hang on the heap (on tuples alone) -/
theorem lc_drawR {J : It} {xs : List V} {vs : List Nat} {σ : L2.St} {te : TE} {j : Nat} {Q : VK} {c : Addr → Nat} {H : Hp} {S : Addr} (w : Walk J xs.length (fun _ => True) (YAt xs)) (hz : xs.length ≤ 100000) (R : Nat → V → Hp → Prop)
    (mono : ∀ i y H1 H2, (∀ b ys, H1 b = some (.tup ys) → H2 b = some (.tup ys)) → R i y H1 → R i y H2) (hS : StateAt c H S) (hw : ∀ x, wipe ((wipe σ vs).set j (some x)) vs = wipe σ vs)
    (he : ∀ (i : Nat) (x : V) (c1 : Addr → Nat) (H1 : Hp) (Rk : VK), xs[i]? = some x → StateAt c1 H1 S → Stp (fun i => i = 0) c c1 H H1 → (∀ (y : V) (c2 : Addr → Nat) (H2 : Hp), R i y H2 → StateAt c2 H2 S → Stp (fun i => i = 0) c1 c2 H1 H2 → Rk y H2) → te ((wipe σ vs).set j (some x)) H1 Rk)
    (k : ∀ (q : Addr) (ys : List V) (c' : Addr → Nat) (H' : Hp), H q = none → ys.length = xs.length → (∀ (i : Nat) (y : V), ys[i]? = some y → R i y H') → StateAt c' H' S → Stp (fun i => i = 0) c c' H H' → H' q = some (.lst ys) → c' q = 9 → Q (.ref q) H') : kLc (gName j) tYes te vs σ Q J H := by
  intro D hD
  refine lc_it w (fun i H2 => ∃ (l : List V) (c2 : Addr → Nat), l.length = i ∧ (∀ (m : Nat) (y : V), l[m]? = some y → R m y H2) ∧ StateAt c2 H2 S ∧ Stp (fun i => i = 0) c c2 H H2 ∧ c2 D = 9 ∧ H2 D = some (.lst l))
    ⟨[], Stp.paint c D 9, rfl, (fun m y h => (by cases h)), hS.frame (I := fun _ => False) (Stp.newc hD) (by decide), Stp.newc hD, Stp.paint_same, upd_same⟩ (fun _ _ _ _ => trivial) (fun i x H2 H2' hi h y => ?_) (fun H2 h => ?_)
  · obtain ⟨e, hx⟩ := y
    subst e
    obtain ⟨l, c2, h1, h2, S2, st2, cD, hl⟩ := h
    refine ⟨hw x, ?_⟩
    show te _ H2' _
    refine he i x c2 H2' _ hx S2 st2 fun a c3 H3 ga S3 st3 => ?_
    have hD3 := st3.keep _ _ hl (by rw [cD]; decide)
    have tk : ∀ b zs, H3 b = some (.tup zs) → (upd H3 D (.lst (l ++ [a]))) b = some (.tup zs) := fun b zs e => by rw [upd_ne (ne_of e hD3 (by intro z; cases z))]; exact e
    refine ⟨l, hD3, ?_, l ++ [a], c3, by rw [List.length_append, h1]; rfl, fun m y hm => ?_, S3.frame (I := fun i => i = 9) (Stp.own hD3 (by rw [st3.col _ _ hl, cD]) (fun xs z => by cases z)) (by decide), ?_, by rw [st3.col _ _ hl, cD], upd_same⟩
    · rw [h1]
      exact Nat.lt_of_lt_of_le (show i < 200000 by omega) (by decide)
    · by_cases hj : m < l.length
      · rw [List.getElem?_append_left hj] at hm
        exact mono _ _ _ _ (fun b zs e => tk b zs (st3.tup _ _ e)) (h2 m y hm)
      · rw [List.getElem?_append_right (by omega)] at hm
        cases hq : m - l.length with
        | zero =>
          rw [hq] at hm
          cases hm
          have : m = i := by omega
          subst this
          exact mono _ _ _ _ tk ga
        | succ n => rw [hq] at hm; cases hm
    · have st4 := st2.trans st3
      exact ⟨fun b o e n => by rw [upd_ne (ne_of_none e hD)]; exact st4.keep b o e n, st4.col, fun b xs e => by rw [upd_ne (ne_of_none e hD)]; exact st4.tup b xs e, fun b e => by
        by_cases z : b = D
        · subst z; rw [upd_same] at e; cases e
        · rw [upd_ne z] at e; exact st4.fre b e⟩
  · obtain ⟨l, c2, h1, h2, S2, st2, cD, hl⟩ := h
    exact k D l c2 H2 hD h1 h2 S2 st2 hl cD
theorem choose_list {α : Type} {F : α → V} : ∀ {ys : List V} {P : Nat → α → Prop}, (∀ i y, ys[i]? = some y → ∃ a, y = F a ∧ P i a) → ∃ as : List α, ys = as.map F ∧ ∀ i a, as[i]? = some a → P i a
  | [], _, _ => ⟨[], rfl, fun i a h => by cases h⟩
  | y :: ys, P, h => by
    obtain ⟨a, e, p⟩ := h 0 y rfl
    obtain ⟨as, e2, p2⟩ := choose_list (ys := ys) (P := fun i => P (i + 1)) fun i z hz => h (i + 1) z hz
    refine ⟨a :: as, by rw [List.map_cons, e, e2], fun i b hb => ?_⟩
    cases i with
    | zero => cases hb; exact p
    | succ i => exact p2 i b hb
end Lw

/-! ## signs -/
namespace Lw
open PySem L2
open PyProof.Rows (envOfC)
def okC (l : List Nat) : Prop := ∀ c ∈ l, c < 0x110000
theorem spl_chars (s : List Nat) : ∀ (l : List Nat) (k : Nat) (acc : List Nat), ∀ p ∈ TL.spl s k acc l, ∀ c ∈ p, c ∈ acc ∨ c ∈ l
  | [], k, acc, p, h, c, hc => by
    simp [TL.spl] at h
    subst h
    exact .inl hc
  | x :: r, 0, acc, p, h, c, hc => by
    unfold TL.spl at h
    split at h
    · rcases List.mem_cons.mp h with z | z
      · subst z; exact .inl hc
      · rcases spl_chars s r _ _ p z c hc with y | y
        · cases y
        · exact .inr (List.mem_cons_of_mem _ y)
    · rcases spl_chars s r _ _ p h c hc with y | y
      · rcases List.mem_append.mp y with u | u
        · exact .inl u
        · rw [List.mem_singleton.mp u]; exact .inr List.mem_cons_self
      · exact .inr (List.mem_cons_of_mem _ y)
  | x :: r, k + 1, acc, p, h, c, hc => by
    unfold TL.spl at h
    rcases spl_chars s r _ _ p h c hc with y | y
    · exact .inl y
    · exact .inr (List.mem_cons_of_mem _ y)
theorem ln_okC {t p : List Nat} (h : okC t) (hp : p ∈ lnL t) : okC p := fun c hc => by
  rcases spl_chars _ _ _ _ p hp c hc with z | z
  · cases z
  · exact h c z
theorem wd_okC {t p : List Nat} (h : okC t) (hp : p ∈ wdL t) : okC p := fun c hc => by
  rcases spl_chars _ _ _ _ p hp c hc with z | z
  · cases z
  · exact h c z
theorem okS {l : List Nat} (h : okC l) : PyData.strOk (SX.S l) = true := by
  unfold PyData.strOk
  rw [← Array.all_toList, List.all_eq_true]
  intro c hc
  exact decide_eq_true (h c hc)
theorem sh_strs : ∀ (as : List (List Nat)), (∀ a ∈ as, okC a) → PyData.canLayAll0 (as.map fun a => PyData.str (SX.S a)) = true ∧ PyData.depthAll (as.map fun a => PyData.str (SX.S a)) = 0
  | [], _ => ⟨rfl, rfl⟩
  | a :: r, h => by
    obtain ⟨h1, h2⟩ := sh_strs r fun b hb => h b (List.mem_cons_of_mem _ hb)
    have h3 := okS (h a List.mem_cons_self)
    refine ⟨?_, ?_⟩
    · simp only [List.map_cons, PyData.canLayAll0, PyData.canLay0, h1, h3, Bool.and_true]
    · simp only [List.map_cons, PyData.depthAll, PyData.depth, h2, Nat.max_self]
theorem shaped_strs {as : List (List Nat)} (h : ∀ a ∈ as, okC a) : SeqAt.shaped (.list (as.map fun a => PyData.str (SX.S a))) = true := by
  obtain ⟨h1, h2⟩ := sh_strs as h
  unfold SeqAt.shaped
  rw [Bool.and_eq_true, decide_eq_true_eq]
  exact ⟨h1, by simp only [PyData.depth, h2]; decide⟩
theorem dp_strs {K : PySem.W.Frag} {H : Hp} : ∀ (as : List (List Nat)), DpAll K H (as.map strS) (as.map fun a => PyData.str (SX.S a))
  | [] => .nil
  | _ :: r => .cons (.str _) (dp_strs r)
theorem dp_list {K : PySem.W.Frag} {H : Hp} {q : Addr} {as : List (List Nat)} (h : H q = some (.lst (as.map strS))) : Dp K H (.ref q) (.list (as.map fun a => PyData.str (SX.S a))) := .lst (SqL.of h) (dp_strs as)
theorem adr_okC {a : List Nat} (h : isAdr a = true) : okC a := fun c hc => by
  unfold isAdr at h
  rw [Bool.and_eq_true] at h
  have h2 := of_decide_eq_true (List.all_eq_true.mp h.2 c hc)
  have : ∀ c ∈ hexS, c < 0x110000 := by decide
  exact this c h2
theorem plat_okC {a : List Nat} (h : isPlat a = true) : okC a := fun c hc => by
  unfold isPlat at h
  rw [Bool.and_eq_true] at h
  have h2 := of_decide_eq_true (List.all_eq_true.mp h.2 c hc)
  have : ∀ c ∈ lowS, c < 0x110000 := by decide
  exact this c h2
theorem okC_app {a b : List Nat} (h1 : okC a) (h2 : okC b) : okC (a ++ b) := fun c hc => (List.mem_append.mp hc).elim (h1 c) (h2 c)
theorem okC_flat {l : List (List Nat)} (h : ∀ a ∈ l, okC a) : okC l.flatten := fun c hc => by
  obtain ⟨a, ha, hc⟩ := List.mem_flatten.mp hc
  exact h a ha c hc
theorem img_t {as : List (List Nat)} (h : ∀ a ∈ as, isAdr a = true) (hl : as.length ≤ 51) : okC (imgL as) ∧ (imgL as).length ≤ 10000 := by
  unfold imgL
  refine ⟨okC_app (show ∀ c ∈ imgH, c < 0x110000 by decide) (okC_flat fun x hx => ?_), ?_⟩
  · obtain ⟨a, ha, rfl⟩ := List.mem_map.mp hx
    exact okC_app (adr_okC (h a ha)) (show ∀ c ∈ [10], c < 0x110000 by decide)
  · rw [List.length_append]
    have := flat_le (l := as.map fun a => a ++ [10]) (m := 17) fun x hx => by
      obtain ⟨a, ha, rfl⟩ := List.mem_map.mp hx
      rw [List.length_append, adr_len (h a ha)]
      decide
    rw [List.length_map] at this
    have h6 : imgH.length = 6 := rfl
    omega
theorem bun_t {ps : List (List Nat × List Nat)} (W : WFB ps) : okC (bunL ps) ∧ (bunL ps).length ≤ 10000 := by
  unfold bunL
  refine ⟨okC_app (show ∀ c ∈ bunH, c < 0x110000 by decide) (okC_flat fun x hx => ?_), ?_⟩
  · obtain ⟨e, he, rfl⟩ := List.mem_map.mp hx
    obtain ⟨h1, h2⟩ := W.all e he
    exact okC_app (okC_app (okC_app (plat_okC h1) (show ∀ c ∈ [32], c < 0x110000 by decide)) (adr_okC h2)) (show ∀ c ∈ [10], c < 0x110000 by decide)
  · rw [List.length_append]
    have := flat_le (l := ps.map fun e => e.1 ++ [32] ++ e.2 ++ [10]) (m := 28) fun x hx => by
      obtain ⟨e, he, rfl⟩ := List.mem_map.mp hx
      obtain ⟨h1, h2⟩ := W.all e he
      simp only [List.length_append, List.length_cons, List.length_nil]
      have := plat_len h1
      have := adr_len h2
      omega
    rw [List.length_map] at this
    have h7 : bunH.length = 7 := rfl
    have := W.le
    omega
end Lw

/-! ## the store -/
namespace Lw
open PySem L2
open PyProof.Rows (envOfC sortedS)
inductive Kd | lay | img | bun
  deriving DecidableEq
def Kd.s : Kd → Str
  | .lay => "layer" | .img => "image" | .bun => "bundle"
def Kd.rk : Kd → Nat
  | .lay => 0 | .img => 1 | .bun => 2
/-- the kind below -/
def Kd.lo : Kd → Option Kd
  | .lay => none | .img => some .lay | .bun => some .img
theorem Kd.s_inj {a b : Kd} : a.s = b.s ↔ a = b := by
  constructor
  · intro h
    cases a <;> cases b <;> first | rfl | exact absurd h (by decide +kernel)
  · intro h; rw [h]
theorem Kd.s_kind (a : Kd) : a.s ∈ kinds3 := by cases a <;> decide +kernel
theorem Kd.s_ok (a : Kd) : PyData.strOk a.s = true := by cases a <;> decide +kernel
theorem Kd.lo_rk {a b : Kd} (h : a.lo = some b) : b.rk < a.rk := by
  cases a <;> cases h <;> decide
structure Bl where
  k : Kd
  t : List Nat
  deriving DecidableEq
def Bl.refs (b : Bl) : List (List Nat) := refsL b.k.s b.t
structure Bl.Ok (b : Bl) : Prop where
  f : faultK b.k.s b.t = none
  l : b.t.length ≤ 10000
  c : okC b.t
def adrB (b : Bl) : Str := SX.S (adrL b.k.s b.t)
def putS (ks : List Str) (a : Str) : List Str := if a ∈ ks then ks else ks ++ [a]
def updB (B : Str → Bl) (a : Str) (b : Bl) : Str → Bl := fun x => if x = a then b else B x
theorem updB_same {B : Str → Bl} {a : Str} {b : Bl} : updB B a b a = b := if_pos rfl
theorem updB_ne {B : Str → Bl} {a x : Str} {b : Bl} (h : x ≠ a) : updB B a b x = B x := if_neg h
theorem mem_putS {ks : List Str} {a x : Str} : x ∈ putS ks a ↔ x ∈ ks ∨ x = a := by
  unfold putS
  split
  · rename_i h
    exact ⟨.inl, fun z => z.elim id fun e => by rw [e]; exact h⟩
  · rw [List.mem_append, List.mem_singleton]
theorem putS_nd {ks : List Str} {a : Str} (h : ks.Nodup) : (putS ks a).Nodup := by
  unfold putS
  split
  · exact h
  · rename_i z
    rw [List.nodup_append]
    exact ⟨h, by simp, fun x hx y hy e => z (by rw [← List.mem_singleton.mp hy, ← e]; exact hx)⟩
theorem putS_len {ks : List Str} {a : Str} : (putS ks a).length ≤ ks.length + 1 := by
  unfold putS
  split
  · omega
  · rw [List.length_append]; exact Nat.le_refl _
theorem putK_S {ks : List Str} {A : Str → V} {a : Str} {v : V} : putK (mkS ks A) (kS a) v = mkS (putS ks a) (fun j => if j = a then v else A j) := by
  unfold putS
  split
  · rename_i h; exact putK_mkS_old h
  · rename_i h; exact putK_mkS_new h
/-- a dict d of the blobs B at the addresses ks; A: where their pairs lie -/
def BlobD (H : Hp) (d : Addr) (ks : List Str) (B : Str → Bl) : Prop := ∃ A : Str → Addr, H d = some (.dK (mkS ks fun a => .ref (A a))) ∧ ∀ a ∈ ks, H (A a) = some (.tup [.str (B a).k.s, strS (B a).t])
theorem BlobD.tup {H H' : Hp} {d : Addr} {ks : List Str} {B : Str → Bl} (h : BlobD H d ks B) (h1 : H' d = H d) (h2 : ∀ b xs, H b = some (.tup xs) → H' b = some (.tup xs)) : BlobD H' d ks B := by
  obtain ⟨A, a1, a2⟩ := h
  exact ⟨A, by rw [h1]; exact a1, fun a ha => h2 _ _ (a2 a ha)⟩
theorem BlobD.same {H H' : Hp} {d : Addr} {ks : List Str} {B : Str → Bl} (h : BlobD H d ks B) (s : Same H H') : BlobD H' d ks B := by
  obtain ⟨A, a1, a2⟩ := id h
  exact h.tup (by rw [a1]; exact s.at a1) fun b xs e => s.at e
/-- the dict behind d[a] = (kind, text) -/
theorem BlobD.put {H H' : Hp} {d t : Addr} {ks : List Str} {B : Str → Bl} {b : Bl} {a : Str} {A : Str → Addr} (h1 : H d = some (.dK (mkS ks fun a => .ref (A a)))) (h2 : ∀ a ∈ ks, H (A a) = some (.tup [.str (B a).k.s, strS (B a).t])) (ht : H t = some (.tup [.str b.k.s, strS b.t]))
    (hd : H' d = some (.dK (putK (mkS ks fun a => .ref (A a)) (kS a) (.ref t)))) (k : ∀ x, x ≠ d → H' x = H x) : BlobD H' d (putS ks a) (updB B a b) := by
  refine ⟨fun x => if x = a then t else A x, ?_, fun x hx => ?_⟩
  · rw [hd, putK_S]
    congr 2
    refine mkS_congr fun j _ => ?_
    dsimp only
    split <;> rfl
  · dsimp only
    by_cases e : x = a
    · subst e
      rw [if_pos rfl, updB_same, k t (ne_of ht h1 (by intro z; cases z))]
      exact ht
    · rw [if_neg e, updB_ne e]
      have hk : x ∈ ks := (mem_putS.mp hx).resolve_right e
      have := h2 x hk
      rw [k _ (ne_of this h1 (by intro z; cases z))]
      exact this
theorem BlobD.del {H H' : Hp} {d : Addr} {ks : List Str} {B : Str → Bl} {a : Str} {A : Str → Addr} (h1 : H d = some (.dK (mkS ks fun a => .ref (A a)))) (h2 : ∀ a ∈ ks, H (A a) = some (.tup [.str (B a).k.s, strS (B a).t]))
    (hd : H' d = some (.dK (dropK (mkS ks fun a => .ref (A a)) (kS a)))) (k : ∀ x, x ≠ d → H' x = H x) : BlobD H' d (ks.filter fun j => decide (j ≠ a)) B := by
  refine ⟨A, by rw [hd, dropK_mkS], fun x hx => ?_⟩
  have := h2 x (List.mem_filter.mp hx).1
  rw [k _ (ne_of this h1 (by intro z; cases z))]
  exact this
structure StoreAt (C : Addr) (c : Addr → Nat) (H : Hp) (p : Addr) (ks : List Str) (B : Str → Bl) : Prop where
  ex : ∃ (dx d : Addr), c p = 1 ∧ H p = some (.ins C dx (f_Store (.ref d))) ∧ c d = 1 ∧ BlobD H d ks B
theorem StoreAt.frame {I : Nat → Prop} {C : Addr} {c c' : Addr → Nat} {H H' : Hp} {p : Addr} {ks : List Str} {B : Str → Bl} (h : StoreAt C c H p ks B) (s : Stp I c c' H H') (hi : ¬ I 1) : StoreAt C c' H' p ks B := by
  obtain ⟨dx, d, h1, h2, h3, A, h4, h5⟩ := h.ex
  exact ⟨dx, d, by rw [s.col _ _ h2, h1], s.keep _ _ h2 (by rw [h1]; exact hi), by rw [s.col _ _ h4, h3], A, s.keep _ _ h4 (by rw [h3]; exact hi), fun a ha => s.tup _ _ (h5 a ha)⟩
theorem StoreAt.same {C : Addr} {c : Addr → Nat} {H H' : Hp} {p : Addr} {ks : List Str} {B : Str → Bl} (h : StoreAt C c H p ks B) (s : Same H H') : StoreAt C c H' p ks B := h.frame (Stp.same (I := fun _ => False) s) (fun z => z)
/-- the blobs below are there, of the kind below, and whole -/
def wh (ks : List Str) (B : Str → Bl) : Nat → Str → Bool
  | 0, _ => false
  | n + 1, a => decide (a ∈ ks) && (B a).refs.all fun r => decide (SX.S r ∈ ks) && (decide ((B a).k.lo = some (B (SX.S r)).k) && wh ks B n (SX.S r))
def addD (l : List Str) (x : Str) : List Str := if x ∈ l then l else l ++ [x]
def clo (B : Str → Bl) : Nat → Str → List Str
  | 0, a => [a]
  | n + 1, a => (B a).refs.foldl (fun f r => (clo B n (SX.S r)).foldl addD f) [a]
structure SWf (ks : List Str) (B : Str → Bl) : Prop where
  nd : ks.Nodup
  ok : ∀ a ∈ ks, (B a).Ok
theorem SWf.put {ks : List Str} {B : Str → Bl} (h : SWf ks B) {a : Str} {b : Bl} (hb : b.Ok) : SWf (putS ks a) (updB B a b) := by
  refine ⟨putS_nd h.nd, fun x hx => ?_⟩
  by_cases e : x = a
  · subst e; rw [updB_same]; exact hb
  · rw [updB_ne e]; exact h.ok x ((mem_putS.mp hx).resolve_right e)
theorem SWf.del {ks : List Str} {B : Str → Bl} (h : SWf ks B) (a : Str) : SWf (ks.filter fun j => decide (j ≠ a)) B := ⟨h.nd.filter _, fun x hx => h.ok x (List.mem_filter.mp hx).1⟩
theorem refs_lay {b : Bl} (h : b.k = .lay) : b.refs = [] := by
  unfold Bl.refs refsL
  rw [h]
  exact if_pos rfl
theorem fault_lay (t : List Nat) : faultK "layer" t = none := if_pos rfl
theorem refs_len {b : Bl} (h : b.Ok) : b.refs.length ≤ 10001 := by
  have h1 := ln_le b.t
  have h2 := h.l
  have h3 := mid_len (lnL b.t)
  unfold Bl.refs refsL prs
  split
  · exact Nat.zero_le _
  · split
    · omega
    · rw [List.length_map, List.length_map]; omega
theorem dec_in {ks : List Str} {A : Str → V} {a : Str} : (valV (mkS ks A) (kS a)).isSome = decide (a ∈ ks) := by
  rw [valV_mkS]
  by_cases h : a ∈ ks
  · rw [if_pos h, decide_eq_true h]; rfl
  · rw [if_neg h, decide_eq_false h]; rfl
def spSInit (C : Addr) : Sp := fun vs H Q _ => ∃ (p dx : Addr), vs = [.ref p] ∧ H p = some (.ins C dx []) ∧
  ∀ d H', H d = none → H' p = some (.ins C dx (f_Store (.ref d))) → H' d = some (.dK []) → (∀ b o, H b = some o → b ≠ p → H' b = some o) → Q .non H'
def spKeep (C : Addr) : Sp := fun vs H Q _ => ∃ (c : Addr → Nat) (p : Addr) (ks : List Str) (B : Str → Bl) (b : Bl), vs = [.ref p, .str b.k.s, .str (SX.S b.t)] ∧ StoreAt C c H p ks B ∧ ks.length ≤ 10000 ∧
  ∀ H', StoreAt C c H' p (putS ks (adrB b)) (updB B (adrB b) b) → Stp (fun i => i = 1) c c H H' → Q (.str (adrB b)) H'
def spBlob (C : Addr) : Sp := fun vs H Q _ => ∃ (c : Addr → Nat) (p : Addr) (ks : List Str) (B : Str → Bl) (a : Str), vs = [.ref p, .str a] ∧ StoreAt C c H p ks B ∧
  (a ∉ ks → Q .non H) ∧ (a ∈ ks → ∀ t, H t = some (.tup [.str (B a).k.s, strS (B a).t]) → Q (.ref t) H)
def spRemove (C : Addr) : Sp := fun vs H Q _ => ∃ (c : Addr → Nat) (p : Addr) (ks : List Str) (B : Str → Bl) (a : Str), vs = [.ref p, .str a] ∧ StoreAt C c H p ks B ∧ a ∈ ks ∧
  ∀ H', StoreAt C c H' p (ks.filter fun j => decide (j ≠ a)) B → Stp (fun i => i = 1) c c H H' → Q .non H'
def spAdrs (C : Addr) : Sp := fun vs H Q _ => ∃ (c : Addr → Nat) (p : Addr) (ks : List Str) (B : Str → Bl), vs = [.ref p] ∧ StoreAt C c H p ks B ∧ ks.length < 64 ∧
  ∀ (ys : List Str) (r : Addr) H', ys.Perm ks → sortedS ys = true → Same H H' → H' r = some (.lst (ys.map V.str)) → Q (.ref r) H'
def spBelow (C : Addr) : Sp := fun vs H Q _ => ∃ (c : Addr → Nat) (p : Addr) (ks : List Str) (B : Str → Bl) (a : Str), vs = [.ref p, .str a] ∧ StoreAt C c H p ks B ∧ SWf ks B ∧ a ∈ ks ∧
  ∀ r H', Same H H' → H' r = some (.lst ((B a).refs.map strS)) → Q (.ref r) H'
def spWhx (C : Addr) (n : Nat) : Sp := fun vs H Q _ => ∃ (c : Addr → Nat) (p : Addr) (ks : List Str) (B : Str → Bl) (a : Str), vs = [.ref p, .str a] ∧ StoreAt C c H p ks B ∧ SWf ks B ∧ (a ∈ ks → (B a).k.rk ≤ n) ∧
  ∀ H', Same H H' → Q (.bl (wh ks B (n + 1) a)) H'
def spClo (C : Addr) (n : Nat) : Sp := fun vs H Q _ => ∃ (c : Addr → Nat) (p : Addr) (ks : List Str) (B : Str → Bl) (a : Str), vs = [.ref p, .str a] ∧ StoreAt C c H p ks B ∧ SWf ks B ∧ a ∈ ks ∧ (B a).k.rk ≤ n ∧ wh ks B (n + 1) a = true ∧ ks.length ≤ 10000 ∧
  ∀ r H', Same H H' → H' r = some (.lst ((clo B n a).map V.str)) → Q (.ref r) H'
/-- as the call wants it -/
def WhC (C : Addr) (n : Nat) (sp : Sp) : Prop := ∀ (c : Addr → Nat) (H : Hp) (Q : VK) (p : Addr) (ks : List Str) (B : Str → Bl) (a : Str), StoreAt C c H p ks B → SWf ks B → a ∈ ks → (B a).k.rk < n → (∀ H', Same H H' → Q (.bl (wh ks B n a)) H') → sp [.ref p, .str a] H Q E0
def CloC (C : Addr) (n : Nat) (sp : Sp) : Prop := ∀ (c : Addr → Nat) (H : Hp) (Q : VK) (p : Addr) (ks : List Str) (B : Str → Bl) (a : Str), StoreAt C c H p ks B → SWf ks B → a ∈ ks → (B a).k.rk < n → wh ks B n a = true → ks.length ≤ 10000 → (∀ r H', Same H H' → H' r = some (.lst ((clo B (n - 1) a).map V.str)) → Q (.ref r) H') → sp [.ref p, .str a] H Q E0
theorem addD_nd {x : Str} : ∀ {l : List Str}, l.Nodup → (addD l x).Nodup := putS_nd
theorem foldl_addD_len : ∀ (l f : List Str), (l.foldl addD f).length ≤ f.length + l.length
  | [], f => Nat.le_refl _
  | x :: l, f => by
    have := foldl_addD_len l (addD f x)
    have h2 : (addD f x).length ≤ f.length + 1 := putS_len
    show (l.foldl addD (addD f x)).length ≤ _
    rw [List.length_cons]; omega
theorem mem_foldl_addD : ∀ {l f : List Str} {y : Str}, y ∈ l.foldl addD f ↔ y ∈ f ∨ y ∈ l
  | [], f, y => by simp
  | x :: l, f, y => by
    show y ∈ l.foldl addD (addD f x) ↔ _
    rw [mem_foldl_addD, show y ∈ addD f x ↔ y ∈ f ∨ y = x from mem_putS, List.mem_cons]
    constructor
    · rintro ((h | h) | h)
      · exact .inl h
      · exact .inr (.inl h)
      · exact .inr (.inr h)
    · rintro (h | h | h)
      · exact .inl (.inl h)
      · exact .inl (.inr h)
      · exact .inr h
theorem foldl_addD_nd : ∀ {l f : List Str}, f.Nodup → (l.foldl addD f).Nodup
  | [], _, h => h
  | x :: l, f, h => foldl_addD_nd (l := l) (addD_nd h)
theorem clo_nd (B : Str → Bl) : ∀ (n : Nat) (a : Str), (clo B n a).Nodup
  | 0, a => by simp [clo]
  | n + 1, a => by
    unfold clo
    have : ∀ (rs : List (List Nat)) (f : List Str), f.Nodup → (rs.foldl (fun f r => (clo B n (SX.S r)).foldl addD f) f).Nodup := by
      intro rs
      induction rs with
      | nil => intro f h; exact h
      | cons r rs ih => intro f h; exact ih _ (foldl_addD_nd h)
    exact this _ _ (by simp)
/-- all of a whole blob's closure is there -/
theorem clo_mem {ks : List Str} {B : Str → Bl} : ∀ {n : Nat} {a : Str}, wh ks B (n + 1) a = true → ∀ x ∈ clo B n a, x ∈ ks
  | 0, a, h, x, hx => by
    simp only [clo, List.mem_singleton] at hx
    subst hx
    unfold wh at h
    rw [Bool.and_eq_true, decide_eq_true_eq] at h
    exact h.1
  | n + 1, a, h, x, hx => by
    unfold wh at h
    rw [Bool.and_eq_true, decide_eq_true_eq, List.all_eq_true] at h
    unfold clo at hx
    have : ∀ (rs : List (List Nat)) (f : List Str), (∀ r ∈ rs, wh ks B (n + 1) (SX.S r) = true) → (∀ y ∈ f, y ∈ ks) → ∀ y ∈ rs.foldl (fun f r => (clo B n (SX.S r)).foldl addD f) f, y ∈ ks := by
      intro rs
      induction rs with
      | nil => intro f _ hf; exact hf
      | cons r rs ih =>
        intro f hr hf
        refine ih _ (fun z hz => hr z (List.mem_cons_of_mem _ hz)) fun y hy => ?_
        rcases mem_foldl_addD.mp hy with z | z
        · exact hf y z
        · exact clo_mem (hr r List.mem_cons_self) y z
    refine this _ _ (fun r hr => ?_) (fun y hy => by rw [List.mem_singleton.mp hy]; exact h.1) x hx
    have := h.2 r hr
    rw [Bool.and_eq_true, Bool.and_eq_true] at this
    exact this.2.2
theorem few_len {l ks : List Str} (h : l.Nodup) (h2 : ∀ x ∈ l, x ∈ ks) : l.length ≤ ks.length := nodup_few h h2
section
variable {P : Program} {w : World} {K : PySem.W.Frag} {mg : Str → Option Value} {base : Heap} {C_Claims C_Collector C_Store C_Uploads C_Registry C_Refused C_Malformed a_KINDS a_BELOW a_CLAIMED : Addr}
theorem ok_Store___init__ (T : Txt w K mg C_Claims C_Collector C_Store C_Uploads C_Registry C_Refused C_Malformed a_KINDS a_BELOW a_CLAIMED) : Mak P w K mg base 1 "Store" C_Store (spSInit C_Store) := by
  refine mak_mk T.i_Store sc_Store___init__ (fun vs H Q E h => ?_) (fun f cdv A outer s H vs Q E hr h => ?_)
  · obtain ⟨p, dx, rfl, _⟩ := h
    rfl
  · obtain ⟨p, dx, rfl, hp, k⟩ := h
    refine ⟨_, (pss_one (ps_fld (pv 0) (pe_dnewK) rfl)), ?_⟩
    walk_at "lw"
    refine g_dnew fun d H1 nd s1 hd => ?_
    have hp1 := s1.at hp
    walk_at "lw"
    refine g_rsfld hp1 T.cl_Store T.na_Store_blobs (by show 0 < 1000; decide) fun H2 p2 k2 => ?_
    rw [f_Store_mk] at p2
    walk_at "lw"
    exact k d H2 nd p2 (by rw [k2 d (ne_of hp1 hd (by intro z; cases z)).symm]; exact hd) fun b o e hb => by rw [k2 b hb]; exact s1.at e
theorem ok_Store_keep (T : Txt w K mg C_Claims C_Collector C_Store C_Uploads C_Registry C_Refused C_Malformed a_KINDS a_BELOW a_CLAIMED) : Met P w K mg base 2 C_Store "keep" (spKeep C_Store) := by
  have c_address_of : Cal P w K mg base 1 "address_of" spAddr := ok_address_of T
  refine met_mk T.cl_Store T.m_Store_keep sc_Store_keep (fun vs H Q E h => ?_) (fun f cdv A outer s H vs Q E hr h => ?_)
  · obtain ⟨c, p, ks, B, b, rfl, _⟩ := h
    rfl
  · obtain ⟨c, p, ks, B, b, rfl, W, hl, k⟩ := h
    have hu := hu_of hr
    obtain ⟨dx, d, h1, h2, h3, A', h4, h5⟩ := W.ex
    refine ⟨_, (pss_cons (ps_set (i := 3) sc_Store_keep.nd rfl (by first | exact Or.inl rfl | exact Or.inr rfl) (pe_c c_address_of hr (by first | decide | omega) rfl (pa_cons (pv 1) (pa_cons (pv 2) pa_nil))))
      (pss_cons (ps_dput hu (pe_fld (pv 0) rfl) (pv 3) (pe_tup (pa_cons (pv 1) (pa_cons (pv 2) pa_nil))) rfl)
      (pss_one (ps_ret (pv 3))))), ?_⟩
    walk_at "lw"
    refine ⟨b.k.s, b.t, rfl, b.k.s_kind, ?_⟩
    walk_at "lw"
    refine g_ktup (by show 2 ≤ 100; decide) fun t H1 nt s1 ht => ?_
    have h21 := s1.at h2
    have h41 := s1.at h4
    have h51 : ∀ a ∈ ks, H1 (A' a) = some (.tup [.str (B a).k.s, strS (B a).t]) := fun a ha => s1.at (h5 a ha)
    walk_at "lw"
    refine g_rdputS h41 (by rw [mkS_len]; omega) fun H2 d2 k2 => ?_
    walk_at "lw"
    have hpd : p ≠ d := ne_of h21 h41 (by intro z; cases z)
    refine k H2 ⟨dx, d, h1, by rw [k2 p hpd]; exact h21, h3, BlobD.put h41 h51 ht d2 k2⟩ ((Stp.same s1).trans (Stp.ch h41 h3 (fun xs z => by cases z) d2 k2))
theorem ok_Store_blob (T : Txt w K mg C_Claims C_Collector C_Store C_Uploads C_Registry C_Refused C_Malformed a_KINDS a_BELOW a_CLAIMED) : Met P w K mg base 1 C_Store "blob" (spBlob C_Store) := by
  refine met_mk T.cl_Store T.m_Store_blob sc_Store_blob (fun vs H Q E h => ?_) (fun f cdv A outer s H vs Q E hr h => ?_)
  · obtain ⟨c, p, ks, B, a, rfl, _⟩ := h
    rfl
  · obtain ⟨c, p, ks, B, a, rfl, W, k1, k2⟩ := h
    have hu := hu_of hr
    obtain ⟨dx, d, h1, h2, h3, A', h4, h5⟩ := W.ex
    refine ⟨_, (pss_one (ps_ret (pe_dget1 hu (pe_fld (pv 0) rfl) (pv 1) ⟨rfl, by rfl, rfl, rfl⟩))), ?_⟩
    walk_at "lw"
    refine g_risd (.of h4) ?_
    walk_at "lw"
    refine g_rdget1S (.of h4) ?_
    rw [valV_mkS]
    walk_at "lw"
    by_cases h : a ∈ ks
    · rw [if_pos h]
      exact k2 h _ (h5 a h)
    · rw [if_neg h]
      exact k1 h
theorem ok_Store_addresses (T : Txt w K mg C_Claims C_Collector C_Store C_Uploads C_Registry C_Refused C_Malformed a_KINDS a_BELOW a_CLAIMED) : Met P w K mg base 1 C_Store "addresses" (spAdrs C_Store) := by
  refine met_mk T.cl_Store T.m_Store_addresses sc_Store_addresses (fun vs H Q E h => ?_) (fun f cdv A outer s H vs Q E hr h => ?_)
  · obtain ⟨c, p, ks, B, rfl, _⟩ := h
    rfl
  · obtain ⟨c, p, ks, B, rfl, W, hl, k⟩ := h
    obtain ⟨dx, d, h1, h2, h3, A', h4, h5⟩ := W.ex
    refine ⟨_, (pss_one (ps_ret (pe_callB (call_sortedD rfl) (by rfl) T.n_sorted (by decide +kernel) (pa_cons (pe_fld (pv 0) rfl) pa_nil)))), ?_⟩
    walk_at "lw"
    exact ⟨d, _, ks, rfl, .of h4, mkS_keys, hl, fun ys r hp hs nr => k ys r _ hp hs (Same.new nr) upd_same⟩
theorem ok_Store_below (T : Txt w K mg C_Claims C_Collector C_Store C_Uploads C_Registry C_Refused C_Malformed a_KINDS a_BELOW a_CLAIMED) : Met P w K mg base 6 C_Store "below" (spBelow C_Store) := by
  have c_references : CalX P w K mg base 5 "references" (spRefs C_Malformed) := ok_references T
  refine met_mk T.cl_Store T.m_Store_below sc_Store_below (fun vs H Q E h => ?_) (fun f cdv A outer s H vs Q E hr h => ?_)
  · obtain ⟨c, p, ks, B, a, rfl, _⟩ := h
    rfl
  · obtain ⟨c, p, ks, B, a, rfl, W, wf, hm, k⟩ := h
    have hu := hu_of hr
    obtain ⟨dx, d, h1, h2, h3, A', h4, h5⟩ := W.ex
    have ok := wf.ok a hm
    refine ⟨_, (pss_cons (ps_asg (pe_dget hu (pe_fld (pv 0) rfl) (pv 1) (fun _ _ => rfl)) (pg_tup (by rfl) (pgs_cons (pg_name (i := 2) sc_Store_below.nd rfl (by first | exact Or.inl rfl | exact Or.inr rfl)) (pgs_cons (pg_name (i := 3) sc_Store_below.nd rfl (by first | exact Or.inl rfl | exact Or.inr rfl)) pgs_nil))))
      (pss_one (ps_ret (pe_cX c_references takes0 hr (by first | decide | omega) rfl (pa_cons (pv 2) (pa_cons (pv 3) pa_nil)))))), ?_⟩
    walk_at "lw"
    refine g_rdgetS (.of h4) (by rw [valV_mkS, if_pos hm]) ?_
    refine g_gtup (SqT.of (h5 a hm)) rfl ?_
    walk_at "lw"
    refine ⟨(B a).k.s, (B a).t, rfl, by have := ok.l; omega, fun _ q H1 s1 hq => ?_, fun n hn => by rw [ok.f] at hn; cases hn⟩
    exact k q H1 s1 hq
theorem isw_step (T : Txt w K mg C_Claims C_Collector C_Store C_Uploads C_Registry C_Refused C_Malformed a_KINDS a_BELOW a_CLAIMED) {n k' j : Nat} {sp' : Sp} (h6 : 6 ≤ j) (hk : k' ≤ j) (t_Store_is_whole : Met P w K mg base k' C_Store "is_whole" sp') (hs : WhC C_Store n sp') : Met P w K mg base (j + 1) C_Store "is_whole" (spWhx C_Store n) := by
  have t_Store_below : Met P w K mg base 6 C_Store "below" (spBelow C_Store) := ok_Store_below T
  refine met_mk T.cl_Store T.m_Store_is_whole sc_Store_is_whole (fun vs H Q E h => ?_) (fun f cdv A outer s H vs Q E hr h => ?_)
  · obtain ⟨c, p, ks, B, a, rfl, _⟩ := h
    rfl
  · obtain ⟨c, p, ks, B, a, rfl, W, wf, hrk, k⟩ := h
    have hu := hu_of hr
    obtain ⟨dx, d, h1, h2, h3, A', h4, h5⟩ := W.ex
    refine ⟨_, (pss_cons (ps_if (pt_cmp (pc_dnotin hu (pv 1) (pe_fld (pv 0) rfl))) (pss_one (ps_ret (pe_bl))) pss_nil)
      (pss_cons (ps_set (i := 2) sc_Store_is_whole.nd rfl (by first | exact Or.inl rfl | exact Or.inr rfl) (pe_ix ix_tup (pe_dget hu (pe_fld (pv 0) rfl) (pv 1) (fun _ _ => rfl)) (pe_int) (fun _ _ => rfl)))
      (pss_cons (ps_for PassesOwn.never rfl (pi_list (pe_mt t_Store_below hr (by first | decide | omega) (pv 0) (pa_cons (pv 1) pa_nil))) (pg_name (i := 3) sc_Store_is_whole.nd rfl (by first | exact Or.inl rfl | exact Or.inr rfl)) (pss_one (ps_if (PW.pt (pw_or (pt_cmp (pc_dnotin hu (pv 3) (pe_fld (pv 0) rfl))) (pw_or (pt_cmpR op_ne (pe_ix ix_tup (pe_dget hu (pe_fld (pv 0) rfl) (pv 3) (fun _ _ => rfl)) (pe_int) (fun _ _ => rfl)) (pe_ix ix_kdict (pe_gc rfl T.g_BELOW) (pv 2) (fun _ _ => rfl)) (nomark _)) (pw_or1 (pt_not (pt_val (pe_mt t_Store_is_whole hr (by first | decide | omega) (pv 0) (pa_cons (pv 3) pa_nil)))))))) (pss_one (ps_ret (pe_bl))) pss_nil)))
      (pss_one (ps_ret (pe_bl)))))), ?_⟩
    walk_at "lw"
    refine g_rdnotinS (.of h4) ?_
    rw [dec_in]
    walk_at "lw"
    refine ifn2 (fun hm => ?_) (fun hm => ?_)
    rotate_left
    · walk_at "lw"
      have k := k H (Same.refl _)
      unfold wh at k
      rw [decide_eq_false hm, Bool.false_and] at k
      exact k
    · have hrk := hrk hm
      walk_at "lw"
      refine g_rdgetS (.of h4) (by rw [valV_mkS, if_pos hm]) ?_
      walk_at "lw"
      refine g_rixT (SqT.of (h5 a hm)) (v := .str (B a).k.s) rfl ?_
      walk_at "lw"
      refine ⟨c, p, ks, B, a, rfl, W, wf, hm, fun r H1 s1 hr1 => ?_⟩
      have hrl := refs_len (wf.ok a hm)
      refine g_ritL (SqL.of hr1) ?_
      refine for_at (G := fun H' => SqL K H' r ((B a).refs.map strS)) walk_list (fun i σ H' => Same H1 H' ∧ (∀ x ∈ (B a).refs.take i, (decide (SX.S x ∈ ks) && (decide ((B a).k.lo = some (B (SX.S x)).k) && wh ks B n (SX.S x))) = true) ∧
        ∃ v : Option V, σ = [some (.ref p), some (.str a), some (.str (B a).k.s), v]) ⟨Same.refl _, (fun x hx => nomatch hx), none, rfl⟩ (fun i σ H' h => SqL.of (h.1.at hr1)) ?_ ?_
      · rintro i x σ H2 hx ⟨s2, hall, v, rfl⟩
        obtain ⟨y, hy, rfl⟩ := map_at hx
        have hi : i < (B a).refs.length := (List.getElem?_eq_some_iff.mp hy).1
        have s02 := s1.trans s2
        have h22 := s02.at h2
        have h42 := s02.at h4
        have W2 := W.same s02
        have bad : (decide (SX.S y ∈ ks) && (decide ((B a).k.lo = some (B (SX.S y)).k) && wh ks B n (SX.S y))) = false → ∀ H', Same H H' → Q (.bl false) H' := fun hb H' s' => by
          have k := k H' s'
          unfold wh at k
          rw [show (List.all (B a).refs fun r => decide (SX.S r ∈ ks) && (decide ((B a).k.lo = some (B (SX.S r)).k) && wh ks B n (SX.S r))) = false by
            rw [List.all_eq_false]
            exact ⟨y, List.mem_of_getElem? hy, by rw [hb]; decide⟩, Bool.and_false] at k
          exact k
        have hkd : (B a).k ≠ .lay := fun z => by
          rw [refs_lay z] at hi
          exact absurd hi (Nat.not_lt_zero _)
        obtain ⟨lo, hlo, hkb⟩ : ∃ lo : Kd, (B a).k.lo = some lo ∧ KDct K w a_BELOW (B a).k.s (.str lo.s) := by
          cases hq : (B a).k with
          | lay => exact absurd hq hkd
          | img => exact ⟨.lay, rfl, T.k_BELOW_image⟩
          | bun => exact ⟨.img, rfl, T.k_BELOW_bundle⟩
        walk_at "lw"
        refine g_rdnotinS (.of h42) ?_
        rw [dec_in]
        walk_at "lw"
        refine ifn2 (fun hm2 => ?_) (fun hm2 => ?_)
        · have h52 : H2 (A' (SX.S y)) = some (.tup [.str (B (SX.S y)).k.s, strS (B (SX.S y)).t]) := s02.at (h5 _ hm2)
          walk_at "lw"
          refine g_rdgetS (.of h42) (by rw [valV_mkS, if_pos hm2]) ?_
          walk_at "lw"
          refine g_rixT (SqT.of h52) (j := 0) (v := .str (B (SX.S y)).k.s) rfl ?_
          walk_at "lw"
          refine ⟨a_BELOW, (B a).k.s, .str lo.s, rfl, rfl, hkb, ?_⟩
          walk_at "lw"
          refine ifn2 (fun he => ?_) (fun he => ?_)
          · have he : lo = (B (SX.S y)).k := (Kd.s_inj.mp (str_eq.mp he)).symm
            rw [he] at hlo
            have hlt := Kd.lo_rk hlo
            walk_at "lw"
            refine hs c H2 _ p ks B (SX.S y) W2 wf hm2 (by omega) fun H3 s3 => ?_
            walk_at "lw"
            cases hw : wh ks B n (SX.S y) with
            | true =>
              walk_at "lw"
              refine ⟨s2.trans s3, fun x hx => ?_, _, rfl⟩
              rw [take_ok hy] at hx
              rcases List.mem_append.mp hx with z | z
              · exact hall x z
              · rw [List.mem_singleton.mp z, decide_eq_true hm2, decide_eq_true hlo, hw]
                rfl
            | false =>
              walk_at "lw"
              exact bad (by rw [hw, Bool.and_false, Bool.and_false]) H3 (s02.trans s3)
          · have he : ¬ lo = (B (SX.S y)).k := fun z => he (by rw [z])
            walk_at "lw"
            exact bad (by rw [decide_eq_false (fun z => he (Option.some.inj (hlo.symm.trans z))), Bool.false_and, Bool.and_false]) H2 s02
        · walk_at "lw"
          exact bad (by rw [decide_eq_false hm2, Bool.false_and]) H2 s02
      · rintro σ H2 ⟨s2, hall, v, rfl⟩
        rw [List.length_map, List.take_length] at hall
        walk_at "lw"
        have k := k H2 (s1.trans s2)
        unfold wh at k
        rw [decide_eq_true hm, List.all_eq_true.mpr hall] at k
        exact k
theorem no_whole (T : Txt w K mg C_Claims C_Collector C_Store C_Uploads C_Registry C_Refused C_Malformed a_KINDS a_BELOW a_CLAIMED) : Met P w K mg base 1 C_Store "is_whole" (fun _ _ _ _ => False) :=
  met_mk T.cl_Store T.m_Store_is_whole sc_Store_is_whole (fun vs H Q E h => h.elim) (fun f cdv A outer s H vs Q E hr h => h.elim)
theorem ok_Store_is_whole (T : Txt w K mg C_Claims C_Collector C_Store C_Uploads C_Registry C_Refused C_Malformed a_KINDS a_BELOW a_CLAIMED) : Met P w K mg base 9 C_Store "is_whole" (spWhx C_Store 2) := by
  have t0 : Met P w K mg base 7 C_Store "is_whole" (spWhx C_Store 0) := isw_step T (j := 6) (by decide) (by decide) (no_whole T) (fun c H Q p ks B a _ _ _ h _ => absurd h (Nat.not_lt_zero _))
  have t1 : Met P w K mg base 8 C_Store "is_whole" (spWhx C_Store 1) := isw_step T (j := 7) (by decide) (by decide) t0 (fun c H Q p ks B a W wf hm h k => ⟨c, p, ks, B, a, rfl, W, wf, fun _ => by omega, k⟩)
  exact isw_step T (j := 8) (by decide) (by decide) t1 (fun c H Q p ks B a W wf hm h k => ⟨c, p, ks, B, a, rfl, W, wf, fun _ => by omega, k⟩)
theorem clo_step (T : Txt w K mg C_Claims C_Collector C_Store C_Uploads C_Registry C_Refused C_Malformed a_KINDS a_BELOW a_CLAIMED) {n k' j : Nat} {sp' : Sp} (h6 : 6 ≤ j) (hk : k' ≤ j) (t_Store_closure : Met P w K mg base k' C_Store "closure" sp') (hs : CloC C_Store n sp') : Met P w K mg base (j + 1) C_Store "closure" (spClo C_Store n) := by
  have t_Store_below : Met P w K mg base 6 C_Store "below" (spBelow C_Store) := ok_Store_below T
  refine met_mk T.cl_Store T.m_Store_closure sc_Store_closure (fun vs H Q E h => ?_) (fun f cdv A outer s H vs Q E hr h => ?_)
  · obtain ⟨c, p, ks, B, a, rfl, _⟩ := h
    rfl
  · obtain ⟨c, p, ks, B, a, rfl, W, wf, hm, hrk, hw, hkl, k⟩ := h
    have hu := hu_of hr
    refine ⟨_, (pss_cons (ps_set (i := 2) sc_Store_closure.nd rfl (by first | exact Or.inl rfl | exact Or.inr rfl) (pe_disp (pps_cons (pv 1) (pe_bl) pps_nil) (by rfl) (by rfl) (fun z => by cases z) (by decide)))
      (pss_cons (ps_for PassesOwn.never rfl (pi_list (pe_mt t_Store_below hr (by first | decide | omega) (pv 0) (pa_cons (pv 1) pa_nil))) (pg_name (i := 3) sc_Store_closure.nd rfl (by first | exact Or.inl rfl | exact Or.inr rfl)) (pss_one (ps_for PassesOwn.never rfl (pi_list (pe_mt t_Store_closure hr (by first | decide | omega) (pv 0) (pa_cons (pv 3) pa_nil))) (pg_name (i := 4) sc_Store_closure.nd rfl (by first | exact Or.inl rfl | exact Or.inr rfl)) (pss_one (ps_dput hu (pv 2) (pv 4) (pe_bl) rfl)))))
      (pss_one (ps_ret (pe_callTy (call_list_dK rfl) (by rfl) T.n_list (by decide +kernel) (pa_cons (pv 2) pa_nil)))))), ?_⟩
    obtain ⟨dx0, d0, h10, h20, _⟩ := id W.ex
    walk_at "lw"
    refine g_disp fun fd H1 nfd s1 hfd => ?_
    walk_at "lw"
    refine g_rdisp (kvs := [(kS a, .bl true)]) hfd rfl (by show 1 ≤ 15; decide) fun H2 hf2 k2 => ?_
    have hf2 : H2 fd = some (.dK (mkS [a] fun _ => .bl true)) := hf2
    have s2 : Same H H2 := s1.chg nfd k2
    have W2 := W.same s2
    obtain ⟨dx, d, h1, h2, h3, A', h4, h5⟩ := id W2.ex
    walk_at "lw"
    refine ⟨c, p, ks, B, a, rfl, W2, wf, hm, fun r H3 s3 hr3 => ?_⟩
    refine g_ritL (SqL.of hr3) ?_
    have hrs : ∀ y ∈ (B a).refs, SX.S y ∈ ks ∧ (B (SX.S y)).k.rk < n ∧ wh ks B n (SX.S y) = true := fun y hy => by
      unfold wh at hw
      rw [Bool.and_eq_true, List.all_eq_true] at hw
      have := hw.2 y hy
      rw [Bool.and_eq_true, Bool.and_eq_true, decide_eq_true_eq, decide_eq_true_eq] at this
      have hlt := Kd.lo_rk this.2.1
      exact ⟨this.1, by omega, this.2.2⟩
    have W3 := W2.same s3
    refine for_at (G := fun H' => SqL K H' r ((B a).refs.map strS)) walk_list (fun i σ H' => Same H H' ∧ H' r = some (.lst ((B a).refs.map strS)) ∧ H' fd = some (.dK (mkS (((B a).refs.take i).foldl (fun f y => (clo B (n - 1) (SX.S y)).foldl addD f) [a]) fun _ => .bl true)) ∧ StoreAt C_Store c H' p ks B ∧
      (((B a).refs.take i).foldl (fun f y => (clo B (n - 1) (SX.S y)).foldl addD f) [a]).Nodup ∧ (∀ x ∈ ((B a).refs.take i).foldl (fun f y => (clo B (n - 1) (SX.S y)).foldl addD f) [a], x ∈ ks) ∧
      ∃ v v2 : Option V, σ = [some (.ref p), some (.str a), some (.ref fd), v, v2]) ⟨s2.trans s3, hr3, s3.at hf2, W3, (by simp), (fun x hx => by rw [List.mem_singleton.mp hx]; exact hm), none, none, rfl⟩ (fun i σ H' h => SqL.of h.2.1) ?_ ?_
    · rintro i x σ H4 hx ⟨s4, hr4, hf4, W4, hnd, hin, v, v2, rfl⟩
      obtain ⟨y, hy, rfl⟩ := map_at hx
      obtain ⟨q1, q2, q3⟩ := hrs y (List.mem_of_getElem? hy)
      have hn1 : n - 1 + 1 = n := by omega
      rw [take_ok hy, List.foldl_append]
      show (gName 3) _ _ _ _
      generalize hfo : ((B a).refs.take i).foldl (fun f y => (clo B (n - 1) (SX.S y)).foldl addD f) [a] = fo at hf4 hnd hin
      obtain ⟨dx4, d4, _, h24, _⟩ := id W4.ex
      walk_at "lw"
      refine hs c H4 _ p ks B (SX.S y) W4 wf q1 q2 q3 hkl fun r5 H5 s5 hr5 => ?_
      have hci : ∀ x ∈ clo B (n - 1) (SX.S y), x ∈ ks := clo_mem (n := n - 1) (by rw [hn1]; exact q3)
      have nfr : fd ≠ r := ne_of hf4 hr4 (by intro z; cases z)
      have nfr5 : fd ≠ r5 := ne_of (s5.at hf4) hr5 (by intro z; cases z)
      refine g_ritL (SqL.of hr5) ?_
      refine for_at (G := fun H' => SqL K H' r5 ((clo B (n - 1) (SX.S y)).map V.str)) walk_list (fun i2 σ H' => Same H H' ∧ H' r = some (.lst ((B a).refs.map strS)) ∧ H' r5 = some (.lst ((clo B (n - 1) (SX.S y)).map V.str)) ∧ H' fd = some (.dK (mkS (((clo B (n - 1) (SX.S y)).take i2).foldl addD fo) fun _ => .bl true)) ∧ StoreAt C_Store c H' p ks B ∧
        (((clo B (n - 1) (SX.S y)).take i2).foldl addD fo).Nodup ∧ (∀ x ∈ ((clo B (n - 1) (SX.S y)).take i2).foldl addD fo, x ∈ ks) ∧
        ∃ v : Option V, σ = [some (.ref p), some (.str a), some (.ref fd), some (strS y), v]) ⟨s4.trans s5, s5.at hr4, hr5, s5.at hf4, W4.same s5, hnd, hin, v2, rfl⟩ (fun i σ H' h => SqL.of h.2.2.1) ?_ ?_
      · rintro i2 x σ H6 hx2 ⟨s6, hr6, hr56, hf6, W6, hnd6, hin6, v6, rfl⟩
        obtain ⟨z, hz, rfl⟩ := map_at hx2
        rw [take_ok hz, List.foldl_append]
        generalize hfo6 : ((clo B (n - 1) (SX.S y)).take i2).foldl addD fo = fo6 at hf6 hnd6 hin6
        have hl6 := few_len hnd6 hin6
        walk_at "lw"
        refine g_rdputS hf6 (by rw [mkS_len]; omega) fun H7 h7 k7 => ?_
        walk_at "lw"
        rw [putK_S] at h7
        have n0f : H fd = none := nfd
        have hp7 : StoreAt C_Store c H7 p ks B := by
          obtain ⟨dx6, d6, e1, e2, e3, A6, e4, e5⟩ := W6.ex
          have npf : p ≠ fd := ne_of_none h20 nfd
          have ndf : d6 ≠ fd := fun z => by
            obtain ⟨dx0', d0', _, f2, _, A0, f4, _⟩ := W.ex
            have e2' := s6.at f2
            rw [e2] at e2'
            cases e2'
            rw [z, nfd] at f4
            cases f4
          exact ⟨dx6, d6, e1, by rw [k7 p npf]; exact e2, e3, A6, by rw [k7 d6 ndf]; exact e4, fun a ha => by rw [k7 _ (ne_of (e5 a ha) hf6 (by intro z; cases z))]; exact e5 a ha⟩
        refine ⟨s6.chg n0f k7, by rw [k7 r nfr.symm]; exact hr6, by rw [k7 r5 nfr5.symm]; exact hr56, ?_, hp7, addD_nd hnd6, fun x hx => ?_, _, rfl⟩
        · rw [h7]
          congr 2
          refine mkS_congr fun j _ => ?_
          split <;> rfl
        · rcases mem_putS.mp hx with u | u
          · exact hin6 x u
          · rw [u]; exact hci z (List.mem_of_getElem? hz)
      · rintro σ H6 ⟨s6, hr6, hr56, hf6, W6, hnd6, hin6, v6, rfl⟩
        rw [List.length_map, List.take_length] at hf6 hnd6 hin6
        exact ⟨s6, hr6, hf6, W6, hnd6, hin6, _, _, rfl⟩
    · rintro σ H4 ⟨s4, hr4, hf4, W4, hnd, hin, v, v2, rfl⟩
      rw [List.length_map, List.take_length] at hf4
      walk_at "lw"
      refine ⟨fd, _, rfl, hf4, fun q nq => ?_⟩
      rw [mkS_kV]
      refine k q _ (s4.thenNew nq) ?_
      rw [upd_same]
      congr 2
      cases n with
      | zero =>
        have e : (B a).refs = [] := by
          cases hr : (B a).refs with
          | nil => rfl
          | cons y ys => exact absurd (hrs y (by rw [hr]; exact List.mem_cons_self)).2.1 (Nat.not_lt_zero _)
        rw [e]
        rfl
      | succ n => rfl
theorem no_closure (T : Txt w K mg C_Claims C_Collector C_Store C_Uploads C_Registry C_Refused C_Malformed a_KINDS a_BELOW a_CLAIMED) : Met P w K mg base 1 C_Store "closure" (fun _ _ _ _ => False) :=
  met_mk T.cl_Store T.m_Store_closure sc_Store_closure (fun vs H Q E h => h.elim) (fun f cdv A outer s H vs Q E hr h => h.elim)
theorem ok_Store_closure (T : Txt w K mg C_Claims C_Collector C_Store C_Uploads C_Registry C_Refused C_Malformed a_KINDS a_BELOW a_CLAIMED) : Met P w K mg base 9 C_Store "closure" (spClo C_Store 2) := by
  have t0 : Met P w K mg base 7 C_Store "closure" (spClo C_Store 0) := clo_step T (j := 6) (by decide) (by decide) (no_closure T) (fun c H Q p ks B a _ _ _ h _ _ _ => absurd h (Nat.not_lt_zero _))
  have t1 : Met P w K mg base 8 C_Store "closure" (spClo C_Store 1) := clo_step T (j := 7) (by decide) (by decide) t0 (fun c H Q p ks B a W wf hm h hw hl k => ⟨c, p, ks, B, a, rfl, W, wf, hm, by omega, hw, hl, k⟩)
  exact clo_step T (j := 8) (by decide) (by decide) t1 (fun c H Q p ks B a W wf hm h hw hl k => ⟨c, p, ks, B, a, rfl, W, wf, hm, by omega, hw, hl, k⟩)
end
end Lw

/-! ## the registry: what stands in it, and what a request does -/
namespace Lw
open PySem L2
open PyProof.Rows (envOfC sortedS)
def KOk (ks : List Str) : Prop := ∀ a ∈ ks, ∃ l, a = SX.S l ∧ isAdr l = true
theorem Kd.rk2 (k : Kd) : k.rk ≤ 2 := by cases k <;> decide
structure Rg where
  ks : List Str
  B : Str → Bl
  nk : List Str
  N : Str → Str
  n : Int
  cs : List Int
  L : Int → List Str
  un : Int
  ts : List Int
  X : Int → List Nat
  ph : Str
  mr : List Str
  td : List Str
  dm : List Str
structure Rx where
  R : Addr
  p : Addr
  nd : Addr
  cp : Addr
  up : Addr
  co : Addr
structure CoAt (C : Addr) (c : Addr → Nat) (H : Hp) (o p : Addr) (ph : Str) (mk td dm : List Str) : Prop where
  ex : ∃ (dx m t d : Addr), c o = 6 ∧ H o = some (.ins C dx (f_Collector (.ref p) (.str ph) (.ref m) (.ref t) (.ref d))) ∧ c m = 6 ∧ H m = some (.dK (mkS mk fun _ => .bl true)) ∧ c t = 6 ∧ H t = some (.lst (td.map V.str)) ∧ c d = 6 ∧ H d = some (.lst (dm.map V.str)) ∧ t ≠ d
theorem CoAt.frame {C : Addr} {I : Nat → Prop} {c c' : Addr → Nat} {H H' : Hp} {o p : Addr} {ph : Str} {mk td dm : List Str} (h : CoAt C c H o p ph mk td dm) (s : Stp I c c' H H') (hi : ¬ I 6) : CoAt C c' H' o p ph mk td dm := by
  obtain ⟨dx, m, t, d, h1, h2, h3, h4, h5, h6, h7, h8, h9⟩ := h.ex
  exact ⟨dx, m, t, d, by rw [s.col _ _ h2, h1], s.keep _ _ h2 (by rw [h1]; exact hi), by rw [s.col _ _ h4, h3], s.keep _ _ h4 (by rw [h3]; exact hi), by rw [s.col _ _ h6, h5], s.keep _ _ h6 (by rw [h5]; exact hi), by rw [s.col _ _ h8, h7], s.keep _ _ h8 (by rw [h7]; exact hi), h9⟩
structure RegAt (CS CC CU CO CR : Addr) (c : Addr → Nat) (H : Hp) (x : Rx) (s : Rg) : Prop where
  re : c x.R = 5 ∧ ∃ dx, H x.R = some (.ins CR dx (f_Registry (.ref x.p) (.ref x.nd) (.ref x.cp) (.ref x.up) (.ref x.co)))
  nm : c x.nd = 5 ∧ H x.nd = some (.dK (mkS s.nk fun a => .str (s.N a)))
  st : StoreAt CS c H x.p s.ks s.B
  cl : ClaimsAt CC c H x.cp s.n s.cs s.L
  up : UpAt CU c H x.up s.un s.ts s.X
  co : CoAt CO c H x.co x.p s.ph s.mr s.td s.dm
def IReg : Nat → Prop := fun i => i = 1 ∨ i = 3 ∨ i = 4 ∨ i = 5 ∨ i = 6
section
variable {CS CC CU CO CR : Addr} {c c' : Addr → Nat} {H H' : Hp} {x : Rx} {s : Rg} {I : Nat → Prop}
theorem RegAt.frame (W : RegAt CS CC CU CO CR c H x s) (st : Stp I c c' H H') (hi : ∀ i, I i → ¬ IReg i) : RegAt CS CC CU CO CR c' H' x s := by
  have n1 : ¬ I 1 := fun z => hi 1 z (.inl rfl)
  have n3 : ¬ I 3 := fun z => hi 3 z (.inr (.inl rfl))
  have n4 : ¬ I 4 := fun z => hi 4 z (.inr (.inr (.inl rfl)))
  have n5 : ¬ I 5 := fun z => hi 5 z (.inr (.inr (.inr (.inl rfl))))
  have n6 : ¬ I 6 := fun z => hi 6 z (.inr (.inr (.inr (.inr rfl))))
  obtain ⟨r1, dx, r2⟩ := W.re
  obtain ⟨m1, m2⟩ := W.nm
  exact ⟨⟨by rw [st.col _ _ r2, r1], dx, st.keep _ _ r2 (by rw [r1]; exact n5)⟩, ⟨by rw [st.col _ _ m2, m1], st.keep _ _ m2 (by rw [m1]; exact n5)⟩, W.st.frame st n1, W.cl.frame st n4, W.up.frame st n3, W.co.frame st n6⟩
theorem RegAt.same (W : RegAt CS CC CU CO CR c H x s) (st : Same H H') : RegAt CS CC CU CO CR c H' x s := W.frame (Stp.same (I := fun _ => False) st) (fun i z => z.elim)
theorem RegAt.store (W : RegAt CS CC CU CO CR c H x s) {ks : List Str} {B : Str → Bl} (h : StoreAt CS c' H' x.p ks B) (st : Stp (fun i => i = 1) c c' H H') : RegAt CS CC CU CO CR c' H' x { s with ks := ks, B := B } := by
  obtain ⟨r1, dx, r2⟩ := W.re
  obtain ⟨m1, m2⟩ := W.nm
  exact ⟨⟨by rw [st.col _ _ r2, r1], dx, st.keep _ _ r2 (by rw [r1]; decide)⟩, ⟨by rw [st.col _ _ m2, m1], st.keep _ _ m2 (by rw [m1]; decide)⟩, h, W.cl.frame st (by decide), W.up.frame st (by decide), W.co.frame st (by decide)⟩
theorem RegAt.claims (W : RegAt CS CC CU CO CR c H x s) {n : Int} {cs : List Int} {L : Int → List Str} (h : ClaimsAt CC c' H' x.cp n cs L) (st : Stp (fun i => i = 4) c c' H H') : RegAt CS CC CU CO CR c' H' x { s with n := n, cs := cs, L := L } := by
  obtain ⟨r1, dx, r2⟩ := W.re
  obtain ⟨m1, m2⟩ := W.nm
  exact ⟨⟨by rw [st.col _ _ r2, r1], dx, st.keep _ _ r2 (by rw [r1]; decide)⟩, ⟨by rw [st.col _ _ m2, m1], st.keep _ _ m2 (by rw [m1]; decide)⟩, W.st.frame st (by decide), h, W.up.frame st (by decide), W.co.frame st (by decide)⟩
theorem RegAt.ups (W : RegAt CS CC CU CO CR c H x s) {n : Int} {ts : List Int} {X : Int → List Nat} (h : UpAt CU c' H' x.up n ts X) (st : Stp (fun i => i = 3) c c' H H') : RegAt CS CC CU CO CR c' H' x { s with un := n, ts := ts, X := X } := by
  obtain ⟨r1, dx, r2⟩ := W.re
  obtain ⟨m1, m2⟩ := W.nm
  exact ⟨⟨by rw [st.col _ _ r2, r1], dx, st.keep _ _ r2 (by rw [r1]; decide)⟩, ⟨by rw [st.col _ _ m2, m1], st.keep _ _ m2 (by rw [m1]; decide)⟩, W.st.frame st (by decide), W.cl.frame st (by decide), h, W.co.frame st (by decide)⟩
theorem RegAt.coll (W : RegAt CS CC CU CO CR c H x s) {ph : Str} {mk td dm : List Str} (h : CoAt CO c' H' x.co x.p ph mk td dm) (st : Stp (fun i => i = 6) c c' H H') : RegAt CS CC CU CO CR c' H' x { s with ph := ph, mr := mk, td := td, dm := dm } := by
  obtain ⟨r1, dx, r2⟩ := W.re
  obtain ⟨m1, m2⟩ := W.nm
  exact ⟨⟨by rw [st.col _ _ r2, r1], dx, st.keep _ _ r2 (by rw [r1]; decide)⟩, ⟨by rw [st.col _ _ m2, m1], st.keep _ _ m2 (by rw [m1]; decide)⟩, W.st.frame st (by decide), W.cl.frame st (by decide), W.up.frame st (by decide), h⟩
/-- the names' dict changed -/
theorem RegAt.names (W : RegAt CS CC CU CO CR c H x s) {nk : List Str} {N : Str → Str} (h : H' x.nd = some (.dK (mkS nk fun a => .str (N a)))) (k : ∀ b, b ≠ x.nd → H' b = H b) : RegAt CS CC CU CO CR c H' x { s with nk := nk, N := N } ∧ Stp (fun i => i = 5) c c H H' := by
  obtain ⟨r1, dx, r2⟩ := W.re
  obtain ⟨m1, m2⟩ := W.nm
  have st : Stp (fun i => i = 5) c c H H' := Stp.ch m2 m1 (fun xs z => by cases z) h k
  exact ⟨⟨⟨r1, dx, by rw [k _ (ne_of r2 m2 (by intro z; cases z))]; exact r2⟩, ⟨m1, h⟩, W.st.frame st (by decide), W.cl.frame st (by decide), W.up.frame st (by decide), W.co.frame st (by decide)⟩, st⟩
/-- its objects -/
theorem RegAt.hs (W : RegAt CS CC CU CO CR c H x s) : ∃ (d1 d2 d3 d4 d5 : Addr) (v1 v2 v3 v4 v5 v6 v7 v8 : V), H x.R = some (.ins CR d1 (f_Registry (.ref x.p) (.ref x.nd) (.ref x.cp) (.ref x.up) (.ref x.co))) ∧ H x.p = some (.ins CS d2 (f_Store v1)) ∧ H x.cp = some (.ins CC d3 (f_Claims v2 v3)) ∧ H x.up = some (.ins CU d4 (f_Uploads v4 v5)) ∧
    H x.co = some (.ins CO d5 (f_Collector (.ref x.p) (.str s.ph) v6 v7 v8)) ∧ H x.nd = some (.dK (mkS s.nk fun a => .str (s.N a))) := by
  obtain ⟨_, d1, r2⟩ := W.re
  obtain ⟨d2, _, _, s2, _⟩ := W.st.ex
  obtain ⟨d3, _, _, _, c2, _⟩ := W.cl.ex
  obtain ⟨d4, _, _, u2, _⟩ := W.up.ex
  obtain ⟨d5, _, _, _, _, o2, _⟩ := W.co.ex
  exact ⟨d1, d2, d3, d4, d5, _, _, _, _, _, _, _, _, r2, s2, c2, u2, o2, W.nm.2⟩
end
theorem IReg.of {i : Nat} (h : i = 1 ∨ i = 3 ∨ i = 4 ∨ i = 5 ∨ i = 6) : IReg i := h
/-! ### pure -/
def shd (s : Rg) (a : Str) : Rg := { s with mr := if s.ph = "idle" then s.mr else (clo s.B 2 a).foldl addD s.mr }
def pin (s : Rg) (c : Int) (a : Str) : Rg := { s with L := fun j => if j = c then s.L c ++ [a] else s.L j }
def keepR (s : Rg) (c : Int) (a : Str) : Rg × List Key := (shd (pin s c a) a, [.inr "kept", .inr a])
def sto (s : Rg) (b : Bl) : Rg := { s with ks := putS s.ks (adrB b), B := updB s.B (adrB b) b }
def goodR (s : Rg) (k : Kd) (r : List Nat) : Bool := decide (SX.S r ∈ s.ks) && (decide (k.lo = some (s.B (SX.S r)).k) && wh s.ks s.B 3 (SX.S r))
def badR (s : Rg) (k : Kd) (rs : List (List Nat)) : Option (List Nat) := rs.find? fun r => !goodR s k r
inductive Rq
  | opn | has (c : Int) (a : Str) | start (c : Int) | part (u i : Int) (t : List Nat) | fin (u c : Int) (a : Str) | put (c : Int) (k : Kd) (t : List Nat) | name (c : Int) (nm a : Str) | close (c : Int) | look (nm : Str) | get (a : Str) (i m : Int) | drop (nm : Str)
def Rq.b : Rq → List Key
  | .opn => [.inr "open"]
  | .has c a => [.inr "has", .inl c, .inr a]
  | .start c => [.inr "start", .inl c]
  | .part u i t => [.inr "part", .inl u, .inl i, .inr (SX.S t)]
  | .fin u c a => [.inr "finish", .inl u, .inl c, .inr "layer", .inr a]
  | .put c k t => [.inr "put", .inl c, .inr k.s, .inr (SX.S t)]
  | .name c nm a => [.inr "name", .inl c, .inr nm, .inr a]
  | .close c => [.inr "close", .inl c]
  | .look nm => [.inr "look", .inr nm]
  | .get a i m => [.inr "get", .inr a, .inl i, .inl m]
  | .drop nm => [.inr "drop", .inr nm]
def lapsedR (c : Int) : List Key := [.inr "lapsed", .inl c]
def lacksR (a : Str) : List Key := [.inr "lacks", .inr a]
def hasR (s : Rg) (c : Int) (a : Str) : Rg × List Key := if wh s.ks s.B 3 a = true then keepR s c a else (s, lacksR a)
def partR (s : Rg) (u i : Int) (t : List Nat) : Rg × List Key :=
  if u ∈ s.ts then (if i = (s.X u).length then ({ s with X := fun j => if j = u then s.X u ++ t else s.X j }, [.inr "have", .inl u, .inl ((s.X u ++ t).length : Int)]) else (s, [.inr "have", .inl u, .inl ((s.X u).length : Int)])) else (s, [.inr "gone", .inl u])
def unup (s : Rg) (u : Int) : Rg := { s with ts := s.ts.filter fun j => decide (j ≠ u) }
def finR (s : Rg) (u c : Int) (a : Str) : Rg × List Key :=
  if c ∈ s.cs then (if u ∈ s.ts then (if adrB ⟨.lay, s.X u⟩ = a then keepR (sto (unup s u) ⟨.lay, s.X u⟩) c a else (unup s u, [.inr "wrong", .inr a])) else if wh s.ks s.B 3 a = true then keepR s c a else (s, [.inr "gone", .inl u])) else (s, lapsedR c)
def putR (s : Rg) (c : Int) (k : Kd) (t : List Nat) : Rg × List Key :=
  match faultK k.s t with
  | some _ => (s, [.inr "malformed"])
  | none => match badR s k (refsL k.s t) with
    | some r => (s, lacksR (SX.S r))
    | none => keepR (sto s ⟨k, t⟩) c (adrB ⟨k, t⟩)
def nameR (s : Rg) (c : Int) (nm a : Str) : Rg × List Key :=
  if a ∈ s.ks ∧ (s.B a).k ≠ .lay ∧ wh s.ks s.B 3 a = true then ({ (keepR s c a).1 with nk := putS s.nk nm, N := fun j => if j = nm then a else s.N j }, [.inr "named", .inr nm, .inr a]) else (s, lacksR a)
def getR (s : Rg) (a : Str) (i m : Int) : List Key := if a ∈ s.ks then [.inr "piece", .inr a, .inr (s.B a).k.s, .inl i, .inr (Txt.slice (SX.S (s.B a).t) (some i) (some (i + m))), .inl ((s.B a).t.length : Int)] else lacksR a
def ans (s : Rg) : Rq → Rg × List Key
  | .opn => ({ s with n := s.n + 1, cs := s.cs ++ [s.n + 1], L := fun j => if j = s.n + 1 then [] else s.L j }, [.inr "claim", .inl (s.n + 1)])
  | .has c a => if c ∈ s.cs then hasR s c a else (s, lapsedR c)
  | .start c => if c ∈ s.cs then ({ s with un := s.un + 1, ts := s.ts ++ [s.un + 1], X := fun j => if j = s.un + 1 then [] else s.X j }, [.inr "upload", .inl (s.un + 1)]) else (s, lapsedR c)
  | .part u i t => partR s u i t
  | .fin u c a => finR s u c a
  | .put c k t => if c ∈ s.cs then putR s c k t else (s, lapsedR c)
  | .name c nm a => if c ∈ s.cs then nameR s c nm a else (s, lapsedR c)
  | .close c => ({ s with cs := s.cs.filter fun j => decide (j ≠ c) }, [.inr "closed", .inl c])
  | .look nm => (s, if nm ∈ s.nk then [.inr "leads", .inr nm, .inr (s.N nm)] else [.inr "nothing", .inr nm])
  | .get a i m => (s, getR s a i m)
  | .drop nm => ({ s with nk := s.nk.filter fun j => decide (j ≠ nm) }, [.inr "dropped", .inr nm])
/-- a request's texts -/
def Rq.Ok : Rq → Prop
  | .part _ _ t => okC t ∧ t.length ≤ 1000
  | .put _ k t => k ≠ .lay ∧ okC t ∧ t.length ≤ 10000
  | _ => True
structure RWf (s : Rg) : Prop where
  sw : SWf s.ks s.B
  kl : s.ks.length ≤ 900
  cle : ∀ k ∈ s.cs, k ≤ s.n
  cl : s.cs.length ≤ 900
  Ll : ∀ i, (s.L i).length ≤ 900
  ule : ∀ k ∈ s.ts, k ≤ s.un
  ul : s.ts.length ≤ 900
  Xl : ∀ i, (s.X i).length ≤ 9000 ∧ okC (s.X i)
  nl : s.nk.length ≤ 900
  cn : s.cs.Nodup
  nn : s.nk.Nodup
/-- as far as keeping asks for it -/
structure KWf (s : Rg) : Prop where
  sw : SWf s.ks s.B
  kl : s.ks.length ≤ 1000
  Ll : ∀ i, (s.L i).length ≤ 1000
theorem RWf.k {s : Rg} (h : RWf s) : KWf s := ⟨h.sw, Nat.le_trans h.kl (by decide), fun i => Nat.le_trans (h.Ll i) (by decide)⟩
theorem RWf.unup {s : Rg} (h : RWf s) (u : Int) : RWf (unup s u) := ⟨h.sw, h.kl, h.cle, h.cl, h.Ll, fun k hk => h.ule k (List.mem_filter.mp hk).1, Nat.le_trans (List.length_filter_le _ _) h.ul, h.Xl, h.nl, h.cn, h.nn⟩
theorem RWf.sto {s : Rg} (h : RWf s) {b : Bl} (hb : b.Ok) : KWf (sto s b) := ⟨h.sw.put hb, by have := @putS_len s.ks (adrB b); have := h.kl; show (putS s.ks (adrB b)).length ≤ 1000; omega, fun i => Nat.le_trans (h.Ll i) (by decide)⟩
/-- what is shaded is whole -/
def ShOk (s : Rg) (a : Str) : Prop := s.ph = "idle" ∨ (a ∈ s.ks ∧ wh s.ks s.B 3 a = true ∧ s.mr.length ≤ 9000)
def AnsOk (s : Rg) : Rq → Prop
  | .put _ k t => s.ph = "idle" ∨ (wh (sto s ⟨k, t⟩).ks (sto s ⟨k, t⟩).B 3 (adrB ⟨k, t⟩) = true ∧ s.mr.length ≤ 9000)
  | _ => s.ph = "idle" ∨ s.mr.length ≤ 9000
theorem wh_in {ks : List Str} {B : Str → Bl} {n : Nat} {a : Str} (h : wh ks B (n + 1) a = true) : a ∈ ks := by
  unfold wh at h
  rw [Bool.and_eq_true, decide_eq_true_eq] at h
  exact h.1
theorem lay_wh {ks : List Str} {B : Str → Bl} {n : Nat} {a : Str} (h : a ∈ ks) (hk : (B a).k = .lay) : wh ks B (n + 1) a = true := by
  unfold wh
  rw [decide_eq_true h, refs_lay hk]
  rfl
theorem ded_le (l : List Str) : (ded l).length ≤ l.length := by
  have : ∀ (l acc : List Str), (addTo acc l).length ≤ acc.length + l.length := by
    intro l
    induction l with
    | nil => intro acc; exact Nat.le_refl _
    | cons y r ih =>
      intro acc
      show (addTo (if y ∈ acc then acc else acc ++ [y]) r).length ≤ _
      refine Nat.le_trans (ih _) ?_
      split
      · rw [List.length_cons]; omega
      · simp only [List.length_append, List.length_cons, List.length_nil]; omega
  have h := this l []
  simpa [ded] using h
theorem badR_nil {s : Rg} {k : Kd} {rs : List (List Nat)} (h : ∀ r ∈ rs, goodR s k r = true) : badR s k rs = none := by
  unfold badR
  rw [List.find?_eq_none]
  intro r hr
  rw [h r hr]; decide
theorem badR_at {s : Rg} {k : Kd} {rs : List (List Nat)} {i : Nat} {y : List Nat} (h : ∀ r ∈ rs.take i, goodR s k r = true) (hy : rs[i]? = some y) (hb : goodR s k y = false) : badR s k rs = some y := by
  unfold badR
  have e : rs = rs.take i ++ y :: rs.drop (i + 1) := by
    have hi := (List.getElem?_eq_some_iff.mp hy)
    obtain ⟨hi, he⟩ := hi
    conv => lhs; rw [← List.take_append_drop i rs, List.drop_eq_getElem_cons hi, he]
  rw [e, List.find?_append, show List.find? (fun r => !goodR s k r) (rs.take i) = none by
    rw [List.find?_eq_none]
    intro r hr
    rw [h r hr]; decide]
  show (List.find? (fun r => !goodR s k r) (y :: rs.drop (i + 1))) = some y
  rw [List.find?_cons_of_pos (by rw [hb]; decide)]
/-! ### promises -/
section
variable (CS CC CU CO CR : Addr)
/-- a reply of s' comes, the registry is then as s' says -/
def RpQ (c : Addr → Nat) (H : Hp) (x : Rx) (r : Rg × List Key) (Q : VK) : Prop := ∀ (c' : Addr → Nat) (H' : Hp) (t : Addr), RegAt CS CC CU CO CR c' H' x r.1 → Stp IReg c c' H H' → H' t = some (.tup (r.2.map kV)) → Q (.ref t) H'
def spShade : Sp := fun vs H Q _ => ∃ (c : Addr → Nat) (x : Rx) (s : Rg) (a : Str), vs = [.ref x.co, .str a] ∧ RegAt CS CC CU CO CR c H x s ∧ SWf s.ks s.B ∧ s.ks.length ≤ 1000 ∧ ShOk s a ∧ ∀ c' H', RegAt CS CC CU CO CR c' H' x (shd s a) → Stp (fun i => i = 6) c c' H H' → Q .non H'
def spKeptR : Sp := fun vs H Q _ => ∃ (c : Addr → Nat) (x : Rx) (s : Rg) (i : Int) (a : Str), vs = [.ref x.R, .int i, .str a] ∧ RegAt CS CC CU CO CR c H x s ∧ KWf s ∧ i ∈ s.cs ∧ ShOk s a ∧ RpQ CS CC CU CO CR c H x (keepR s i a) Q
def spAHas : Sp := fun vs H Q _ => ∃ (c : Addr → Nat) (x : Rx) (s : Rg) (i : Int) (a : Str), vs = [.ref x.R, .int i, .str a] ∧ RegAt CS CC CU CO CR c H x s ∧ RWf s ∧ i ∈ s.cs ∧ (s.ph = "idle" ∨ s.mr.length ≤ 9000) ∧ RpQ CS CC CU CO CR c H x (hasR s i a) Q
def spAPart : Sp := fun vs H Q _ => ∃ (c : Addr → Nat) (x : Rx) (s : Rg) (u i : Int) (t : List Nat), vs = [.ref x.R, .int u, .int i, .str (SX.S t)] ∧ RegAt CS CC CU CO CR c H x s ∧ RWf s ∧ t.length ≤ 1000 ∧ RpQ CS CC CU CO CR c H x (partR s u i t) Q
def spAFin : Sp := fun vs H Q _ => ∃ (c : Addr → Nat) (x : Rx) (s : Rg) (u i : Int) (a : Str), vs = [.ref x.R, .int u, .int i, .str a] ∧ RegAt CS CC CU CO CR c H x s ∧ RWf s ∧ (s.ph = "idle" ∨ s.mr.length ≤ 9000) ∧ RpQ CS CC CU CO CR c H x (finR s u i a) Q
def spAPut : Sp := fun vs H Q _ => ∃ (c : Addr → Nat) (x : Rx) (s : Rg) (i : Int) (k : Kd) (t : List Nat), vs = [.ref x.R, .int i, .str k.s, .str (SX.S t)] ∧ RegAt CS CC CU CO CR c H x s ∧ RWf s ∧ i ∈ s.cs ∧ (Rq.put i k t).Ok ∧ AnsOk s (.put i k t) ∧ RpQ CS CC CU CO CR c H x (putR s i k t) Q
def spAName : Sp := fun vs H Q _ => ∃ (c : Addr → Nat) (x : Rx) (s : Rg) (i : Int) (nm a : Str), vs = [.ref x.R, .int i, .str nm, .str a] ∧ RegAt CS CC CU CO CR c H x s ∧ RWf s ∧ i ∈ s.cs ∧ (s.ph = "idle" ∨ s.mr.length ≤ 9000) ∧ RpQ CS CC CU CO CR c H x (nameR s i nm a) Q
def spAGet : Sp := fun vs H Q _ => ∃ (c : Addr → Nat) (x : Rx) (s : Rg) (a : Str) (i m : Int), vs = [.ref x.R, .str a, .int i, .int m] ∧ RegAt CS CC CU CO CR c H x s ∧ RWf s ∧ RpQ CS CC CU CO CR c H x (s, getR s a i m) Q
def spDrop : Sp := fun vs H Q _ => ∃ (c : Addr → Nat) (x : Rx) (s : Rg) (nm : Str), vs = [.ref x.R, .str nm] ∧ RegAt CS CC CU CO CR c H x s ∧ ∀ c' H', RegAt CS CC CU CO CR c' H' x { s with nk := s.nk.filter fun j => decide (j ≠ nm) } → Stp IReg c c' H H' → Q .non H'
def spLapse : Sp := fun vs H Q _ => ∃ (c : Addr → Nat) (x : Rx) (s : Rg) (i : Int), vs = [.ref x.R, .int i] ∧ RegAt CS CC CU CO CR c H x s ∧ ∀ c' H', RegAt CS CC CU CO CR c' H' x { s with cs := s.cs.filter fun j => decide (j ≠ i) } → Stp IReg c c' H H' → Q .non H'
def spFall : Sp := fun vs H Q _ => ∃ (c : Addr → Nat) (x : Rx) (s : Rg), vs = [.ref x.R] ∧ RegAt CS CC CU CO CR c H x s ∧ ∀ c' H', RegAt CS CC CU CO CR c' H' x { s with ts := [], ph := "idle", mr := [], td := [], dm := [] } → Stp IReg c c' H H' → Q .non H'
def spStop : Sp := fun vs H Q _ => ∃ (c : Addr → Nat) (x : Rx) (s : Rg), vs = [.ref x.co] ∧ RegAt CS CC CU CO CR c H x s ∧ ∀ c' H', RegAt CS CC CU CO CR c' H' x { s with ph := "idle", mr := [], td := [], dm := [] } → Stp (fun i => i = 6) c c' H H' → Q .non H'
/-- the addresses to which names lead or which claims pin -/
def isRoot (s : Rg) (y : Str) : Prop := (∃ i ∈ s.cs, y ∈ s.L i) ∨ ∃ a ∈ s.nk, s.N a = y
def spRoots : Sp := fun vs H Q _ => ∃ (c : Addr → Nat) (x : Rx) (s : Rg) (D : List Str), vs = [.ref x.R] ∧ RegAt CS CC CU CO CR c H x s ∧ (∀ y, isRoot s y → y ∈ D) ∧ D.length < 64 ∧ s.nk.length ≤ 900 ∧
  ∀ (r : Addr) (ys : List Str) H', ys.Nodup → sortedS ys = true → (∀ y, y ∈ ys ↔ isRoot s y) → Same H H' → H' r = some (.lst (ys.map V.str)) → Q (.ref r) H'
def Rq.plain : Rq → Prop
  | .close _ => True | .look _ => True | .get _ _ _ => True | .drop _ => True | _ => False
def spPlain : Sp := fun vs H Q _ => ∃ (c : Addr → Nat) (x : Rx) (s : Rg) (q : Rq) (t : Addr), vs = [.ref x.R, .ref t] ∧ H t = some (.tup (q.b.map kV)) ∧ RegAt CS CC CU CO CR c H x s ∧ RWf s ∧ q.plain ∧ RpQ CS CC CU CO CR c H x (ans s q) Q
def spAns : Sp := fun vs H Q _ => ∃ (c : Addr → Nat) (x : Rx) (s : Rg) (q : Rq) (t : Addr), vs = [.ref x.R, .ref t] ∧ H t = some (.tup (q.b.map kV)) ∧ RegAt CS CC CU CO CR c H x s ∧ RWf s ∧ q.Ok ∧ AnsOk s q ∧ RpQ CS CC CU CO CR c H x (ans s q) Q
end
end Lw

/-! ## try .. except X: without a name -/
namespace Lw
open PySem L2
section
variable {X : Cx} {x : Str} {pos : Pos}
def tTryOnly (K : PySem.W.Frag) (c : Value) (tb : WX → TS) (ts : Addr → Value → Option Addr → TS) (Wout : WX) : TS := fun D σ H => tb (wOnly K c ts Wout D) D σ H
theorem ps_tryOnly {c : Value} {body suite : List Stmt} {b₀ : Stmt} {np pos' : Pos} {tb : WX → TS} {ts : Addr → Value → Option Addr → TS} {Wout : WX}
    (hs : X.stack = X.env :: X.outer) (hf : X.env.frame = some X.env.locals) (hc : Names X x c) (tk : Takes X Wout)
    (hb : ∀ (W : WX) (pn : List (Addr × Obj)) (xe : Value → Shared → Prop), Takes (X.tr pn xe) W → PassesOwn (model X.prog X.w) X.A X.env xe → PSs (X.tr pn xe) body (tb W))
    (hsu : ∀ (a : Addr) (oe : Obj) (cls : Value) (d : Option Addr) (pn : List (Addr × Obj)), Zc cls d oe → (∃ vs, oe.data = .fields vs) → PSs (X.suite a ((a, oe) :: pn)) (b₀ :: suite) (ts a cls d)) :
    PS X (.Try body [.ExceptHandler (some (.Name x np)) none (b₀ :: suite) pos'] [] [] pos) (tTryOnly X.K c tb ts Wout) := ps_try_only hs hf hc tk hb hsu
end
section
variable {σ : L2.St} {H : Hp} {K : PySem.W.Frag} {D : Ends}
theorem g_tryOnly {c : Value} {tb : WX → TS} {ts : Addr → Value → Option Addr → TS} {Wout : WX} (k : tb (wOnly K c ts Wout D) D σ H) : tTryOnly K c tb ts Wout D σ H := k
theorem g_caughtOnly {C : Addr} {ts : Addr → Value → Option Addr → TS} {Wout : WX} {d : Option Addr} (te : PySem.W.exmOne K (.ref C) (.ref C) = some true)
    (k : ∀ a, H a = none → ts a (.ref C) d D σ H) : wOnly K (.ref C) ts Wout D (.ref C) d σ H :=
  ⟨true, te, fun _ a ha => k a ha, fun q => Bool.noConfusion q⟩
end
end Lw

/-! ## the registry's walks -/
namespace Lw
open PySem L2
open PyProof.Rows (envOfC sortedS)
def spCoInit (C : Addr) : Sp := fun vs H Q _ => ∃ (p dx q : Addr), vs = [.ref p, .ref q] ∧ H p = some (.ins C dx []) ∧
  ∀ m t d H', H m = none → H t = none → H d = none → t ≠ d → m ≠ p → t ≠ p → d ≠ p → H' p = some (.ins C dx (f_Collector (.ref q) (.str "idle") (.ref m) (.ref t) (.ref d))) → H' m = some (.dK []) → H' t = some (.lst []) → H' d = some (.lst []) → (∀ b o, H b = some o → b ≠ p → H' b = some o) → Q .non H'
def Rg0 : Rg := { ks := [], B := fun _ => ⟨.lay, []⟩, nk := [], N := fun _ => "", n := 0, cs := [], L := fun _ => [], un := 0, ts := [], X := fun _ => [], ph := "idle", mr := [], td := [], dm := [] }
def spRInit (CS CC CU CO CR : Addr) : Sp := fun vs H Q _ => ∃ (c : Addr → Nat) (R dx : Addr), vs = [.ref R] ∧ H R = some (.ins CR dx []) ∧
  ∀ c' H' x, x.R = R → RegAt CS CC CU CO CR c' H' x Rg0 → (∀ b o, H b = some o → b ≠ R → H' b = some o ∧ c' b = c b) → Q .non H'
section
variable {P : Program} {w : World} {K : PySem.W.Frag} {mg : Str → Option Value} {base : Heap} {C_Claims C_Collector C_Store C_Uploads C_Registry C_Refused C_Malformed a_KINDS a_BELOW a_CLAIMED : Addr}
theorem ok_Collector___init__ (T : Txt w K mg C_Claims C_Collector C_Store C_Uploads C_Registry C_Refused C_Malformed a_KINDS a_BELOW a_CLAIMED) : Mak P w K mg base 1 "Collector" C_Collector (spCoInit C_Collector) := by
  refine mak_mk T.i_Collector sc_Collector___init__ (fun vs H Q E h => ?_) (fun f cdv A outer s H vs Q E hr h => ?_)
  · obtain ⟨p, dx, q, rfl, _⟩ := h
    rfl
  · obtain ⟨p, dx, q, rfl, hp, k⟩ := h
    refine ⟨_, (pss_cons (ps_fld (pv 0) (pv 1) rfl)
      (pss_cons (ps_fld (pv 0) (pe_str) rfl)
      (pss_cons (ps_fld (pv 0) (pe_dnewK) rfl)
      (pss_cons (ps_fld (pv 0) (pe_lst pa_nil) rfl)
      (pss_one (ps_fld (pv 0) (pe_lst pa_nil) rfl)))))), ?_⟩
    walk_at "lw"
    refine g_rsfld hp T.cl_Collector T.na_Collector_store (by show 0 < 1000; decide) fun H2 h2 k2 => ?_
    walk_at "lw"
    refine g_rsfld h2 T.cl_Collector T.na_Collector_phase (by show 1 < 1000; decide) fun H3 h3 k3 => ?_
    walk_at "lw"
    refine g_dnew fun m H4 nm s4 hm => ?_
    walk_at "lw"
    refine g_rsfld (s4 _ _ h3) T.cl_Collector T.na_Collector_marked (by show 2 < 1000; decide) fun H5 h5 k5 => ?_
    walk_at "lw"
    refine g_klst (by show 0 ≤ 100; decide) fun t H6 nt s6 ht => ?_
    walk_at "lw"
    refine g_rsfld (s6 _ _ h5) T.cl_Collector T.na_Collector_todo (by show 3 < 1000; decide) fun H7 h7 k7 => ?_
    walk_at "lw"
    refine g_klst (by show 0 ≤ 100; decide) fun d H8 nd s8 hd => ?_
    walk_at "lw"
    refine g_rsfld (s8 _ _ h7) T.cl_Collector T.na_Collector_doomed (by show 4 < 1000; decide) fun H9 h9 k9 => ?_
    rw [f_Collector_mk] at h9
    walk_at "lw"
    have mp : m ≠ p := (ne_of_none h3 nm).symm
    have tp : t ≠ p := (ne_of_none h5 nt).symm
    have dp : d ≠ p := (ne_of_none h7 nd).symm
    have ht7 : H7 t = some (.lst []) := by rw [k7 t tp]; exact ht
    have hm5 : H5 m = some (.dK []) := by rw [k5 m mp]; exact hm
    have hm7 : H7 m = some (.dK []) := by rw [k7 m mp]; exact s6.at hm5
    have up : ∀ b o, H b = some o → b ≠ p → H9 b = some o := fun b o e hb => by
      rw [k9 b hb]
      refine s8.at ?_
      rw [k7 b hb]
      refine s6.at ?_
      rw [k5 b hb]
      refine s4.at ?_
      rw [k3 b hb, k2 b hb]
      exact e
    have n0 : ∀ b, b ≠ p → H9 b = none → H b = none := fun b hb e => by
      cases q : H b with
      | none => rfl
      | some o => rw [up b o q hb] at e; cases e
    refine k m t d H9 (by rw [← k2 m mp, ← k3 m mp]; exact nm) ?_ ?_ (ne_of_none ht7 nd) mp tp dp h9 (by rw [k9 m mp]; exact s8.at hm7) (by rw [k9 t tp]; exact s8.at ht7) (by rw [k9 d dp]; exact hd) up
    · have e : H4 t = none := by rw [← k5 t tp]; exact nt
      have e := s4.free e
      rw [← k2 t tp, ← k3 t tp]; exact e
    · have e : H6 d = none := by rw [← k7 d dp]; exact nd
      have e := s6.free e
      have e : H4 d = none := by rw [← k5 d dp]; exact e
      have e := s4.free e
      rw [← k2 d dp, ← k3 d dp]; exact e
theorem RegAt.recol {CS CC CU CO CR : Addr} {c c' : Addr → Nat} {H : Hp} {x : Rx} {s : Rg} (W : RegAt CS CC CU CO CR c H x s) (h : ∀ b i, i ≠ 0 → c b = i → c' b = i) : RegAt CS CC CU CO CR c' H x s := by
  obtain ⟨r1, dx, r2⟩ := W.re
  obtain ⟨m1, m2⟩ := W.nm
  obtain ⟨sx, sd, s1, s2, s3, s4⟩ := W.st.ex
  obtain ⟨cx, cd, cA, c1, c2, c3, c4, c5, c6⟩ := W.cl.ex
  obtain ⟨ux, ud, u1, u2, u3, u4⟩ := W.up.ex
  obtain ⟨ox, om, ot, od, o1, o2, o3, o4, o5, o6, o7, o8, o9⟩ := W.co.ex
  exact ⟨⟨h _ _ (by decide) r1, dx, r2⟩, ⟨h _ _ (by decide) m1, m2⟩, ⟨sx, sd, h _ _ (by decide) s1, s2, h _ _ (by decide) s3, s4⟩, ⟨cx, cd, cA, h _ _ (by decide) c1, c2, h _ _ (by decide) c3, c4, fun i hi => ⟨h _ _ (by decide) (c5 i hi).1, (c5 i hi).2⟩, c6⟩, ⟨ux, ud, h _ _ (by decide) u1, u2, h _ _ (by decide) u3, u4⟩, ⟨ox, om, ot, od, h _ _ (by decide) o1, o2, h _ _ (by decide) o3, o4, h _ _ (by decide) o5, o6, h _ _ (by decide) o7, o8, o9⟩⟩
theorem lk_pf {k f : Str} {y : V} (h : ¬ f = k) : ∀ {fs : List (Str × V)}, (putF f y fs).lookup k = fs.lookup k := by
  intro fs
  induction fs with
  | nil =>
    show List.lookup k ((f, y) :: []) = _
    rw [lk_ne (by simpa using fun z => h z.symm)]
  | cons q r ih =>
    obtain ⟨g, u⟩ := q
    unfold putF
    split
    · rename_i e
      subst e
      rw [lk_ne (by simpa using fun z => h z.symm), lk_ne (by simpa using fun z => h z.symm)]
    · by_cases e : k = g
      · subst e; rw [lk_eq, lk_eq]
      · rw [lk_ne (by simpa using e), lk_ne (by simpa using e), ih]
theorem ok_Registry___init__ (T : Txt w K mg C_Claims C_Collector C_Store C_Uploads C_Registry C_Refused C_Malformed a_KINDS a_BELOW a_CLAIMED) : Mak P w K mg base 3 "Registry" C_Registry (spRInit C_Store C_Claims C_Uploads C_Collector C_Registry) := by
  have m_Store : Mak P w K mg base 1 "Store" C_Store (spSInit C_Store) := ok_Store___init__ T
  have m_Claims : Mak P w K mg base 1 "Claims" C_Claims (spCInit C_Claims) := ok_Claims___init__ T
  have m_Uploads : Mak P w K mg base 1 "Uploads" C_Uploads (spUInit C_Uploads) := ok_Uploads___init__ T
  have m_Collector : Mak P w K mg base 1 "Collector" C_Collector (spCoInit C_Collector) := ok_Collector___init__ T
  refine mak_mk T.i_Registry sc_Registry___init__ (fun vs H Q E h => ?_) (fun f cdv A outer s H vs Q E hr h => ?_)
  · obtain ⟨c, p, dx, rfl, _⟩ := h
    rfl
  · obtain ⟨c, p, dx, rfl, hp, k⟩ := h
    refine ⟨_, (pss_cons (ps_fld (pv 0) (pe_mk0 m_Store hr (by first | decide | omega) rfl) rfl)
      (pss_cons (ps_fld (pv 0) (pe_dnewK) rfl)
      (pss_cons (ps_fld (pv 0) (pe_mk0 m_Claims hr (by first | decide | omega) rfl) rfl)
      (pss_cons (ps_fld (pv 0) (pe_mk0 m_Uploads hr (by first | decide | omega) rfl) rfl)
      (pss_one (ps_fld (pv 0) (pe_mk m_Collector hr (by first | decide | omega) rfl (pa_cons (pe_fld (pv 0) rfl) pa_nil)) rfl)))))), ?_⟩
    walk_at "lw"
    have hc0 : ∃ c0 : Addr → Nat, c0 p = 5 ∧ ∀ b, b ≠ p → c0 b = 0 := ⟨Stp.paint (fun _ => 0) p 5, Stp.paint_same, fun b hb => Stp.paint_ne hb⟩
    obtain ⟨c0, hc0, hcb⟩ := hc0
    intro p1 dx1 np ndx nex
    refine ⟨p1, dx1, rfl, upd_same, fun l H1 nl hp1 hl kp => ⟨rfl, ?_⟩⟩
    have s1 : Same H H1 := Same.made np ndx kp
    have s1' : Same H (upd (upd H dx1 (.own p1)) p1 (.ins C_Store dx1 [])) := (Same.new ndx).thenNew (by rw [upd_ne nex.symm]; exact np)
    have npl : p1 ≠ l := fun z => by subst z; rw [upd_same] at nl; cases nl
    have nl1 : H l = none := s1'.free nl
    have st1 : Stp IReg c0 (Stp.paint (Stp.paint c0 p1 1) l 1) H H1 := Stp.sameC s1 fun b o e => by
      rw [Stp.paint_ne (ne_of_none e nl1), Stp.paint_ne (ne_of_none e np)]
    have S1 : StoreAt C_Store (Stp.paint (Stp.paint c0 p1 1) l 1) H1 p1 [] (fun _ => ⟨.lay, []⟩) := ⟨dx1, l, by rw [Stp.paint_ne npl]; exact Stp.paint_same, hp1, Stp.paint_same, fun _ => l, hl, fun a ha => nomatch ha⟩
    have hp := s1.at hp
    have hc1 : (Stp.paint (Stp.paint c0 p1 1) l 1) p = 5 := by rw [st1.col p _ (by assumption), hc0]
    generalize Stp.paint (Stp.paint c0 p1 1) l 1 = c1 at st1 S1 hc1
    clear s1 s1' kp hp1 hl npl nl1 nl np ndx nex
    walk_at "lw"
    refine g_rsfld hp T.cl_Registry T.na_Registry_store (by show 0 < 1000; decide) fun H2 h2 k2 => ?_
    have st2 : Stp (fun i => i = 5) c1 c1 H1 H2 := Stp.ch hp hc1 (fun xs z => by cases z) h2 k2
    have S2 := S1.frame st2 (by decide)
    have st := st1.trans (st2.mono fun i e => .inr (.inr (.inr (.inl e))))
    clear S1 st1 st2 k2 hp
    walk_at "lw"
    refine g_dnew fun nd H3 nnd s3 hnd => ?_
    have st3 : Stp (fun _ => False) c1 (Stp.paint c1 nd 5) H2 H3 := L2x_sameN s3 nnd
    have S3 := S2.frame st3 (fun z => z)
    have hc3 : Stp.paint c1 nd 5 p = 5 := by rw [st3.col p _ h2, hc1]
    have hcn3 : Stp.paint c1 nd 5 nd = 5 := Stp.paint_same
    have h3 := s3.at h2
    have st := st.trans (st3.mono fun i z => z.elim)
    have pnd : nd ≠ p := (ne_of_none h2 nnd).symm
    generalize Stp.paint c1 nd 5 = c3 at st3 S3 hc3 hcn3 st
    clear st3 s3 S2 hc1 nnd h2
    walk_at "lw"
    refine g_rsfld h3 T.cl_Registry T.na_Registry_names (by show 1 < 1000; decide) fun H4 h4 k4 => ?_
    have st4 : Stp (fun i => i = 5) c3 c3 H3 H4 := Stp.ch h3 hc3 (fun xs z => by cases z) h4 k4
    have S4 := S3.frame st4 (by decide)
    have hnd4 : H4 nd = some (.dK []) := by rw [k4 nd pnd]; exact hnd
    have st := st.trans (st4.mono fun i e => .inr (.inr (.inr (.inl e))))
    clear st4 k4 S3 h3 hnd
    walk_at "lw"
    intro p2 dx2 np ndx nex
    refine ⟨p2, dx2, rfl, upd_same, fun l H5 nl hp2 hl kp => ⟨rfl, ?_⟩⟩
    have s5 : Same H4 H5 := Same.made np ndx kp
    have s5' : Same H4 (upd (upd H4 dx2 (.own p2)) p2 (.ins C_Claims dx2 [])) := (Same.new ndx).thenNew (by rw [upd_ne nex.symm]; exact np)
    have npl : p2 ≠ l := fun z => by subst z; rw [upd_same] at nl; cases nl
    have nl1 : H4 l = none := s5'.free nl
    have st5 : Stp (fun _ => False) c3 (Stp.paint (Stp.paint c3 p2 4) l 4) H4 H5 := Stp.sameC s5 fun b o e => by
      rw [Stp.paint_ne (ne_of_none e nl1), Stp.paint_ne (ne_of_none e np)]
    have W5 : ClaimsAt C_Claims (Stp.paint (Stp.paint c3 p2 4) l 4) H5 p2 0 [] (fun _ => []) := ⟨dx2, l, fun _ => l, by rw [Stp.paint_ne npl]; exact Stp.paint_same, hp2, Stp.paint_same, hl, (by simp), (by simp), (by simp)⟩
    have S5 := S4.frame st5 (fun z => z)
    have hc5 : (Stp.paint (Stp.paint c3 p2 4) l 4) p = 5 := by rw [st5.col p _ h4, hc3]
    have hcn5 : (Stp.paint (Stp.paint c3 p2 4) l 4) nd = 5 := by rw [st5.col nd _ hnd4, hcn3]
    have h5 := s5.at h4
    have hnd5 := s5.at hnd4
    have st := st.trans (st5.mono fun i z => z.elim)
    generalize Stp.paint (Stp.paint c3 p2 4) l 4 = c5 at st W5 S5 hc5 hcn5
    clear st5 s5 s5' npl nl1 nl np ndx nex kp hp2 hl S4 hc3 hcn3 h4 hnd4
    walk_at "lw"
    refine g_rsfld h5 T.cl_Registry T.na_Registry_claims (by show 2 < 1000; decide) fun H6 h6 k6 => ?_
    have st6 : Stp (fun i => i = 5) c5 c5 H5 H6 := Stp.ch h5 hc5 (fun xs z => by cases z) h6 k6
    have S6 := S5.frame st6 (by decide)
    have W6 := W5.frame st6 (by decide)
    have hnd6 : H6 nd = some (.dK []) := by rw [k6 nd pnd]; exact hnd5
    have st := st.trans (st6.mono fun i e => .inr (.inr (.inr (.inl e))))
    clear st6 k6 S5 W5 h5 hnd5
    walk_at "lw"
    intro p3 dx3 np ndx nex
    refine ⟨p3, dx3, rfl, upd_same, fun l H7 nl hp3 hl kp => ⟨rfl, ?_⟩⟩
    have s7 : Same H6 H7 := Same.made np ndx kp
    have s7' : Same H6 (upd (upd H6 dx3 (.own p3)) p3 (.ins C_Uploads dx3 [])) := (Same.new ndx).thenNew (by rw [upd_ne nex.symm]; exact np)
    have npl : p3 ≠ l := fun z => by subst z; rw [upd_same] at nl; cases nl
    have nl1 : H6 l = none := s7'.free nl
    have st7 : Stp (fun _ => False) c5 (Stp.paint (Stp.paint c5 p3 3) l 3) H6 H7 := Stp.sameC s7 fun b o e => by
      rw [Stp.paint_ne (ne_of_none e nl1), Stp.paint_ne (ne_of_none e np)]
    have U7 : UpAt C_Uploads (Stp.paint (Stp.paint c5 p3 3) l 3) H7 p3 0 [] (fun _ => []) := ⟨dx3, l, by rw [Stp.paint_ne npl]; exact Stp.paint_same, hp3, Stp.paint_same, hl⟩
    have S7 := S6.frame st7 (fun z => z)
    have W7 := W6.frame st7 (fun z => z)
    have hc7 : (Stp.paint (Stp.paint c5 p3 3) l 3) p = 5 := by rw [st7.col p _ h6, hc5]
    have hcn7 : (Stp.paint (Stp.paint c5 p3 3) l 3) nd = 5 := by rw [st7.col nd _ hnd6, hcn5]
    have h7 := s7.at h6
    have hnd7 := s7.at hnd6
    have st := st.trans (st7.mono fun i z => z.elim)
    generalize Stp.paint (Stp.paint c5 p3 3) l 3 = c7 at st U7 W7 S7 hc7 hcn7
    clear st7 s7 s7' npl nl1 nl np ndx nex kp hp3 hl S6 W6 hc5 hcn5 h6 hnd6
    walk_at "lw"
    refine g_rsfld h7 T.cl_Registry T.na_Registry_uploads (by show 3 < 1000; decide) fun H8 h8 k8 => ?_
    have st8 : Stp (fun i => i = 5) c7 c7 H7 H8 := Stp.ch h7 hc7 (fun xs z => by cases z) h8 k8
    have S8 := S7.frame st8 (by decide)
    have W8 := W7.frame st8 (by decide)
    have U8 := U7.frame st8 (by decide)
    have hnd8 : H8 nd = some (.dK []) := by rw [k8 nd pnd]; exact hnd7
    have st := st.trans (st8.mono fun i e => .inr (.inr (.inr (.inl e))))
    clear st8 k8 S7 W7 U7 h7 hnd7
    walk_at "lw"
    refine g_rfld h8 T.cl_Registry T.na_Registry_store ((lk_pf (by decide +kernel)).trans ((lk_pf (by decide +kernel)).trans ((lk_pf (by decide +kernel)).trans (by first | exact lk_eq | rfl)))) ?_
    walk_at "lw"
    intro p4 dx4 np ndx nex
    refine ⟨p4, dx4, p1, rfl, upd_same, fun m t d H9 nm nt nd' htd nmp ntp ndp hp4 hm ht hd kp => ⟨rfl, ?_⟩⟩
    have s9 : Same H8 H9 := Same.made np ndx kp
    have s9' : Same H8 (upd (upd H8 dx4 (.own p4)) p4 (.ins C_Collector dx4 [])) := (Same.new ndx).thenNew (by rw [upd_ne nex.symm]; exact np)
    have nm1 := s9'.free nm
    have nt1 := s9'.free nt
    have nd1 := s9'.free nd'
    let c9 : Addr → Nat := fun b => if b = p4 ∨ b = m ∨ b = t ∨ b = d then 6 else c7 b
    have st9 : Stp (fun _ => False) c7 c9 H8 H9 := Stp.sameC s9 fun b o e => if_neg (by
      rintro (z | z | z | z)
      · exact ne_of_none e np z
      · exact ne_of_none e nm1 z
      · exact ne_of_none e nt1 z
      · exact ne_of_none e nd1 z)
    have O9 : CoAt C_Collector c9 H9 p4 p1 "idle" [] [] [] := ⟨dx4, m, t, d, if_pos (.inl rfl), hp4, if_pos (.inr (.inl rfl)), hm, if_pos (.inr (.inr (.inl rfl))), ht, if_pos (.inr (.inr (.inr rfl))), hd, htd⟩
    have S9 := S8.frame st9 (fun z => z)
    have W9 := W8.frame st9 (fun z => z)
    have U9 := U8.frame st9 (fun z => z)
    have hc9 : c9 p = 5 := by rw [st9.col p _ h8, hc7]
    have hcn9 : c9 nd = 5 := by rw [st9.col nd _ hnd8, hcn7]
    have h9 := s9.at h8
    have hnd9 := s9.at hnd8
    have st := st.trans (st9.mono fun i z => z.elim)
    clear_value c9
    clear st9 s9 s9' nm1 nt1 nd1 nm nt nd' htd nmp ntp ndp hp4 hm ht hd kp np ndx nex S8 W8 U8 hc7 hcn7 h8 hnd8
    walk_at "lw"
    refine g_rsfld h9 T.cl_Registry T.na_Registry_collector (by show 4 < 1000; decide) fun H10 h10 k10 => ?_
    have st10 : Stp (fun i => i = 5) c9 c9 H9 H10 := Stp.ch h9 hc9 (fun xs z => by cases z) h10 k10
    rw [f_Registry_mk] at h10
    walk_at "lw"
    have stF := st.trans (st10.mono fun i e => (.inr (.inr (.inr (.inl e))) : IReg i))
    have WF : RegAt C_Store C_Claims C_Uploads C_Collector C_Registry c9 H10 ⟨p, p1, nd, p2, p3, p4⟩ Rg0 := ⟨⟨hc9, dx, h10⟩, ⟨hcn9, by rw [k10 nd pnd]; exact hnd9⟩, S9.frame st10 (by decide), W9.frame st10 (by decide), U9.frame st10 (by decide), O9.frame st10 (by decide)⟩
    refine k (fun b => if c9 b = 0 then c b else c9 b) H10 _ rfl (WF.recol fun b i hi e => by rw [if_neg (by omega)]; exact e) fun b o e hb => ?_
    have hb0 : c0 b = 0 := hcb b hb
    have hb9 : c9 b = 0 := by rw [stF.col b o e, hb0]
    exact ⟨stF.keep b o e (by rw [hb0]; rintro (z | z | z | z | z) <;> cases z), if_pos hb9⟩
end
end Lw

/-! ## the registry's walks, on -/
namespace Lw
open PySem L2
open PyProof.Rows (envOfC sortedS)
theorem RpQ.shift {CS CC CU CO CR : Addr} {c c1 : Addr → Nat} {H H1 : Hp} {x : Rx} {r : Rg × List Key} {Q : VK} (k : RpQ CS CC CU CO CR c H x r Q) (st : Stp IReg c c1 H H1) : RpQ CS CC CU CO CR c1 H1 x r Q := fun c' H' t W st' ht => k c' H' t W (st.trans st') ht
theorem i6 : ∀ i, i = 6 → IReg i := fun _ h => .inr (.inr (.inr (.inr h)))
theorem i5 : ∀ i, i = 5 → IReg i := fun _ h => .inr (.inr (.inr (.inl h)))
theorem i4 : ∀ i, i = 4 → IReg i := fun _ h => .inr (.inr (.inl h))
theorem i3 : ∀ i, i = 3 → IReg i := fun _ h => .inr (.inl h)
theorem i1 : ∀ i, i = 1 → IReg i := fun _ h => .inl h
section
variable {P : Program} {w : World} {K : PySem.W.Frag} {mg : Str → Option Value} {base : Heap} {C_Claims C_Collector C_Store C_Uploads C_Registry C_Refused C_Malformed a_KINDS a_BELOW a_CLAIMED : Addr}
theorem ok_Collector_stop (T : Txt w K mg C_Claims C_Collector C_Store C_Uploads C_Registry C_Refused C_Malformed a_KINDS a_BELOW a_CLAIMED) : Met P w K mg base 1 C_Collector "stop" (spStop C_Store C_Claims C_Uploads C_Collector C_Registry) := by
  refine met_mk T.cl_Collector T.m_Collector_stop sc_Collector_stop (fun vs H Q E h => ?_) (fun f cdv A outer s H vs Q E hr h => ?_)
  · obtain ⟨c, x, s, rfl, _⟩ := h
    rfl
  · obtain ⟨c, x, s', rfl, W, k⟩ := h
    obtain ⟨dx, m0, t0, d0, h1, hp, h3, h4, h5, h6, h7, h8, h9⟩ := W.co.ex
    refine ⟨_, (pss_cons (ps_fld (pv 0) (pe_str) rfl)
      (pss_cons (ps_fld (pv 0) (pe_dnewK) rfl)
      (pss_cons (ps_fld (pv 0) (pe_lst pa_nil) rfl)
      (pss_one (ps_fld (pv 0) (pe_lst pa_nil) rfl))))), ?_⟩
    walk_at "lw"
    refine g_rsfld hp T.cl_Collector T.na_Collector_phase f_Collector_len fun H3 p3 k3 => ?_
    rw [f_Collector_put_phase] at p3
    have st3 : Stp (fun i => i = 6) c c H H3 := Stp.ch hp h1 (fun xs z => by cases z) p3 k3
    walk_at "lw"
    refine g_dnew fun m H4 nm s4 hm => ?_
    have st4 : Stp (fun i => i = 6) c (Stp.paint c m 6) H3 H4 := L2x_sameN s4 nm
    have q4 : Stp.paint c m 6 x.co = 6 := by rw [st4.col _ _ p3, h1]
    have cm4 : Stp.paint c m 6 m = 6 := Stp.paint_same
    have mp : m ≠ x.co := (ne_of_none p3 nm).symm
    have st := st3.trans st4
    have p4 := s4.at p3
    generalize Stp.paint c m 6 = c4 at st q4 cm4
    clear st3 st4 s4 nm k3 p3
    walk_at "lw"
    refine g_rsfld p4 T.cl_Collector T.na_Collector_marked f_Collector_len fun H5 p5 k5 => ?_
    rw [f_Collector_put_marked] at p5
    have st := st.trans (Stp.ch p4 q4 (fun xs z => by cases z) p5 k5)
    have hm5 : H5 m = some (.dK []) := by rw [k5 m mp]; exact hm
    clear k5 p4 hm
    walk_at "lw"
    refine g_klst (by show 0 ≤ 100; decide) fun t H6 nt s6 ht => ?_
    have st6 : Stp (fun i => i = 6) c4 (Stp.paint c4 t 6) H5 H6 := L2x_sameN s6 nt
    have q6 : Stp.paint c4 t 6 x.co = 6 := by rw [st6.col _ _ p5, q4]
    have cm6 : Stp.paint c4 t 6 m = 6 := by rw [st6.col _ _ hm5, cm4]
    have ct6 : Stp.paint c4 t 6 t = 6 := Stp.paint_same
    have tp : t ≠ x.co := (ne_of_none p5 nt).symm
    have st := st.trans st6
    have p6 := s6.at p5
    have hm6 := s6.at hm5
    generalize Stp.paint c4 t 6 = c6 at st q6 cm6 ct6
    clear st6 s6 nt p5 hm5
    walk_at "lw"
    refine g_rsfld p6 T.cl_Collector T.na_Collector_todo f_Collector_len fun H7 p7 k7 => ?_
    rw [f_Collector_put_todo] at p7
    have st := st.trans (Stp.ch p6 q6 (fun xs z => by cases z) p7 k7)
    have hm7 : H7 m = some (.dK []) := by rw [k7 m mp]; exact hm6
    have ht7 : H7 t = some (.lst []) := by rw [k7 t tp]; exact ht
    clear k7 p6 hm6 ht
    walk_at "lw"
    refine g_klst (by show 0 ≤ 100; decide) fun d H8 nd s8 hd => ?_
    have st8 : Stp (fun i => i = 6) c6 (Stp.paint c6 d 6) H7 H8 := L2x_sameN s8 nd
    have q8 : Stp.paint c6 d 6 x.co = 6 := by rw [st8.col _ _ p7, q6]
    have cm8 : Stp.paint c6 d 6 m = 6 := by rw [st8.col _ _ hm7, cm6]
    have ct8 : Stp.paint c6 d 6 t = 6 := by rw [st8.col _ _ ht7, ct6]
    have cd8 : Stp.paint c6 d 6 d = 6 := Stp.paint_same
    have dp : d ≠ x.co := (ne_of_none p7 nd).symm
    have td : t ≠ d := ne_of_none ht7 nd
    have st := st.trans st8
    have p8 := s8.at p7
    have hm8 := s8.at hm7
    have ht8 := s8.at ht7
    generalize Stp.paint c6 d 6 = c8 at st q8 cm8 ct8 cd8
    clear st8 s8 nd p7 hm7 ht7
    walk_at "lw"
    refine g_rsfld p8 T.cl_Collector T.na_Collector_doomed f_Collector_len fun H9 p9 k9 => ?_
    rw [f_Collector_put_doomed] at p9
    have st := st.trans (Stp.ch p8 q8 (fun xs z => by cases z) p9 k9)
    walk_at "lw"
    exact k c8 H9 (W.coll ⟨dx, m, t, d, q8, p9, cm8, by rw [k9 m mp]; exact hm8, ct8, by rw [k9 t tp]; exact ht8, cd8, by rw [k9 d dp]; exact hd, td⟩ st) st
theorem ok_Collector_shade (T : Txt w K mg C_Claims C_Collector C_Store C_Uploads C_Registry C_Refused C_Malformed a_KINDS a_BELOW a_CLAIMED) : Met P w K mg base 10 C_Collector "shade" (spShade C_Store C_Claims C_Uploads C_Collector C_Registry) := by
  have t_Store_closure : Met P w K mg base 9 C_Store "closure" (spClo C_Store 2) := ok_Store_closure T
  refine met_mk T.cl_Collector T.m_Collector_shade sc_Collector_shade (fun vs H Q E h => ?_) (fun f cdv A outer s H vs Q E hr h => ?_)
  · obtain ⟨c, x, s, a, rfl, _⟩ := h
    rfl
  · obtain ⟨c, x, s', a, rfl, W, sw, kl, sh, k⟩ := h
    have hu := hu_of hr
    obtain ⟨d1, d2, d3, d4, d5, v1, v2, v3, v4, v5, v6, v7, v8, e1, e2, e3, e4, e5, e6⟩ := W.hs
    refine ⟨_, (pss_one (ps_if (pt_cmpR op_ne (pe_fld (pv 0) rfl) (pe_str) (nomark _)) (pss_one (ps_for PassesOwn.never rfl (pi_list (pe_mt t_Store_closure hr (by first | decide | omega) (pe_fld (pv 0) rfl) (pa_cons (pv 1) pa_nil))) (pg_name (i := 2) sc_Collector_shade.nd rfl (by first | exact Or.inl rfl | exact Or.inr rfl)) (pss_one (ps_dput hu (pe_fld (pv 0) rfl) (pv 2) (pe_bl) rfl)))) pss_nil)), ?_⟩
    walk_at "lw"
    unfold shd at k
    refine ifn2 (fun he => ?_) (fun he => ?_)
    · have he := str_eq.mp he
      rw [if_pos he] at k
      walk_at "lw"
      exact k c H W Stp.refl
    · have he : ¬ s'.ph = "idle" := fun z => he (by rw [z])
      rw [if_neg he] at k
      obtain ⟨ha, hw, hl⟩ := sh.resolve_left he
      walk_at "lw"
      refine ⟨c, x.p, s'.ks, s'.B, a, rfl, W.st, sw, ha, Kd.rk2 _, hw, by omega, fun r H1 s1 hr1 => ?_⟩
      have hcl := few_len (clo_nd s'.B 2 a) (clo_mem hw)
      refine g_ritL (SqL.of hr1) ?_
      refine for_at (G := fun H' => SqL K H' r ((clo s'.B 2 a).map V.str)) walk_list (fun i σ H' => H' r = some (.lst ((clo s'.B 2 a).map V.str)) ∧ RegAt C_Store C_Claims C_Uploads C_Collector C_Registry c H' x { s' with mr := ((clo s'.B 2 a).take i).foldl addD s'.mr } ∧ Stp (fun i => i = 6) c c H H' ∧ ∃ v : Option V, σ = [some (.ref x.co), some (.str a), v]) ⟨hr1, W.same s1, Stp.same s1, none, rfl⟩ (fun i σ H' h => SqL.of h.1) ?_ ?_
      · rintro i y σ H2 hy ⟨hr2, W2, st2, v, rfl⟩
        obtain ⟨z, hz, rfl⟩ := map_at hy
        obtain ⟨dx, m0, t0, d0, h1, hp, h3, h4, h5, h6, h7, h8, h9⟩ := W2.co.ex
        walk_at "lw"
        refine g_rdputS h4 ?_ fun H3 m3 k3 => ?_
        · rw [mkS_len]
          have := foldl_addD_len ((clo s'.B 2 a).take i) s'.mr
          have := (List.take_sublist i (clo s'.B 2 a)).length_le
          show (List.foldl addD s'.mr ((clo s'.B 2 a).take i)).length < 100000
          omega
        walk_at "lw"
        rw [putK_S] at m3
        have st3 : Stp (fun i => i = 6) c c H2 H3 := Stp.ch h4 h3 (fun xs z => by cases z) m3 k3
        have e : (fun j => if j = z then V.bl true else V.bl true) = (fun _ : Str => V.bl true) := funext fun j => ite_self _
        rw [e] at m3
        refine ⟨by rw [k3 r (ne_of hr2 h4 (by intro z; cases z))]; exact hr2, ?_, st2.trans st3, _, rfl⟩
        rw [take_ok hz, List.foldl_append]
        exact W2.coll (mk := addD (List.foldl addD s'.mr ((clo s'.B 2 a).take i)) z) ⟨dx, m0, t0, d0, h1, by rw [k3 _ (ne_of hp h4 (by intro z; cases z))]; exact hp, h3, m3, h5, by rw [k3 _ (ne_of h6 h4 (by intro z; cases z))]; exact h6, h7, by rw [k3 _ (ne_of h8 h4 (by intro z; cases z))]; exact h8, h9⟩ st3
      · rintro σ H2 ⟨hr2, W2, st2, v, rfl⟩
        rw [List.length_map, List.take_length] at W2
        walk_at "lw"
        exact k c H2 W2 st2
theorem ok_Registry_kept (T : Txt w K mg C_Claims C_Collector C_Store C_Uploads C_Registry C_Refused C_Malformed a_KINDS a_BELOW a_CLAIMED) : Met P w K mg base 11 C_Registry "kept" (spKeptR C_Store C_Claims C_Uploads C_Collector C_Registry) := by
  have t_Claims_pin : Met P w K mg base 1 C_Claims "pin" (spCPin C_Claims) := ok_Claims_pin T
  have t_Collector_shade : Met P w K mg base 10 C_Collector "shade" (spShade C_Store C_Claims C_Uploads C_Collector C_Registry) := ok_Collector_shade T
  refine met_mk T.cl_Registry T.m_Registry_kept sc_Registry_kept (fun vs H Q E h => ?_) (fun f cdv A outer s H vs Q E hr h => ?_)
  · obtain ⟨c, x, s, i, a, rfl, _⟩ := h
    rfl
  · obtain ⟨c, x, s', i, a, rfl, W, wf, hi, sh, k⟩ := h
    have hu := hu_of hr
    obtain ⟨d1, d2, d3, d4, d5, v1, v2, v3, v4, v5, v6, v7, v8, e1, e2, e3, e4, e5, e6⟩ := W.hs
    refine ⟨_, (pss_cons (ps_expr (pe_mt t_Claims_pin hr (by first | decide | omega) (pe_fld (pv 0) rfl) (pa_cons (pv 1) (pa_cons (pv 2) pa_nil))))
      (pss_cons (ps_expr (pe_mt t_Collector_shade hr (by first | decide | omega) (pe_fld (pv 0) rfl) (pa_cons (pv 2) pa_nil)))
      (pss_one (ps_ret (pe_tup (pa_cons (pe_str) (pa_cons (pv 2) pa_nil))))))), ?_⟩
    walk_at "lw"
    refine ⟨c, x.cp, s'.n, i, a, s'.cs, s'.L, rfl, W.cl, hi, Nat.le_trans (ded_le _) (wf.Ll i), fun H1 C1 st1 => ?_⟩
    have W1 : RegAt C_Store C_Claims C_Uploads C_Collector C_Registry c H1 x (pin s' i a) := W.claims C1 st1
    clear e1 e2 e3 e4 e5 e6
    obtain ⟨d1, d2, d3, d4, d5, v1, v2, v3, v4, v5, v6, v7, v8, e1, e2, e3, e4, e5, e6⟩ := W1.hs
    walk_at "lw"
    refine ⟨c, x, pin s' i a, a, rfl, W1, wf.sw, wf.kl, sh, fun c2 H2 W2 st2 => ?_⟩
    walk_at "lw"
    refine g_ktup (by show 2 ≤ 100; decide) fun t H3 nt s3 ht => ?_
    walk_at "lw"
    exact k c2 H3 t (W2.same s3) (((st1.mono i4).trans (st2.mono i6)).trans (Stp.same s3)) ht
theorem ok_Registry_answer_has (T : Txt w K mg C_Claims C_Collector C_Store C_Uploads C_Registry C_Refused C_Malformed a_KINDS a_BELOW a_CLAIMED) : Met P w K mg base 12 C_Registry "answer_has" (spAHas C_Store C_Claims C_Uploads C_Collector C_Registry) := by
  have t_Store_is_whole : Met P w K mg base 9 C_Store "is_whole" (spWhx C_Store 2) := ok_Store_is_whole T
  have t_Registry_kept : Met P w K mg base 11 C_Registry "kept" (spKeptR C_Store C_Claims C_Uploads C_Collector C_Registry) := ok_Registry_kept T
  refine met_mk T.cl_Registry T.m_Registry_answer_has sc_Registry_answer_has (fun vs H Q E h => ?_) (fun f cdv A outer s H vs Q E hr h => ?_)
  · obtain ⟨c, x, s, i, a, rfl, _⟩ := h
    rfl
  · obtain ⟨c, x, s', i, a, rfl, W, wf, hi, sh, k⟩ := h
    have hu := hu_of hr
    obtain ⟨d1, d2, d3, d4, d5, v1, v2, v3, v4, v5, v6, v7, v8, e1, e2, e3, e4, e5, e6⟩ := W.hs
    refine ⟨_, (pss_cons (ps_if (pt_val (pe_mt t_Store_is_whole hr (by first | decide | omega) (pe_fld (pv 0) rfl) (pa_cons (pv 2) pa_nil))) (pss_one (ps_ret (pe_mt t_Registry_kept hr (by first | decide | omega) (pv 0) (pa_cons (pv 1) (pa_cons (pv 2) pa_nil))))) pss_nil)
      (pss_one (ps_ret (pe_tup (pa_cons (pe_str) (pa_cons (pv 2) pa_nil)))))), ?_⟩
    walk_at "lw"
    refine ⟨c, x.p, s'.ks, s'.B, a, rfl, W.st, wf.sw, fun _ => Kd.rk2 _, fun H1 s1 => ?_⟩
    have W1 := W.same s1
    have k := k.shift (Stp.same s1)
    clear e1 e2 e3 e4 e5 e6
    obtain ⟨d1, d2, d3, d4, d5, v1, v2, v3, v4, v5, v6, v7, v8, e1, e2, e3, e4, e5, e6⟩ := W1.hs
    unfold hasR at k
    cases hw : wh s'.ks s'.B (2 + 1) a with
    | true =>
      have hw : wh s'.ks s'.B 3 a = true := hw
      rw [if_pos hw] at k
      walk_at "lw"
      exact ⟨c, x, s', i, a, rfl, W1, wf.k, hi, sh.imp id fun z => ⟨wh_in hw, hw, z⟩, k⟩
    | false =>
      have hw : wh s'.ks s'.B 3 a = false := hw
      rw [if_neg (by rw [hw]; decide)] at k
      walk_at "lw"
      refine g_ktup (by show 2 ≤ 100; decide) fun t H3 nt s3 ht => ?_
      walk_at "lw"
      exact k c H3 t (W1.same s3) (Stp.same s3) ht
theorem ok_Registry_answer_part (T : Txt w K mg C_Claims C_Collector C_Store C_Uploads C_Registry C_Refused C_Malformed a_KINDS a_BELOW a_CLAIMED) : Met P w K mg base 2 C_Registry "answer_part" (spAPart C_Store C_Claims C_Uploads C_Collector C_Registry) := by
  have t_Uploads_add_part : Met P w K mg base 1 C_Uploads "add_part" (spUAdd C_Uploads) := ok_Uploads_add_part T
  refine met_mk T.cl_Registry T.m_Registry_answer_part sc_Registry_answer_part (fun vs H Q E h => ?_) (fun f cdv A outer s H vs Q E hr h => ?_)
  · obtain ⟨c, x, s, u, i, t, rfl, _⟩ := h
    rfl
  · obtain ⟨c, x, s', u, i, t, rfl, W, wf, hl, k⟩ := h
    have hu := hu_of hr
    obtain ⟨d1, d2, d3, d4, d5, v1, v2, v3, v4, v5, v6, v7, v8, e1, e2, e3, e4, e5, e6⟩ := W.hs
    refine ⟨_, (pss_cons (ps_set (i := 4) sc_Registry_answer_part.nd rfl (by first | exact Or.inl rfl | exact Or.inr rfl) (pe_mt t_Uploads_add_part hr (by first | decide | omega) (pe_fld (pv 0) rfl) (pa_cons (pv 1) (pa_cons (pv 2) (pa_cons (pv 3) pa_nil)))))
      (pss_cons (ps_if (pt_cmpR op_isN' (pv 4) (pe_non) (nomark _)) (pss_one (ps_ret (pe_tup (pa_cons (pe_str) (pa_cons (pv 1) pa_nil))))) pss_nil)
      (pss_one (ps_ret (pe_tup (pa_cons (pe_str) (pa_cons (pv 1) (pa_cons (pv 4) pa_nil)))))))), ?_⟩
    walk_at "lw"
    unfold partR at k
    refine ⟨c, x.up, s'.un, u, i, t, s'.ts, s'.X, rfl, W.up, by have := wf.ul; omega, by have := (wf.Xl u).1; omega, fun hn => ?_, fun hy he => ?_, fun hy he H1 U1 st1 => ?_⟩
    · rw [if_neg hn] at k
      walk_at "lw"
      refine g_ktup (by show 2 ≤ 100; decide) fun t H3 nt s3 ht => ?_
      walk_at "lw"
      exact k c H3 t (W.same s3) (Stp.same s3) ht
    · rw [if_pos hy, if_neg he] at k
      walk_at "lw"
      refine ifn (by intro z; cases z) ?_
      walk_at "lw"
      refine g_ktup (by show 3 ≤ 100; decide) fun t H3 nt s3 ht => ?_
      walk_at "lw"
      exact k c H3 t (W.same s3) (Stp.same s3) ht
    · rw [if_pos hy, if_pos he] at k
      have W1 := W.ups U1 st1
      walk_at "lw"
      refine ifn (by intro z; cases z) ?_
      walk_at "lw"
      refine g_ktup (by show 3 ≤ 100; decide) fun t H3 nt s3 ht => ?_
      walk_at "lw"
      exact k c H3 t (W1.same s3) ((st1.mono i3).trans (Stp.same s3)) ht
end
end Lw

/-! ## the registry's walks, on -/
namespace Lw
open PySem L2
open PyProof.Rows (envOfC sortedS)
theorem adrB_def (b : Bl) : adr b.k.s b.t = adrB b := rfl
section
variable {P : Program} {w : World} {K : PySem.W.Frag} {mg : Str → Option Value} {base : Heap} {C_Claims C_Collector C_Store C_Uploads C_Registry C_Refused C_Malformed a_KINDS a_BELOW a_CLAIMED : Addr}
theorem ok_Registry_answer_finish (T : Txt w K mg C_Claims C_Collector C_Store C_Uploads C_Registry C_Refused C_Malformed a_KINDS a_BELOW a_CLAIMED) : Met P w K mg base 12 C_Registry "answer_finish" (spAFin C_Store C_Claims C_Uploads C_Collector C_Registry) := by
  have t_Store_is_whole : Met P w K mg base 9 C_Store "is_whole" (spWhx C_Store 2) := ok_Store_is_whole T
  have t_Store_keep : Met P w K mg base 2 C_Store "keep" (spKeep C_Store) := ok_Store_keep T
  have t_Claims_is_open : Met P w K mg base 1 C_Claims "is_open" (spCOpen C_Claims) := ok_Claims_is_open T
  have t_Uploads_finish : Met P w K mg base 1 C_Uploads "finish" (spUFin C_Uploads) := ok_Uploads_finish T
  have c_address_of : Cal P w K mg base 1 "address_of" spAddr := ok_address_of T
  have t_Registry_kept : Met P w K mg base 11 C_Registry "kept" (spKeptR C_Store C_Claims C_Uploads C_Collector C_Registry) := ok_Registry_kept T
  refine met_mk T.cl_Registry T.m_Registry_answer_finish sc_Registry_answer_finish (fun vs H Q E h => ?_) (fun f cdv A outer s H vs Q E hr h => ?_)
  · obtain ⟨c, x, s, u, i, a, rfl, _⟩ := h
    rfl
  · obtain ⟨c, x, s', u, i, a, rfl, W, wf, sh, k⟩ := h
    have hu := hu_of hr
    obtain ⟨d1, d2, d3, d4, d5, v1, v2, v3, v4, v5, v6, v7, v8, e1, e2, e3, e4, e5, e6⟩ := W.hs
    refine ⟨_, (pss_cons (ps_if (pt_not (pt_val (pe_mt t_Claims_is_open hr (by first | decide | omega) (pe_fld (pv 0) rfl) (pa_cons (pv 2) pa_nil)))) (pss_one (ps_ret (pe_tup (pa_cons (pe_str) (pa_cons (pv 2) pa_nil))))) pss_nil)
      (pss_cons (ps_set (i := 4) sc_Registry_answer_finish.nd rfl (by first | exact Or.inl rfl | exact Or.inr rfl) (pe_mt t_Uploads_finish hr (by first | decide | omega) (pe_fld (pv 0) rfl) (pa_cons (pv 1) pa_nil)))
      (pss_cons (ps_if (pt_cmpR op_isN' (pv 4) (pe_non) (nomark _)) (pss_cons (ps_if (pt_val (pe_mt t_Store_is_whole hr (by first | decide | omega) (pe_fld (pv 0) rfl) (pa_cons (pv 3) pa_nil))) (pss_one (ps_ret (pe_mt t_Registry_kept hr (by first | decide | omega) (pv 0) (pa_cons (pv 2) (pa_cons (pv 3) pa_nil))))) pss_nil)
      (pss_one (ps_ret (pe_tup (pa_cons (pe_str) (pa_cons (pv 1) pa_nil)))))) pss_nil)
      (pss_cons (ps_if (pt_cmpR op_ne (pe_c c_address_of hr (by first | decide | omega) rfl (pa_cons (pe_str) (pa_cons (pv 4) pa_nil))) (pv 3) (nomark _)) (pss_one (ps_ret (pe_tup (pa_cons (pe_str) (pa_cons (pv 3) pa_nil))))) pss_nil)
      (pss_cons (ps_expr (pe_mt t_Store_keep hr (by first | decide | omega) (pe_fld (pv 0) rfl) (pa_cons (pe_str) (pa_cons (pv 4) pa_nil))))
      (pss_one (ps_ret (pe_mt t_Registry_kept hr (by first | decide | omega) (pv 0) (pa_cons (pv 2) (pa_cons (pv 3) pa_nil)))))))))), ?_⟩
    walk_at "lw"
    refine ⟨c, x.cp, s'.n, i, s'.cs, s'.L, rfl, W.cl, ?_⟩
    walk_at "lw"
    unfold finR at k
    refine ifn2 (fun hi => ?_) (fun hi => ?_)
    rotate_left
    · rw [if_neg hi] at k
      walk_at "lw"
      refine g_ktup (by show 2 ≤ 100; decide) fun t H3 nt s3 ht => ?_
      walk_at "lw"
      exact k c H3 t (W.same s3) (Stp.same s3) ht
    · rw [if_pos hi] at k
      walk_at "lw"
      refine ⟨c, x.up, s'.un, u, s'.ts, s'.X, rfl, W.up, fun hn => ?_, fun hy H1 U1 st1 => ?_⟩
      · rw [if_neg hn] at k
        walk_at "lw"
        refine ⟨c, x.p, s'.ks, s'.B, a, rfl, W.st, wf.sw, fun _ => Kd.rk2 _, fun H1 s1 => ?_⟩
        have W1 := W.same s1
        have k := k.shift (Stp.same s1)
        clear e1 e2 e3 e4 e5 e6
        obtain ⟨d1, d2, d3, d4, d5, v1, v2, v3, v4, v5, v6, v7, v8, e1, e2, e3, e4, e5, e6⟩ := W1.hs
        cases hw : wh s'.ks s'.B (2 + 1) a with
        | true =>
          have hw : wh s'.ks s'.B 3 a = true := hw
          rw [if_pos hw] at k
          walk_at "lw"
          exact ⟨c, x, s', i, a, rfl, W1, wf.k, hi, sh.imp id fun z => ⟨wh_in hw, hw, z⟩, k⟩
        | false =>
          have hw : wh s'.ks s'.B 3 a = false := hw
          rw [if_neg (by rw [hw]; decide)] at k
          walk_at "lw"
          refine g_ktup (by show 2 ≤ 100; decide) fun t H3 nt s3 ht => ?_
          walk_at "lw"
          exact k c H3 t (W1.same s3) (Stp.same s3) ht
      · rw [if_pos hy] at k
        have W1 : RegAt C_Store C_Claims C_Uploads C_Collector C_Registry c H1 x (unup s' u) := W.ups U1 st1
        have k := k.shift (st1.mono i3)
        clear e1 e2 e3 e4 e5 e6
        obtain ⟨d1, d2, d3, d4, d5, v1, v2, v3, v4, v5, v6, v7, v8, e1, e2, e3, e4, e5, e6⟩ := W1.hs
        walk_at "lw"
        refine ifn (by intro z; cases z) ?_
        walk_at "lw"
        refine ⟨Kd.lay.s, s'.X u, rfl, Kd.s_kind _, ?_⟩
        walk_at "lw"
        refine ifn2 (fun he => ?_) (fun he => ?_)
        · have he : adrB ⟨.lay, s'.X u⟩ = a := str_eq.mp he
          rw [if_pos he] at k
          walk_at "lw"
          refine ⟨c, x.p, s'.ks, s'.B, ⟨.lay, s'.X u⟩, rfl, W1.st, by have := wf.kl; omega, fun H2 S2 st2 => ?_⟩
          have W2 : RegAt C_Store C_Claims C_Uploads C_Collector C_Registry c H2 x (sto (unup s' u) ⟨.lay, s'.X u⟩) := W1.store S2 st2
          have k := k.shift (st2.mono i1)
          clear e1 e2 e3 e4 e5 e6
          obtain ⟨d1, d2, d3, d4, d5, v1, v2, v3, v4, v5, v6, v7, v8, e1, e2, e3, e4, e5, e6⟩ := W2.hs
          walk_at "lw"
          refine ⟨c, x, _, i, a, rfl, W2, (wf.unup u).sto ⟨fault_lay _, by have := (wf.Xl u).1; show (s'.X u).length ≤ 10000; omega, (wf.Xl u).2⟩, hi, sh.imp id fun z => ?_, k⟩
          have hm : a ∈ putS s'.ks (adrB ⟨.lay, s'.X u⟩) := mem_putS.mpr (.inr he.symm)
          exact ⟨hm, lay_wh hm (by show (updB s'.B _ _ a).k = _; rw [← he, updB_same]), z⟩
        · have he : ¬ adrB ⟨.lay, s'.X u⟩ = a := fun z => he (by rw [← z]; rfl)
          rw [if_neg he] at k
          walk_at "lw"
          refine g_ktup (by show 2 ≤ 100; decide) fun t H3 nt s3 ht => ?_
          walk_at "lw"
          exact k c H3 t (W1.same s3) (Stp.same s3) ht
theorem ok_Registry_answer_put (T : Txt w K mg C_Claims C_Collector C_Store C_Uploads C_Registry C_Refused C_Malformed a_KINDS a_BELOW a_CLAIMED) : Met P w K mg base 12 C_Registry "answer_put" (spAPut C_Store C_Claims C_Uploads C_Collector C_Registry) := by
  have c_references : CalX P w K mg base 5 "references" (spRefs C_Malformed) := ok_references T
  have t_Store_is_whole : Met P w K mg base 9 C_Store "is_whole" (spWhx C_Store 2) := ok_Store_is_whole T
  have t_Store_blob : Met P w K mg base 1 C_Store "blob" (spBlob C_Store) := ok_Store_blob T
  have t_Store_keep : Met P w K mg base 2 C_Store "keep" (spKeep C_Store) := ok_Store_keep T
  have t_Registry_kept : Met P w K mg base 11 C_Registry "kept" (spKeptR C_Store C_Claims C_Uploads C_Collector C_Registry) := ok_Registry_kept T
  refine met_mk T.cl_Registry T.m_Registry_answer_put sc_Registry_answer_put (fun vs H Q E h => ?_) (fun f cdv A outer s H vs Q E hr h => ?_)
  · obtain ⟨c, x, s, i, kd, t, rfl, _⟩ := h
    rfl
  · obtain ⟨c, x, s', i, kd, t, rfl, W, wf, hi, ⟨hkd, hok, hlen⟩, sh, k⟩ := h
    have hu := hu_of hr
    obtain ⟨d1, d2, d3, d4, d5, v1, v2, v3, v4, v5, v6, v7, v8, e1, e2, e3, e4, e5, e6⟩ := W.hs
    refine ⟨_, (pss_cons (ps_tryOnly rfl rfl ⟨rfl, by decide, Or.inl T.gx_Malformed⟩ takes0 (fun W pn xe tk po => (pss_one (ps_set (i := 4) sc_Registry_answer_put.nd rfl (by first | exact Or.inl rfl | exact Or.inr rfl) (pe_cX c_references tk hr (by first | decide | omega) rfl (pa_cons (pv 2) (pa_cons (pv 3) pa_nil)))))) (fun a oe cls d pn hz hf => (pss_one (ps_ret (pe_tup (pa_cons (pe_str) pa_nil))))))
      (pss_cons (ps_for PassesOwn.never rfl (pi_list (pv 4)) (pg_name (i := 5) sc_Registry_answer_put.nd rfl (by first | exact Or.inl rfl | exact Or.inr rfl)) (pss_cons (ps_set (i := 6) sc_Registry_answer_put.nd rfl (by first | exact Or.inl rfl | exact Or.inr rfl) (pe_mt t_Store_blob hr (by first | decide | omega) (pe_fld (pv 0) rfl) (pa_cons (pv 5) pa_nil)))
      (pss_one (ps_if (PW.pt (pw_or (pt_cmpR op_isN' (pv 6) (pe_non) (nomark _)) (pw_or (pt_cmpR op_ne (pe_ix ix_tup (pv 6) (pe_int) (fun _ _ => rfl)) (pe_ix ix_kdict (pe_gc rfl T.g_BELOW) (pv 2) (fun _ _ => rfl)) (nomark _)) (pw_or1 (pt_not (pt_val (pe_mt t_Store_is_whole hr (by first | decide | omega) (pe_fld (pv 0) rfl) (pa_cons (pv 5) pa_nil)))))))) (pss_one (ps_ret (pe_tup (pa_cons (pe_str) (pa_cons (pv 5) pa_nil))))) pss_nil))))
      (pss_one (ps_ret (pe_mt t_Registry_kept hr (by first | decide | omega) (pv 0) (pa_cons (pv 1) (pa_cons (pe_mt t_Store_keep hr (by first | decide | omega) (pe_fld (pv 0) rfl) (pa_cons (pv 2) (pa_cons (pv 3) pa_nil))) pa_nil))))))), ?_⟩
    walk_at "lw"
    refine g_tryOnly ?_
    walk_at "lw"
    unfold putR at k
    refine ⟨kd.s, t, rfl, by omega, fun hf q H1 s1 hq => ?_, fun n hn d H1 s1 hd => ?_⟩
    · rw [hf] at k
      dsimp only at k
      have W1 := W.same s1
      have k := k.shift (Stp.same s1)
      clear e1 e2 e3 e4 e5 e6
      walk_at "lw"
      obtain ⟨lo, hlo, hkb⟩ : ∃ lo : Kd, kd.lo = some lo ∧ KDct K w a_BELOW kd.s (.str lo.s) := by
        cases kd with
        | lay => exact absurd rfl hkd
        | img => exact ⟨.lay, rfl, T.k_BELOW_image⟩
        | bun => exact ⟨.img, rfl, T.k_BELOW_bundle⟩
      refine g_ritL (SqL.of hq) ?_
      refine for_at (G := fun H' => SqL K H' q ((refsL kd.s t).map strS)) walk_list (fun m σ H' => Same H1 H' ∧ (∀ r ∈ (refsL kd.s t).take m, goodR s' kd r = true) ∧ ∃ v v2 : Option V, σ = [some (.ref x.R), some (.int i), some (.str kd.s), some (.str (SX.S t)), some (.ref q), v, v2]) ⟨Same.refl _, (fun r hr => nomatch hr), none, none, rfl⟩ (fun i σ H' h => SqL.of (h.1.at hq)) ?_ ?_
      · rintro m yy σ H2 hyy ⟨s2, hall, v, v2, rfl⟩
        obtain ⟨y, hy, rfl⟩ := map_at hyy
        have W2 := W1.same s2
        have k := k.shift (Stp.same s2)
        have bad : goodR s' kd y = false → RpQ C_Store C_Claims C_Uploads C_Collector C_Registry c H2 x (s', lacksR (SX.S y)) Q := fun hb => by
          rw [badR_at hall hy hb] at k
          exact k
        clear k
        obtain ⟨d1, d2, d3, d4, d5, v1, v2', v3, v4, v5, v6, v7, v8, e1, e2, e3, e4, e5, e6⟩ := W2.hs
        have fin : goodR s' kd y = false → ∀ H3, Same H2 H3 → ∀ (t : Addr) (H4 : Hp), Same H3 H4 → H4 t = some (.tup [.str "lacks", .str (SX.S y)]) → Q (.ref t) H4 := fun hb H3 s3 t H4 s4 ht => bad hb c H4 t ((W2.same s3).same s4) (Stp.same (s3.trans s4)) ht
        clear bad
        walk_at "lw"
        refine ⟨c, x.p, s'.ks, s'.B, SX.S y, rfl, W2.st, fun hn => ?_, fun hm tb htb => ?_⟩
        · walk_at "lw"
          refine g_ktup (by show 2 ≤ 100; decide) fun t' H3 nt s3 ht => ?_
          walk_at "lw"
          exact fin (by unfold goodR; rw [decide_eq_false hn, Bool.false_and]) H2 (Same.refl _) t' H3 s3 ht
        · walk_at "lw"
          refine ifn (by intro z; cases z) ?_
          walk_at "lw"
          refine g_rixT (SqT.of htb) (j := 0) (v := .str (s'.B (SX.S y)).k.s) rfl ?_
          walk_at "lw"
          refine ⟨a_BELOW, kd.s, .str lo.s, rfl, rfl, hkb, ?_⟩
          walk_at "lw"
          refine ifn2 (fun he => ?_) (fun he => ?_)
          · have he : lo = (s'.B (SX.S y)).k := (Kd.s_inj.mp (str_eq.mp he)).symm
            rw [he] at hlo
            walk_at "lw"
            refine ⟨c, x.p, s'.ks, s'.B, SX.S y, rfl, W2.st, wf.sw, fun _ => Kd.rk2 _, fun H3 s3 => ?_⟩
            walk_at "lw"
            cases hw : wh s'.ks s'.B (2 + 1) (SX.S y) with
            | true =>
              walk_at "lw"
              refine ⟨s2.trans s3, fun r hr => ?_, _, _, rfl⟩
              rw [take_ok hy] at hr
              rcases List.mem_append.mp hr with z | z
              · exact hall r z
              · rw [List.mem_singleton.mp z]
                unfold goodR
                rw [decide_eq_true hm, decide_eq_true hlo]
                exact hw
            | false =>
              walk_at "lw"
              refine g_ktup (by show 2 ≤ 100; decide) fun t' H4 nt s4 ht => ?_
              walk_at "lw"
              refine fin ?_ H3 s3 t' H4 s4 ht
              unfold goodR
              have hw : wh s'.ks s'.B 3 (SX.S y) = false := hw
              rw [hw, Bool.and_false, Bool.and_false]
          · have he : ¬ lo = (s'.B (SX.S y)).k := fun z => he (by rw [z])
            walk_at "lw"
            refine g_ktup (by show 2 ≤ 100; decide) fun t' H3 nt s3 ht => ?_
            walk_at "lw"
            refine fin ?_ H2 (Same.refl _) t' H3 s3 ht
            unfold goodR
            rw [decide_eq_false (fun z => he (Option.some.inj (hlo.symm.trans z))), Bool.false_and, Bool.and_false]
      · rintro σ H2 ⟨s2, hall, v, v2, rfl⟩
        rw [List.length_map, List.take_length] at hall
        have W2 := W1.same s2
        have k := k.shift (Stp.same s2)
        rw [badR_nil hall] at k
        dsimp only at k
        obtain ⟨d1, d2, d3, d4, d5, v1, v2', v3, v4, v5, v6, v7, v8, e1, e2, e3, e4, e5, e6⟩ := W2.hs
        walk_at "lw"
        refine ⟨c, x.p, s'.ks, s'.B, ⟨kd, t⟩, rfl, W2.st, by have := wf.kl; omega, fun H3 S3 st3 => ?_⟩
        have W3 : RegAt C_Store C_Claims C_Uploads C_Collector C_Registry c H3 x (sto s' ⟨kd, t⟩) := W2.store S3 st3
        have k := k.shift (st3.mono i1)
        clear e1 e2 e3 e4 e5 e6
        obtain ⟨d1, d2, d3, d4, d5, v1, v2', v3, v4, v5, v6, v7, v8, e1, e2, e3, e4, e5, e6⟩ := W3.hs
        walk_at "lw"
        exact ⟨c, x, _, i, adrB ⟨kd, t⟩, rfl, W3, wf.sto ⟨hf, hlen, hok⟩, hi, sh.imp id fun z => ⟨wh_in z.1, z.1, z.2⟩, k⟩
    · rw [hn] at k
      dsimp only at k
      refine g_caughtOnly T.te_Malformed fun a na => ?_
      walk_at "lw"
      refine g_ktup (by show 1 ≤ 100; decide) fun t H3 nt s3 ht => ?_
      walk_at "lw"
      exact k c H3 t ((W.same s1).same s3) (Stp.same (s1.trans s3)) ht
theorem ok_Registry_answer_name (T : Txt w K mg C_Claims C_Collector C_Store C_Uploads C_Registry C_Refused C_Malformed a_KINDS a_BELOW a_CLAIMED) : Met P w K mg base 12 C_Registry "answer_name" (spAName C_Store C_Claims C_Uploads C_Collector C_Registry) := by
  have t_Store_is_whole : Met P w K mg base 9 C_Store "is_whole" (spWhx C_Store 2) := ok_Store_is_whole T
  have t_Store_blob : Met P w K mg base 1 C_Store "blob" (spBlob C_Store) := ok_Store_blob T
  have t_Registry_kept : Met P w K mg base 11 C_Registry "kept" (spKeptR C_Store C_Claims C_Uploads C_Collector C_Registry) := ok_Registry_kept T
  refine met_mk T.cl_Registry T.m_Registry_answer_name sc_Registry_answer_name (fun vs H Q E h => ?_) (fun f cdv A outer s H vs Q E hr h => ?_)
  · obtain ⟨c, x, s, i, nm, a, rfl, _⟩ := h
    rfl
  · obtain ⟨c, x, s', i, nm, a, rfl, W, wf, hi, sh, k⟩ := h
    have hu := hu_of hr
    obtain ⟨d1, d2, d3, d4, d5, v1, v2, v3, v4, v5, v6, v7, v8, e1, e2, e3, e4, e5, e6⟩ := W.hs
    refine ⟨_, (pss_cons (ps_set (i := 4) sc_Registry_answer_name.nd rfl (by first | exact Or.inl rfl | exact Or.inr rfl) (pe_mt t_Store_blob hr (by first | decide | omega) (pe_fld (pv 0) rfl) (pa_cons (pv 3) pa_nil)))
      (pss_cons (ps_if (PW.pt (pw_or (pt_cmpR op_isN' (pv 4) (pe_non) (nomark _)) (pw_or (pt_cmpR op_eq (pe_ix ix_tup (pv 4) (pe_int) (fun _ _ => rfl)) (pe_str) (nomark _)) (pw_or1 (pt_not (pt_val (pe_mt t_Store_is_whole hr (by first | decide | omega) (pe_fld (pv 0) rfl) (pa_cons (pv 3) pa_nil)))))))) (pss_one (ps_ret (pe_tup (pa_cons (pe_str) (pa_cons (pv 3) pa_nil))))) pss_nil)
      (pss_cons (ps_expr (pe_mt t_Registry_kept hr (by first | decide | omega) (pv 0) (pa_cons (pv 1) (pa_cons (pv 3) pa_nil))))
      (pss_cons (ps_dput hu (pe_fld (pv 0) rfl) (pv 2) (pv 3) rfl)
      (pss_one (ps_ret (pe_tup (pa_cons (pe_str) (pa_cons (pv 2) (pa_cons (pv 3) pa_nil)))))))))), ?_⟩
    walk_at "lw"
    unfold nameR at k
    refine ⟨c, x.p, s'.ks, s'.B, a, rfl, W.st, fun hn => ?_, fun hm tb htb => ?_⟩
    · rw [if_neg (fun z => hn z.1)] at k
      walk_at "lw"
      refine g_ktup (by show 2 ≤ 100; decide) fun t H3 nt s3 ht => ?_
      walk_at "lw"
      exact k c H3 t (W.same s3) (Stp.same s3) ht
    · walk_at "lw"
      refine ifn (by intro z; cases z) ?_
      walk_at "lw"
      refine g_rixT (SqT.of htb) (j := 0) (v := .str (s'.B a).k.s) rfl ?_
      walk_at "lw"
      have no : ¬ (a ∈ s'.ks ∧ (s'.B a).k ≠ .lay ∧ wh s'.ks s'.B 3 a = true) → ∀ H3, Same H H3 → ∀ (t : Addr) (H4 : Hp), Same H3 H4 → H4 t = some (.tup [.str "lacks", .str a]) → Q (.ref t) H4 := fun hb H3 s3 t H4 s4 ht => by
        rw [if_neg hb] at k
        exact k c H4 t ((W.same s3).same s4) (Stp.same (s3.trans s4)) ht
      refine if2 (fun he => ?_) (fun he => ?_)
      · have he : (s'.B a).k = .lay := Kd.s_inj.mp (str_eq.mp he)
        walk_at "lw"
        refine g_ktup (by show 2 ≤ 100; decide) fun t H3 nt s3 ht => ?_
        walk_at "lw"
        exact no (fun z => z.2.1 he) H (Same.refl _) t H3 s3 ht
      · have he : (s'.B a).k ≠ .lay := fun z => he (by rw [z]; rfl)
        walk_at "lw"
        refine ⟨c, x.p, s'.ks, s'.B, a, rfl, W.st, wf.sw, fun _ => Kd.rk2 _, fun H1 s1 => ?_⟩
        have W1 := W.same s1
        clear e1 e2 e3 e4 e5 e6
        obtain ⟨d1, d2, d3, d4, d5, v1, v2, v3, v4, v5, v6, v7, v8, e1, e2, e3, e4, e5, e6⟩ := W1.hs
        cases hw : wh s'.ks s'.B (2 + 1) a with
        | true =>
          have hw : wh s'.ks s'.B 3 a = true := hw
          rw [if_pos ⟨hm, he, hw⟩] at k
          walk_at "lw"
          refine ⟨c, x, s', i, a, rfl, W1, wf.k, hi, sh.imp id fun z => ⟨hm, hw, z⟩, fun c2 H2 t2 W2 st2 ht2 => ?_⟩
          clear e1 e2 e3 e4 e5 e6
          obtain ⟨d1, d2, d3, d4, d5, v1, v2, v3, v4, v5, v6, v7, v8, e1, e2, e3, e4, e5, e6⟩ := W2.hs
          walk_at "lw"
          refine g_rdputS e6 (by rw [mkS_len]; have := wf.nl; show s'.nk.length < 100000; omega) fun H3 n3 k3 => ?_
          rw [putK_S] at n3
          have n3' : H3 x.nd = some (.dK (mkS (putS s'.nk nm) fun j => .str (if j = nm then a else s'.N j))) := by
            rw [n3]
            congr 2
            refine mkS_congr fun j _ => ?_
            by_cases z : j = nm
            · rw [if_pos z, if_pos z]
            · rw [if_neg z, if_neg z]; rfl
          obtain ⟨W3, st3⟩ := W2.names n3' k3
          walk_at "lw"
          refine g_ktup (by show 3 ≤ 100; decide) fun t H4 nt s4 ht => ?_
          walk_at "lw"
          exact k c2 H4 t (W3.same s4) (((Stp.same s1).trans st2).trans ((st3.mono i5).trans (Stp.same s4))) ht
        | false =>
          have hw : wh s'.ks s'.B 3 a = false := hw
          walk_at "lw"
          refine g_ktup (by show 2 ≤ 100; decide) fun t H3 nt s3 ht => ?_
          walk_at "lw"
          exact no (fun z => by rw [hw] at z; exact absurd z.2.2 (by decide)) H1 s1 t H3 s3 ht
theorem ok_Registry_answer_get (T : Txt w K mg C_Claims C_Collector C_Store C_Uploads C_Registry C_Refused C_Malformed a_KINDS a_BELOW a_CLAIMED) : Met P w K mg base 2 C_Registry "answer_get" (spAGet C_Store C_Claims C_Uploads C_Collector C_Registry) := by
  have t_Store_blob : Met P w K mg base 1 C_Store "blob" (spBlob C_Store) := ok_Store_blob T
  refine met_mk T.cl_Registry T.m_Registry_answer_get sc_Registry_answer_get (fun vs H Q E h => ?_) (fun f cdv A outer s H vs Q E hr h => ?_)
  · obtain ⟨c, x, s, a, i, m, rfl, _⟩ := h
    rfl
  · obtain ⟨c, x, s', a, i, m, rfl, W, wf, k⟩ := h
    have hu := hu_of hr
    obtain ⟨d1, d2, d3, d4, d5, v1, v2, v3, v4, v5, v6, v7, v8, e1, e2, e3, e4, e5, e6⟩ := W.hs
    refine ⟨_, (pss_cons (ps_set (i := 4) sc_Registry_answer_get.nd rfl (by first | exact Or.inl rfl | exact Or.inr rfl) (pe_mt t_Store_blob hr (by first | decide | omega) (pe_fld (pv 0) rfl) (pa_cons (pv 1) pa_nil)))
      (pss_cons (ps_if (pt_cmpR op_isN' (pv 4) (pe_non) (nomark _)) (pss_one (ps_ret (pe_tup (pa_cons (pe_str) (pa_cons (pv 1) pa_nil))))) pss_nil)
      (pss_one (ps_ret (pe_tup (pa_cons (pe_str) (pa_cons (pv 1) (pa_cons (pe_ix ix_tup (pv 4) (pe_int) (fun _ _ => rfl)) (pa_cons (pv 2) (pa_cons (pe_slice C8.sl_txt (pe_ix ix_tup (pv 4) (pe_int) (fun _ _ => rfl)) (po_some (pv 2)) (po_some (pe_op op_add (pv 2) (pv 3)))) (pa_cons (pe_callB call_len_str' (by rfl) T.n_len (by decide +kernel) (pa_cons (pe_ix ix_tup (pv 4) (pe_int) (fun _ _ => rfl)) pa_nil)) pa_nil))))))))))), ?_⟩
    walk_at "lw"
    unfold getR at k
    refine ⟨c, x.p, s'.ks, s'.B, a, rfl, W.st, fun hn => ?_, fun hm tb htb => ?_⟩
    · rw [if_neg hn] at k
      walk_at "lw"
      refine g_ktup (by show 2 ≤ 100; decide) fun t H3 nt s3 ht => ?_
      walk_at "lw"
      exact k c H3 t (W.same s3) (Stp.same s3) ht
    · rw [if_pos hm] at k
      walk_at "lw"
      refine ifn (by intro z; cases z) ?_
      have hl := (wf.sw.ok a hm).l
      walk_at "lw"
      refine g_rixT (SqT.of htb) (j := 0) (v := .str (s'.B a).k.s) rfl ?_
      walk_at "lw"
      refine g_rixT (SqT.of htb) (j := 1) (v := strS (s'.B a).t) rfl ?_
      walk_at "lw"
      refine g_rslS (by rw [SX.S_len]; exact Nat.le_trans hl (by decide)) ?_
      walk_at "lw"
      refine g_rixT (SqT.of htb) (j := 1) (v := strS (s'.B a).t) rfl ?_
      walk_at "lw"
      refine g_lenT (by rw [SX.S_len]; exact Nat.le_trans hl (by decide)) ?_
      rw [SX.S_len]
      walk_at "lw"
      refine g_ktup (by show 6 ≤ 100; decide) fun t H3 nt s3 ht => ?_
      walk_at "lw"
      exact k c H3 t (W.same s3) (Stp.same s3) ht
theorem ok_Registry_drop_name (T : Txt w K mg C_Claims C_Collector C_Store C_Uploads C_Registry C_Refused C_Malformed a_KINDS a_BELOW a_CLAIMED) : Met P w K mg base 1 C_Registry "drop_name" (spDrop C_Store C_Claims C_Uploads C_Collector C_Registry) := by
  refine met_mk T.cl_Registry T.m_Registry_drop_name sc_Registry_drop_name (fun vs H Q E h => ?_) (fun f cdv A outer s H vs Q E hr h => ?_)
  · obtain ⟨c, x, s, nm, rfl, _⟩ := h
    rfl
  · obtain ⟨c, x, s', nm, rfl, W, k⟩ := h
    have hu := hu_of hr
    obtain ⟨d1, d2, d3, d4, d5, v1, v2, v3, v4, v5, v6, v7, v8, e1, e2, e3, e4, e5, e6⟩ := W.hs
    refine ⟨_, (pss_one (ps_if (pt_cmp (pc_din hu (pv 1) (pe_fld (pv 0) rfl))) (pss_one (ps_ddel (pe_fld (pv 0) rfl) (pv 1))) pss_nil)), ?_⟩
    walk_at "lw"
    refine g_rdinS (.of e6) ?_
    rw [dec_in]
    walk_at "lw"
    refine if2 (fun hm => ?_) (fun hm => ?_)
    · walk_at "lw"
      refine g_rddelS e6 (by rw [valV_mkS, if_pos hm]; rfl) fun H2 d2' k2 => ?_
      rw [dropK_mkS] at d2'
      obtain ⟨W2, st2⟩ := W.names d2' k2
      walk_at "lw"
      exact k c H2 W2 (st2.mono i5)
    · walk_at "lw"
      refine k c H ?_ Stp.refl
      rw [show s'.nk.filter (fun j => decide (j ≠ nm)) = s'.nk from List.filter_eq_self.mpr fun j hj => decide_eq_true fun z => hm (by rw [← z]; exact hj)]
      exact W
theorem ok_Registry_lapse (T : Txt w K mg C_Claims C_Collector C_Store C_Uploads C_Registry C_Refused C_Malformed a_KINDS a_BELOW a_CLAIMED) : Met P w K mg base 2 C_Registry "lapse" (spLapse C_Store C_Claims C_Uploads C_Collector C_Registry) := by
  have t_Claims_end : Met P w K mg base 1 C_Claims "end" (spCEnd C_Claims) := ok_Claims_end T
  refine met_mk T.cl_Registry T.m_Registry_lapse sc_Registry_lapse (fun vs H Q E h => ?_) (fun f cdv A outer s H vs Q E hr h => ?_)
  · obtain ⟨c, x, s, i, rfl, _⟩ := h
    rfl
  · obtain ⟨c, x, s', i, rfl, W, k⟩ := h
    obtain ⟨d1, d2, d3, d4, d5, v1, v2, v3, v4, v5, v6, v7, v8, e1, e2, e3, e4, e5, e6⟩ := W.hs
    refine ⟨_, (pss_one (ps_expr (pe_mt t_Claims_end hr (by first | decide | omega) (pe_fld (pv 0) rfl) (pa_cons (pv 1) pa_nil)))), ?_⟩
    walk_at "lw"
    refine ⟨c, x.cp, s'.n, i, s'.cs, s'.L, rfl, W.cl, fun H1 C1 st1 => ?_⟩
    walk_at "lw"
    exact k c H1 (W.claims C1 st1) (st1.mono i4)
theorem ok_Registry_fall (T : Txt w K mg C_Claims C_Collector C_Store C_Uploads C_Registry C_Refused C_Malformed a_KINDS a_BELOW a_CLAIMED) : Met P w K mg base 2 C_Registry "fall" (spFall C_Store C_Claims C_Uploads C_Collector C_Registry) := by
  have t_Uploads_forget : Met P w K mg base 1 C_Uploads "forget" (spUForget C_Uploads) := ok_Uploads_forget T
  have t_Collector_stop : Met P w K mg base 1 C_Collector "stop" (spStop C_Store C_Claims C_Uploads C_Collector C_Registry) := ok_Collector_stop T
  refine met_mk T.cl_Registry T.m_Registry_fall sc_Registry_fall (fun vs H Q E h => ?_) (fun f cdv A outer s H vs Q E hr h => ?_)
  · obtain ⟨c, x, s, rfl, _⟩ := h
    rfl
  · obtain ⟨c, x, s', rfl, W, k⟩ := h
    obtain ⟨d1, d2, d3, d4, d5, v1, v2, v3, v4, v5, v6, v7, v8, e1, e2, e3, e4, e5, e6⟩ := W.hs
    refine ⟨_, (pss_cons (ps_expr (pe_mt0 t_Uploads_forget hr (by first | decide | omega) (pe_fld (pv 0) rfl)))
      (pss_one (ps_expr (pe_mt0 t_Collector_stop hr (by first | decide | omega) (pe_fld (pv 0) rfl))))), ?_⟩
    walk_at "lw"
    refine ⟨c, x.up, s'.un, s'.ts, s'.X, rfl, W.up, fun c1 H1 U1 st1 => ?_⟩
    have W1 := W.ups U1 st1
    clear e1 e2 e3 e4 e5 e6
    obtain ⟨d1, d2, d3, d4, d5, v1, v2, v3, v4, v5, v6, v7, v8, e1, e2, e3, e4, e5, e6⟩ := W1.hs
    walk_at "lw"
    refine ⟨c1, x, _, rfl, W1, fun c2 H2 W2 st2 => ?_⟩
    walk_at "lw"
    exact k c2 H2 W2 ((st1.mono i3).trans (st2.mono i6))
end
end Lw

/-! ## the registry's walks, on -/
namespace Lw
open PySem L2
open PyProof.Rows (envOfC sortedS)
theorem g_rinT {K : PySem.W.Frag} {H : Hp} {Q : VK} {p : Addr} {xs : List V} {x : V} {b : Bool} (h : SqT K H p xs) (hx : flatV x = true) (hs : xs.all flatV = true) (hb : inV x xs = b) (k : Q (.bl b) H) : rIn K false x (.ref p) H Q := ⟨p, xs, rfl, .inr h, hx, hs, by rw [if_neg (by decide), hb]; exact k⟩
theorem foldl_addD_snoc {l f : List Str} {y : Str} : (l ++ [y]).foldl addD f = addD (l.foldl addD f) y := by rw [List.foldl_append]; rfl
theorem bl_same {z : Str} : (fun j : Str => if j = z then V.bl true else V.bl true) = (fun _ : Str => V.bl true) := funext fun j => ite_self _
section
variable {P : Program} {w : World} {K : PySem.W.Frag} {mg : Str → Option Value} {base : Heap} {C_Claims C_Collector C_Store C_Uploads C_Registry C_Refused C_Malformed a_KINDS a_BELOW a_CLAIMED : Addr}
theorem ok_Registry_answer_plain (T : Txt w K mg C_Claims C_Collector C_Store C_Uploads C_Registry C_Refused C_Malformed a_KINDS a_BELOW a_CLAIMED) : Met P w K mg base 3 C_Registry "answer_plain" (spPlain C_Store C_Claims C_Uploads C_Collector C_Registry) := by
  have t_Claims_end : Met P w K mg base 1 C_Claims "end" (spCEnd C_Claims) := ok_Claims_end T
  have t_Registry_drop_name : Met P w K mg base 1 C_Registry "drop_name" (spDrop C_Store C_Claims C_Uploads C_Collector C_Registry) := ok_Registry_drop_name T
  have t_Registry_answer_get : Met P w K mg base 2 C_Registry "answer_get" (spAGet C_Store C_Claims C_Uploads C_Collector C_Registry) := ok_Registry_answer_get T
  refine met_mk T.cl_Registry T.m_Registry_answer_plain sc_Registry_answer_plain (fun vs H Q E h => ?_) (fun f cdv A outer s H vs Q E hr h => ?_)
  · obtain ⟨c, x, s, q, t, rfl, _⟩ := h
    rfl
  · obtain ⟨c, x, s', q, t, rfl, ht, W, wf, hq, k⟩ := h
    have hu := hu_of hr
    obtain ⟨d1, d2, d3, d4, d5, v1, v2, v3, v4, v5, v6, v7, v8, e1, e2, e3, e4, e5, e6⟩ := W.hs
    refine ⟨_, (pss_cons (ps_set (i := 2) sc_Registry_answer_plain.nd rfl (by first | exact Or.inl rfl | exact Or.inr rfl) (pe_ix ix_tup (pv 1) (pe_int) (fun _ _ => rfl)))
      (pss_cons (ps_if (pt_cmpR op_eq (pv 2) (pe_str) (nomark _)) (pss_cons (ps_expr (pe_mt t_Claims_end hr (by first | decide | omega) (pe_fld (pv 0) rfl) (pa_cons (pe_ix ix_tup (pv 1) (pe_int) (fun _ _ => rfl)) pa_nil)))
      (pss_one (ps_ret (pe_tup (pa_cons (pe_str) (pa_cons (pe_ix ix_tup (pv 1) (pe_int) (fun _ _ => rfl)) pa_nil)))))) pss_nil)
      (pss_cons (ps_if (pt_cmpR op_eq (pv 2) (pe_str) (nomark _)) (pss_cons (ps_expr (pe_mt t_Registry_drop_name hr (by first | decide | omega) (pv 0) (pa_cons (pe_ix ix_tup (pv 1) (pe_int) (fun _ _ => rfl)) pa_nil)))
      (pss_one (ps_ret (pe_tup (pa_cons (pe_str) (pa_cons (pe_ix ix_tup (pv 1) (pe_int) (fun _ _ => rfl)) pa_nil)))))) pss_nil)
      (pss_cons (ps_if (pt_cmpR op_eq (pv 2) (pe_str) (nomark _)) (pss_cons (ps_if (pt_cmp (pc_din hu (pe_ix ix_tup (pv 1) (pe_int) (fun _ _ => rfl)) (pe_fld (pv 0) rfl))) (pss_one (ps_ret (pe_tup (pa_cons (pe_str) (pa_cons (pe_ix ix_tup (pv 1) (pe_int) (fun _ _ => rfl)) (pa_cons (pe_dget hu (pe_fld (pv 0) rfl) (pe_ix ix_tup (pv 1) (pe_int) (fun _ _ => rfl)) (fun _ _ => rfl)) pa_nil)))))) pss_nil)
      (pss_one (ps_ret (pe_tup (pa_cons (pe_str) (pa_cons (pe_ix ix_tup (pv 1) (pe_int) (fun _ _ => rfl)) pa_nil)))))) pss_nil)
      (pss_one (ps_ret (pe_mt t_Registry_answer_get hr (by first | decide | omega) (pv 0) (pa_cons (pe_ix ix_tup (pv 1) (pe_int) (fun _ _ => rfl)) (pa_cons (pe_ix ix_tup (pv 1) (pe_int) (fun _ _ => rfl)) (pa_cons (pe_ix ix_tup (pv 1) (pe_int) (fun _ _ => rfl)) pa_nil)))))))))), ?_⟩
    walk_at "lw"
    cases q with
    | close i =>
      refine g_rixT (SqT.of ht) (j := 0) (v := .str "close") rfl ?_
      walk_at "lw"
      refine g_rixT (SqT.of ht) (j := 1) (v := .int i) rfl ?_
      walk_at "lw"
      refine ⟨c, x.cp, s'.n, i, s'.cs, s'.L, rfl, W.cl, fun H1 C1 st1 => ?_⟩
      walk_at "lw"
      refine g_rixT (SqT.of (st1.tup _ _ ht)) (j := 1) (v := .int i) rfl ?_
      walk_at "lw"
      refine g_ktup (by show 2 ≤ 100; decide) fun t2 H2 nt s2 ht2 => ?_
      walk_at "lw"
      exact k c H2 t2 ((W.claims C1 st1).same s2) ((st1.mono i4).trans (Stp.same s2)) ht2
    | look nm =>
      refine g_rixT (SqT.of ht) (j := 0) (v := .str "look") rfl ?_
      walk_at "lw"
      refine g_rixT (SqT.of ht) (j := 1) (v := .str nm) rfl ?_
      walk_at "lw"
      refine g_rdinS (.of e6) ?_
      rw [dec_in]
      walk_at "lw"
      unfold ans at k
      dsimp only at k
      refine if2 (fun hm => ?_) (fun hm => ?_)
      · rw [if_pos hm] at k
        walk_at "lw"
        refine g_rixT (SqT.of ht) (j := 1) (v := .str nm) rfl ?_
        walk_at "lw"
        refine g_rixT (SqT.of ht) (j := 1) (v := .str nm) rfl ?_
        walk_at "lw"
        refine g_rdgetS (.of e6) (by rw [valV_mkS, if_pos hm]) ?_
        walk_at "lw"
        refine g_ktup (by show 3 ≤ 100; decide) fun t2 H2 nt s2 ht2 => ?_
        walk_at "lw"
        exact k c H2 t2 (W.same s2) (Stp.same s2) ht2
      · rw [if_neg hm] at k
        walk_at "lw"
        refine g_rixT (SqT.of ht) (j := 1) (v := .str nm) rfl ?_
        walk_at "lw"
        refine g_ktup (by show 2 ≤ 100; decide) fun t2 H2 nt s2 ht2 => ?_
        walk_at "lw"
        exact k c H2 t2 (W.same s2) (Stp.same s2) ht2
    | get a i m =>
      refine g_rixT (SqT.of ht) (j := 0) (v := .str "get") rfl ?_
      walk_at "lw"
      refine g_rixT (SqT.of ht) (j := 1) (v := .str a) rfl ?_
      walk_at "lw"
      refine g_rixT (SqT.of ht) (j := 2) (v := .int i) rfl ?_
      walk_at "lw"
      refine g_rixT (SqT.of ht) (j := 3) (v := .int m) rfl ?_
      walk_at "lw"
      exact ⟨c, x, s', a, i, m, rfl, W, wf, k⟩
    | drop nm =>
      refine g_rixT (SqT.of ht) (j := 0) (v := .str "drop") rfl ?_
      walk_at "lw"
      refine g_rixT (SqT.of ht) (j := 1) (v := .str nm) rfl ?_
      walk_at "lw"
      refine ⟨c, x, s', nm, rfl, W, fun c1 H1 W1 st1 => ?_⟩
      walk_at "lw"
      refine g_rixT (SqT.of (st1.tup _ _ ht)) (j := 1) (v := .str nm) rfl ?_
      walk_at "lw"
      refine g_ktup (by show 2 ≤ 100; decide) fun t2 H2 nt s2 ht2 => ?_
      walk_at "lw"
      exact k c1 H2 t2 (W1.same s2) (st1.trans (Stp.same s2)) ht2
    | _ => exact hq.elim
theorem ok_Registry_answer (T : Txt w K mg C_Claims C_Collector C_Store C_Uploads C_Registry C_Refused C_Malformed a_KINDS a_BELOW a_CLAIMED) : Met P w K mg base 13 C_Registry "answer" (spAns C_Store C_Claims C_Uploads C_Collector C_Registry) := by
  have t_Claims_is_open : Met P w K mg base 1 C_Claims "is_open" (spCOpen C_Claims) := ok_Claims_is_open T
  have t_Claims_begin : Met P w K mg base 1 C_Claims "begin" (spCBegin C_Claims) := ok_Claims_begin T
  have t_Uploads_begin : Met P w K mg base 1 C_Uploads "begin" (spUBegin C_Uploads) := ok_Uploads_begin T
  have t_Registry_answer_has : Met P w K mg base 12 C_Registry "answer_has" (spAHas C_Store C_Claims C_Uploads C_Collector C_Registry) := ok_Registry_answer_has T
  have t_Registry_answer_part : Met P w K mg base 2 C_Registry "answer_part" (spAPart C_Store C_Claims C_Uploads C_Collector C_Registry) := ok_Registry_answer_part T
  have t_Registry_answer_finish : Met P w K mg base 12 C_Registry "answer_finish" (spAFin C_Store C_Claims C_Uploads C_Collector C_Registry) := ok_Registry_answer_finish T
  have t_Registry_answer_put : Met P w K mg base 12 C_Registry "answer_put" (spAPut C_Store C_Claims C_Uploads C_Collector C_Registry) := ok_Registry_answer_put T
  have t_Registry_answer_name : Met P w K mg base 12 C_Registry "answer_name" (spAName C_Store C_Claims C_Uploads C_Collector C_Registry) := ok_Registry_answer_name T
  have t_Registry_answer_plain : Met P w K mg base 3 C_Registry "answer_plain" (spPlain C_Store C_Claims C_Uploads C_Collector C_Registry) := ok_Registry_answer_plain T
  refine met_mk T.cl_Registry T.m_Registry_answer sc_Registry_answer (fun vs H Q E h => ?_) (fun f cdv A outer s H vs Q E hr h => ?_)
  · obtain ⟨c, x, s, q, t, rfl, _⟩ := h
    rfl
  · obtain ⟨c, x, s', q, t, rfl, ht, W, wf, hq, hsh, k⟩ := h
    have hu := hu_of hr
    obtain ⟨d1, d2, d3, d4, d5, v1, v2, v3, v4, v5, v6, v7, v8, e1, e2, e3, e4, e5, e6⟩ := W.hs
    have hT : ∀ H : Hp, SqT K H a_CLAIMED (claimed4.map V.str) := fun H => by
      obtain ⟨o, its, n, k1, k2, k3, k4, k5, k6⟩ := T.at_CLAIMED
      exact .inr ⟨o, its, n, k1, k2, k4, k5, k6⟩
    refine ⟨_, (pss_cons (ps_set (i := 2) sc_Registry_answer.nd rfl (by first | exact Or.inl rfl | exact Or.inr rfl) (pe_ix ix_tup (pv 1) (pe_int) (fun _ _ => rfl)))
      (pss_cons (ps_if (PW.pt (pw_and (pt_cmpR op_in_seq (pv 2) (pe_gc rfl T.g_CLAIMED) (by rfl)) (pw_and1 (pt_not (pt_val (pe_mt t_Claims_is_open hr (by first | decide | omega) (pe_fld (pv 0) rfl) (pa_cons (pe_ix ix_tup (pv 1) (pe_int) (fun _ _ => rfl)) pa_nil))))))) (pss_one (ps_ret (pe_tup (pa_cons (pe_str) (pa_cons (pe_ix ix_tup (pv 1) (pe_int) (fun _ _ => rfl)) pa_nil))))) pss_nil)
      (pss_cons (ps_if (pt_cmpR op_eq (pv 2) (pe_str) (nomark _)) (pss_one (ps_ret (pe_tup (pa_cons (pe_str) (pa_cons (pe_mt0 t_Claims_begin hr (by first | decide | omega) (pe_fld (pv 0) rfl)) pa_nil))))) pss_nil)
      (pss_cons (ps_if (pt_cmpR op_eq (pv 2) (pe_str) (nomark _)) (pss_one (ps_ret (pe_mt t_Registry_answer_has hr (by first | decide | omega) (pv 0) (pa_cons (pe_ix ix_tup (pv 1) (pe_int) (fun _ _ => rfl)) (pa_cons (pe_ix ix_tup (pv 1) (pe_int) (fun _ _ => rfl)) pa_nil))))) pss_nil)
      (pss_cons (ps_if (pt_cmpR op_eq (pv 2) (pe_str) (nomark _)) (pss_one (ps_ret (pe_tup (pa_cons (pe_str) (pa_cons (pe_mt0 t_Uploads_begin hr (by first | decide | omega) (pe_fld (pv 0) rfl)) pa_nil))))) pss_nil)
      (pss_cons (ps_if (pt_cmpR op_eq (pv 2) (pe_str) (nomark _)) (pss_one (ps_ret (pe_mt t_Registry_answer_part hr (by first | decide | omega) (pv 0) (pa_cons (pe_ix ix_tup (pv 1) (pe_int) (fun _ _ => rfl)) (pa_cons (pe_ix ix_tup (pv 1) (pe_int) (fun _ _ => rfl)) (pa_cons (pe_ix ix_tup (pv 1) (pe_int) (fun _ _ => rfl)) pa_nil)))))) pss_nil)
      (pss_cons (ps_if (pt_cmpR op_eq (pv 2) (pe_str) (nomark _)) (pss_one (ps_ret (pe_mt t_Registry_answer_finish hr (by first | decide | omega) (pv 0) (pa_cons (pe_ix ix_tup (pv 1) (pe_int) (fun _ _ => rfl)) (pa_cons (pe_ix ix_tup (pv 1) (pe_int) (fun _ _ => rfl)) (pa_cons (pe_ix ix_tup (pv 1) (pe_int) (fun _ _ => rfl)) pa_nil)))))) pss_nil)
      (pss_cons (ps_if (pt_cmpR op_eq (pv 2) (pe_str) (nomark _)) (pss_one (ps_ret (pe_mt t_Registry_answer_put hr (by first | decide | omega) (pv 0) (pa_cons (pe_ix ix_tup (pv 1) (pe_int) (fun _ _ => rfl)) (pa_cons (pe_ix ix_tup (pv 1) (pe_int) (fun _ _ => rfl)) (pa_cons (pe_ix ix_tup (pv 1) (pe_int) (fun _ _ => rfl)) pa_nil)))))) pss_nil)
      (pss_cons (ps_if (pt_cmpR op_eq (pv 2) (pe_str) (nomark _)) (pss_one (ps_ret (pe_mt t_Registry_answer_name hr (by first | decide | omega) (pv 0) (pa_cons (pe_ix ix_tup (pv 1) (pe_int) (fun _ _ => rfl)) (pa_cons (pe_ix ix_tup (pv 1) (pe_int) (fun _ _ => rfl)) (pa_cons (pe_ix ix_tup (pv 1) (pe_int) (fun _ _ => rfl)) pa_nil)))))) pss_nil)
      (pss_one (ps_ret (pe_mt t_Registry_answer_plain hr (by first | decide | omega) (pv 0) (pa_cons (pv 1) pa_nil))))))))))))), ?_⟩
    walk_at "lw"
    unfold ans at k
    cases q with
    | opn =>
      dsimp only at k
      refine g_rixT (SqT.of ht) (j := 0) (v := .str "open") rfl ?_
      walk_at "lw"
      refine g_rinT (hT _) rfl rfl (b := false) (by decide +kernel) ?_
      walk_at "lw"
      refine ⟨c, x.cp, s'.n, s'.cs, s'.L, rfl, W.cl, fun z => by have := wf.cle _ z; omega, by have := wf.cl; omega, fun c1 H1 C1 st1 => ?_⟩
      walk_at "lw"
      refine g_ktup (by show 2 ≤ 100; decide) fun t2 H2 nt s2 ht2 => ?_
      walk_at "lw"
      exact k c1 H2 t2 ((W.claims C1 st1).same s2) ((st1.mono i4).trans (Stp.same s2)) ht2
    | has i a =>
      dsimp only at k
      refine g_rixT (SqT.of ht) (j := 0) (v := .str "has") rfl ?_
      walk_at "lw"
      refine g_rinT (hT _) rfl rfl (b := true) (by decide +kernel) ?_
      walk_at "lw"
      refine g_rixT (SqT.of ht) (j := 1) (v := .int i) rfl ?_
      walk_at "lw"
      refine ⟨c, x.cp, s'.n, i, s'.cs, s'.L, rfl, W.cl, ?_⟩
      walk_at "lw"
      refine ifn2 (fun hi => ?_) (fun hi => ?_)
      rotate_left
      · rw [if_neg hi] at k
        walk_at "lw"
        refine g_rixT (SqT.of ht) (j := 1) (v := .int i) rfl ?_
        walk_at "lw"
        refine g_ktup (by show 2 ≤ 100; decide) fun t3 H3 nt s3 ht3 => ?_
        walk_at "lw"
        exact k c H3 t3 (W.same s3) (Stp.same s3) ht3
      · rw [if_pos hi] at k
        walk_at "lw"
        refine g_rixT (SqT.of ht) (j := 1) (v := .int i) rfl ?_
        walk_at "lw"
        refine g_rixT (SqT.of ht) (j := 2) (v := .str a) rfl ?_
        walk_at "lw"
        exact ⟨c, x, s', i, a, rfl, W, wf, hi, hsh, k⟩
    | start i =>
      dsimp only at k
      refine g_rixT (SqT.of ht) (j := 0) (v := .str "start") rfl ?_
      walk_at "lw"
      refine g_rinT (hT _) rfl rfl (b := true) (by decide +kernel) ?_
      walk_at "lw"
      refine g_rixT (SqT.of ht) (j := 1) (v := .int i) rfl ?_
      walk_at "lw"
      refine ⟨c, x.cp, s'.n, i, s'.cs, s'.L, rfl, W.cl, ?_⟩
      walk_at "lw"
      refine ifn2 (fun hi => ?_) (fun hi => ?_)
      rotate_left
      · rw [if_neg hi] at k
        walk_at "lw"
        refine g_rixT (SqT.of ht) (j := 1) (v := .int i) rfl ?_
        walk_at "lw"
        refine g_ktup (by show 2 ≤ 100; decide) fun t3 H3 nt s3 ht3 => ?_
        walk_at "lw"
        exact k c H3 t3 (W.same s3) (Stp.same s3) ht3
      · rw [if_pos hi] at k
        walk_at "lw"
        refine ⟨c, x.up, s'.un, s'.ts, s'.X, rfl, W.up, fun z => by have := wf.ule _ z; omega, by have := wf.ul; omega, fun H1 U1 st1 => ?_⟩
        walk_at "lw"
        refine g_ktup (by show 2 ≤ 100; decide) fun t2 H2 nt s2 ht2 => ?_
        walk_at "lw"
        exact k c H2 t2 ((W.ups U1 st1).same s2) ((st1.mono i3).trans (Stp.same s2)) ht2
    | part u i p =>
      dsimp only at k
      refine g_rixT (SqT.of ht) (j := 0) (v := .str "part") rfl ?_
      walk_at "lw"
      refine g_rinT (hT _) rfl rfl (b := false) (by decide +kernel) ?_
      walk_at "lw"
      refine g_rixT (SqT.of ht) (j := 1) (v := .int u) rfl ?_
      walk_at "lw"
      refine g_rixT (SqT.of ht) (j := 2) (v := .int i) rfl ?_
      walk_at "lw"
      refine g_rixT (SqT.of ht) (j := 3) (v := .str (SX.S p)) rfl ?_
      walk_at "lw"
      exact ⟨c, x, s', u, i, p, rfl, W, wf, hq.2, k⟩
    | fin u i a =>
      dsimp only at k
      refine g_rixT (SqT.of ht) (j := 0) (v := .str "finish") rfl ?_
      walk_at "lw"
      refine g_rinT (hT _) rfl rfl (b := false) (by decide +kernel) ?_
      walk_at "lw"
      refine g_rixT (SqT.of ht) (j := 1) (v := .int u) rfl ?_
      walk_at "lw"
      refine g_rixT (SqT.of ht) (j := 2) (v := .int i) rfl ?_
      walk_at "lw"
      refine g_rixT (SqT.of ht) (j := 4) (v := .str a) rfl ?_
      walk_at "lw"
      exact ⟨c, x, s', u, i, a, rfl, W, wf, hsh, k⟩
    | put i kd p =>
      dsimp only at k
      refine g_rixT (SqT.of ht) (j := 0) (v := .str "put") rfl ?_
      walk_at "lw"
      refine g_rinT (hT _) rfl rfl (b := true) (by decide +kernel) ?_
      walk_at "lw"
      refine g_rixT (SqT.of ht) (j := 1) (v := .int i) rfl ?_
      walk_at "lw"
      refine ⟨c, x.cp, s'.n, i, s'.cs, s'.L, rfl, W.cl, ?_⟩
      walk_at "lw"
      refine ifn2 (fun hi => ?_) (fun hi => ?_)
      rotate_left
      · rw [if_neg hi] at k
        walk_at "lw"
        refine g_rixT (SqT.of ht) (j := 1) (v := .int i) rfl ?_
        walk_at "lw"
        refine g_ktup (by show 2 ≤ 100; decide) fun t3 H3 nt s3 ht3 => ?_
        walk_at "lw"
        exact k c H3 t3 (W.same s3) (Stp.same s3) ht3
      · rw [if_pos hi] at k
        walk_at "lw"
        refine g_rixT (SqT.of ht) (j := 1) (v := .int i) rfl ?_
        walk_at "lw"
        refine g_rixT (SqT.of ht) (j := 2) (v := .str kd.s) rfl ?_
        walk_at "lw"
        refine g_rixT (SqT.of ht) (j := 3) (v := .str (SX.S p)) rfl ?_
        walk_at "lw"
        exact ⟨c, x, s', i, kd, p, rfl, W, wf, hi, hq, hsh, k⟩
    | name i nm a =>
      dsimp only at k
      refine g_rixT (SqT.of ht) (j := 0) (v := .str "name") rfl ?_
      walk_at "lw"
      refine g_rinT (hT _) rfl rfl (b := true) (by decide +kernel) ?_
      walk_at "lw"
      refine g_rixT (SqT.of ht) (j := 1) (v := .int i) rfl ?_
      walk_at "lw"
      refine ⟨c, x.cp, s'.n, i, s'.cs, s'.L, rfl, W.cl, ?_⟩
      walk_at "lw"
      refine ifn2 (fun hi => ?_) (fun hi => ?_)
      rotate_left
      · rw [if_neg hi] at k
        walk_at "lw"
        refine g_rixT (SqT.of ht) (j := 1) (v := .int i) rfl ?_
        walk_at "lw"
        refine g_ktup (by show 2 ≤ 100; decide) fun t3 H3 nt s3 ht3 => ?_
        walk_at "lw"
        exact k c H3 t3 (W.same s3) (Stp.same s3) ht3
      · rw [if_pos hi] at k
        walk_at "lw"
        refine g_rixT (SqT.of ht) (j := 1) (v := .int i) rfl ?_
        walk_at "lw"
        refine g_rixT (SqT.of ht) (j := 2) (v := .str nm) rfl ?_
        walk_at "lw"
        refine g_rixT (SqT.of ht) (j := 3) (v := .str a) rfl ?_
        walk_at "lw"
        exact ⟨c, x, s', i, nm, a, rfl, W, wf, hi, hsh, k⟩
    | close i =>
      refine g_rixT (SqT.of ht) (j := 0) (v := .str "close") rfl ?_
      walk_at "lw"
      refine g_rinT (hT _) rfl rfl (b := false) (by decide +kernel) ?_
      walk_at "lw"
      exact ⟨c, x, s', .close i, t, rfl, ht, W, wf, trivial, k⟩
    | look nm =>
      refine g_rixT (SqT.of ht) (j := 0) (v := .str "look") rfl ?_
      walk_at "lw"
      refine g_rinT (hT _) rfl rfl (b := false) (by decide +kernel) ?_
      walk_at "lw"
      exact ⟨c, x, s', .look nm, t, rfl, ht, W, wf, trivial, k⟩
    | get a i m =>
      refine g_rixT (SqT.of ht) (j := 0) (v := .str "get") rfl ?_
      walk_at "lw"
      refine g_rinT (hT _) rfl rfl (b := false) (by decide +kernel) ?_
      walk_at "lw"
      exact ⟨c, x, s', .get a i m, t, rfl, ht, W, wf, trivial, k⟩
    | drop nm =>
      refine g_rixT (SqT.of ht) (j := 0) (v := .str "drop") rfl ?_
      walk_at "lw"
      refine g_rinT (hT _) rfl rfl (b := false) (by decide +kernel) ?_
      walk_at "lw"
      exact ⟨c, x, s', .drop nm, t, rfl, ht, W, wf, trivial, k⟩
theorem ok_Registry_roots (T : Txt w K mg C_Claims C_Collector C_Store C_Uploads C_Registry C_Refused C_Malformed a_KINDS a_BELOW a_CLAIMED) : Met P w K mg base 2 C_Registry "roots" (spRoots C_Store C_Claims C_Uploads C_Collector C_Registry) := by
  have t_Claims_pinned : Met P w K mg base 1 C_Claims "pinned" (spCPinned C_Claims) := ok_Claims_pinned T
  refine met_mk T.cl_Registry T.m_Registry_roots sc_Registry_roots (fun vs H Q E h => ?_) (fun f cdv A outer s H vs Q E hr h => ?_)
  · obtain ⟨c, x, s, D, rfl, _⟩ := h
    rfl
  · obtain ⟨c, x, s', D, rfl, W, hD, hz, hn, k⟩ := h
    have hu := hu_of hr
    refine ⟨_, (pss_cons (ps_set (i := 1) sc_Registry_roots.nd rfl (by first | exact Or.inl rfl | exact Or.inr rfl) (pe_dnewK))
      (pss_cons (ps_for PassesOwn.never rfl (pi_list (pe_mt0 t_Claims_pinned hr (by first | decide | omega) (pe_fld (pv 0) rfl))) (pg_name (i := 2) sc_Registry_roots.nd rfl (by first | exact Or.inl rfl | exact Or.inr rfl)) (pss_one (ps_dput hu (pv 1) (pv 2) (pe_bl) rfl)))
      (pss_cons (ps_lock (ps_for PassesOwn.never rfl (pi_keys (pe_fld (pv 0) rfl)) (pg_name (i := 3) sc_Registry_roots.nd rfl (by first | exact Or.inl rfl | exact Or.inr rfl)) (pss_one (ps_dput hu (pv 1) (pe_dget hu (pe_fld (pv 0) rfl) (pv 3) (fun _ _ => rfl)) (pe_bl) rfl))))
      (pss_one (ps_ret (pe_callB (call_sortedD rfl) (by rfl) T.n_sorted (by decide +kernel) (pa_cons (pv 1) pa_nil))))))), ?_⟩
    walk_at "lw"
    refine g_dnew fun fd H1 nf s1 hf => ?_
    have W1 := W.same s1
    obtain ⟨d1, d2, d3, d4, d5, v1, v2, v3, v4, v5, v6, v7, v8, e1, e2, e3, e4, e5, e6⟩ := W1.hs
    walk_at "lw"
    refine ⟨c, x.cp, s'.n, s'.cs, s'.L, D, rfl, W1.cl, fun i hi y hy => hD y (.inl ⟨i, hi, hy⟩), hz, fun r ys H2 hnd hs hmem s2 hr2 => ?_⟩
    have e12 := s2.at e1
    have e62 := s2.at e6
    have hf2 := s2.at hf
    have nR : x.R ≠ fd := ne_of e12 hf2 (by intro z; cases z)
    have nN : x.nd ≠ fd := by
      obtain ⟨_, m2⟩ := W.nm
      exact ne_of_none m2 nf
    have nr : r ≠ fd := ne_of hr2 hf2 (by intro z; cases z)
    have hyD : ∀ y ∈ ys, y ∈ D := fun y hy => hD y (.inl ((hmem y).mp hy))
    have hyl := few_len hnd hyD
    refine g_ritL (SqL.of hr2) ?_
    refine for_at (G := fun H' => SqL K H' r (ys.map V.str)) walk_list (fun i σ H' => (∀ b, b ≠ fd → H' b = H2 b) ∧ H' fd = some (.dK (mkS ((ys.take i).foldl addD []) fun _ => .bl true)) ∧ ∃ v v2 : Option V, σ = [some (.ref x.R), some (.ref fd), v, v2]) ⟨fun _ _ => rfl, hf2, none, none, rfl⟩ (fun i σ H' h => SqL.of (by rw [h.1 r nr]; exact hr2)) ?_ ?_
    · rintro i yy σ H3 hyy ⟨k3, f3, v, v2, rfl⟩
      obtain ⟨y, hy, rfl⟩ := map_at hyy
      walk_at "lw"
      refine g_rdputS f3 ?_ fun H4 f4 k4 => ?_
      · rw [mkS_len]
        have := foldl_addD_len (ys.take i) []
        have := (List.take_sublist i ys).length_le
        have : ([] : List Str).length = 0 := rfl
        omega
      walk_at "lw"
      rw [putK_S, bl_same] at f4
      refine ⟨fun b hb => by rw [k4 b hb]; exact k3 b hb, ?_, _, _, rfl⟩
      rw [take_ok hy, foldl_addD_snoc]
      exact f4
    · rintro σ H3 ⟨k3, f3, v, v2, rfl⟩
      rw [List.length_map, List.take_length] at f3
      have e13 : H3 x.R = _ := (k3 _ nR).trans e12
      have e63 : H3 x.nd = _ := (k3 _ nN).trans e62
      generalize hF : ys.foldl addD [] = F at f3
      have hFm : ∀ y, y ∈ F ↔ ∃ i ∈ s'.cs, y ∈ s'.L i := fun y => by
        rw [← hF, mem_foldl_addD, ← hmem y]
        simp
      have hFn : F.Nodup := by rw [← hF]; exact foldl_addD_nd List.nodup_nil
      have hFl : F.length ≤ 63 := by
        have := few_len hFn fun y hy => hD y (.inl ((hFm y).mp hy))
        omega
      walk_at "lw"
      refine g_lock e63 fun od H4 n4 k4 => ?_
      have e14 : H4 x.R = _ := (k4 _ (ne_of e13 e63 (by intro z; cases z))).trans e13
      have f4 : H4 fd = _ := (k4 _ nN.symm).trans f3
      walk_at "lw"
      refine g_ritK n4 ?_
      refine for_at walk_ks (fun i σ H' => (∀ b, b ≠ fd → H' b = H4 b) ∧ H' fd = some (.dK (mkS (((s'.nk.take i).map s'.N).foldl addD F) fun _ => .bl true)) ∧ ∃ v v2 : Option V, σ = [some (.ref x.R), some (.ref fd), v, v2]) ⟨fun _ _ => rfl, f4, v, v2, rfl⟩ (fun i σ H' h => by rw [h.1 _ nN]; exact n4) ?_ ?_
      · rintro i yy σ H5 hyy ⟨k5, f5, v', v2', rfl⟩
        rw [mkS_kV] at hyy
        obtain ⟨y, hy, rfl⟩ := map_at hyy
        have hym := List.mem_of_getElem? hy
        have e15 : H5 x.R = _ := (k5 _ nR).trans e14
        have n5 : H5 x.nd = _ := (k5 _ nN).trans n4
        walk_at "lw"
        refine g_rdgetS (.inr ⟨od, n5⟩) (by rw [valV_mkS, if_pos hym]) ?_
        walk_at "lw"
        refine g_rdputS f5 ?_ fun H6 f6 k6 => ?_
        · rw [mkS_len]
          have := foldl_addD_len ((s'.nk.take i).map s'.N) F
          have h2 := (List.take_sublist i s'.nk).length_le
          rw [List.length_map] at this
          omega
        walk_at "lw"
        rw [putK_S, bl_same] at f6
        refine ⟨fun b hb => by rw [k6 b hb]; exact k5 b hb, ?_, _, _, rfl⟩
        rw [take_ok hy, List.map_append, List.map_singleton, foldl_addD_snoc]
        exact f6
      · rintro σ H5 ⟨k5, f5, v', v2', rfl⟩
        rw [mkS_kV, List.length_map, List.take_length] at f5
        refine ⟨(k5 _ nN).trans n4, ?_⟩
        have fin : ∀ b, b ≠ fd → (upd H5 x.nd (.dK (mkS s'.nk fun a => .str (s'.N a)))) b = H2 b := fun b hb => by
          by_cases e : b = x.nd
          · subst e
            rw [upd_same, e62]
          · rw [upd_ne e, k5 b hb, k4 b e, k3 b hb]
        have f6 : (upd H5 x.nd (.dK (mkS s'.nk fun a => .str (s'.N a)))) fd = some (.dK (mkS ((s'.nk.map s'.N).foldl addD F) fun _ => .bl true)) := by rw [upd_ne nN.symm]; exact f5
        generalize upd H5 x.nd (.dK (mkS s'.nk fun a => .str (s'.N a))) = H7 at fin f6
        walk_at "lw"
        have hm : ∀ y, y ∈ (s'.nk.map s'.N).foldl addD F ↔ isRoot s' y := fun y => by
          rw [mem_foldl_addD, hFm, List.mem_map]
          rfl
        have hl : ((s'.nk.map s'.N).foldl addD F).length < 64 := Nat.lt_of_le_of_lt (few_len (foldl_addD_nd hFn) fun y hy => hD y ((hm y).mp hy)) hz
        refine ⟨fd, _, _, rfl, .of f6, mkS_keys, hl, fun zs r2 hp hs2 nr2 => ?_⟩
        walk_at "lw"
        have sm : Same H H7 := fun b o e => by
          rw [fin b (ne_of_none e nf)]
          exact s2.at (s1.at e)
        exact k r2 zs _ (hp.nodup_iff.mpr (foldl_addD_nd hFn)) hs2 (fun y => by rw [hp.mem_iff, hm]) (sm.thenNew nr2) upd_same
end
end Lw

/-! ## what the laws of stores share -/
namespace Lw
open PySem L2
open PyProof.Rows (envOfC sortedS)
theorem scan_none {b : Bool} : ∀ {ls s : List (List Nat)} {i : Nat}, scan b s i ls = none → ∀ l ∈ ls, ∃ s', okLine b s' l = true
  | [], _, _, _, _, h => nomatch h
  | x :: r, s, i, h, l, hl => by
    unfold scan at h
    split at h
    · rename_i hx
      rcases List.mem_cons.mp hl with z | z
      · subst z; exact ⟨s, hx⟩
      · exact scan_none h l z
    · cases h
theorem bun_two {t : List Nat} (h : fault true t = none) : ∀ l ∈ mid (lnL t), (wdL l).length = 2 := by
  intro l hl
  unfold fault at h
  split at h
  · cases h
  · split at h
    · cases h
    · obtain ⟨s', hs⟩ := scan_none h l hl
      unfold okLine at hs
      rw [if_pos rfl, Bool.and_eq_true, decide_eq_true_eq] at hs
      exact hs.1
def dueS : Kd → Str
  | .lay => "" | .img => "layer" | .bun => "image"
theorem due_ne {k k2 : Kd} (hk : k ≠ .lay) : decide (V.str k2.s = V.str (dueS k)) = decide (k.lo = some k2) := by
  cases k <;> cases k2 <;> first | exact absurd rfl hk | decide +kernel
def dueK : List (Key × V) := [(kS "layer", .str ""), (kS "image", .str "layer"), (kS "bundle", .str "image")]
theorem due_at (k : Kd) : valV (mergeK [] dueK) (kS k.s) = some (.str (dueS k)) := by cases k <;> decide +kernel
def dueK2 : List (Key × V) := [(kS "image", .str "layer"), (kS "bundle", .str "image")]
theorem due2_at {k : Kd} (h : k ≠ .lay) : valV (mergeK [] dueK2) (kS k.s) = some (.str (dueS k)) := by cases k <;> first | exact absurd rfl h | decide +kernel
def notIn (f : List Str) : V → Bool
  | .str x => decide (x ∉ f)
  | _ => false
theorem inV_str {a : Str} {s : List Str} : inV (.str a) (s.map V.str) = decide (a ∈ s) := by
  unfold inV
  rw [List.any_map, Bool.eq_iff_iff, List.any_eq_true, decide_eq_true_eq]
  constructor
  · rintro ⟨y, hy, e⟩
    have e : (y == a) = true := e
    rw [← beq_iff_eq.mp e]
    exact hy
  · intro h
    exact ⟨a, h, (show (a == a) = true from beq_self_eq_true a)⟩
theorem flat_str (s : List Str) : (s.map V.str).all flatV = true := by
  rw [List.all_eq_true]
  intro x hx
  obtain ⟨a, _, rfl⟩ := List.mem_map.mp hx
  rfl
/-- a comprehension over a list, whose items are drawn -/
theorem lc_drawG {J : It} {G : Hp → Prop} {xs : List V} {vs : List Nat} {σ : L2.St} {te : TE} {j : Nat} {Q : VK} {c : Addr → Nat} {H : Hp} {S : Addr} (w : Walk J xs.length G (YAt xs)) (hG : ∀ c' H', Stp (fun i => i = 0) c c' H H' → G H') (hz : xs.length ≤ 100000) (R : Nat → V → Hp → Prop)
    (mono : ∀ i y H1 H2, (∀ b ys, H1 b = some (.tup ys) → H2 b = some (.tup ys)) → R i y H1 → R i y H2) (hS : StateAt c H S) (hw : ∀ x, wipe ((wipe σ vs).set j (some x)) vs = wipe σ vs)
    (he : ∀ (i : Nat) (x : V) (c1 : Addr → Nat) (H1 : Hp) (Rk : VK), xs[i]? = some x → StateAt c1 H1 S → Stp (fun i => i = 0) c c1 H H1 → (∀ (y : V) (c2 : Addr → Nat) (H2 : Hp), R i y H2 → StateAt c2 H2 S → Stp (fun i => i = 0) c1 c2 H1 H2 → Rk y H2) → te ((wipe σ vs).set j (some x)) H1 Rk)
    (k : ∀ (q : Addr) (ys : List V) (c' : Addr → Nat) (H' : Hp), H q = none → ys.length = xs.length → (∀ (i : Nat) (y : V), ys[i]? = some y → R i y H') → StateAt c' H' S → Stp (fun i => i = 0) c c' H H' → H' q = some (.lst ys) → c' q = 9 → Q (.ref q) H') : kLc (gName j) tYes te vs σ Q J H := by
  intro D hD
  refine lc_it w (fun i H2 => ∃ (l : List V) (c2 : Addr → Nat), l.length = i ∧ (∀ (m : Nat) (y : V), l[m]? = some y → R m y H2) ∧ StateAt c2 H2 S ∧ Stp (fun i => i = 0) c c2 H H2 ∧ c2 D = 9 ∧ H2 D = some (.lst l))
    ⟨[], Stp.paint c D 9, rfl, (fun m y h => (by cases h)), hS.frame (I := fun _ => False) (Stp.newc hD) (by decide), Stp.newc hD, Stp.paint_same, upd_same⟩ (fun _ H2 _ h => by obtain ⟨_, c2, _, _, _, st, _⟩ := h; exact hG c2 H2 st) (fun i x H2 H2' hi h y => ?_) (fun H2 h => ?_)
  · obtain ⟨e, hx⟩ := y
    subst e
    obtain ⟨l, c2, h1, h2, S2, st2, cD, hl⟩ := h
    refine ⟨hw x, ?_⟩
    show te _ H2' _
    refine he i x c2 H2' _ hx S2 st2 fun a c3 H3 ga S3 st3 => ?_
    have hD3 := st3.keep _ _ hl (by rw [cD]; decide)
    have tk : ∀ b zs, H3 b = some (.tup zs) → (upd H3 D (.lst (l ++ [a]))) b = some (.tup zs) := fun b zs e => by rw [upd_ne (ne_of e hD3 (by intro z; cases z))]; exact e
    refine ⟨l, hD3, ?_, l ++ [a], c3, by rw [List.length_append, h1]; rfl, fun m y hm => ?_, S3.frame (I := fun i => i = 9) (Stp.own hD3 (by rw [st3.col _ _ hl, cD]) (fun xs z => by cases z)) (by decide), ?_, by rw [st3.col _ _ hl, cD], upd_same⟩
    · rw [h1]
      exact Nat.lt_of_lt_of_le (show i < 200000 by omega) (by decide)
    · by_cases hj : m < l.length
      · rw [List.getElem?_append_left hj] at hm
        exact mono _ _ _ _ (fun b zs e => tk b zs (st3.tup _ _ e)) (h2 m y hm)
      · rw [List.getElem?_append_right (by omega)] at hm
        cases hq : m - l.length with
        | zero =>
          rw [hq] at hm
          cases hm
          have : m = i := by omega
          subst this
          exact mono _ _ _ _ tk ga
        | succ n => rw [hq] at hm; cases hm
    · have st4 := st2.trans st3
      exact ⟨fun b o e n => by rw [upd_ne (ne_of_none e hD)]; exact st4.keep b o e n, st4.col, fun b xs e => by rw [upd_ne (ne_of_none e hD)]; exact st4.tup b xs e, fun b e => by
        by_cases z : b = D
        · subst z; rw [upd_same] at e; cases e
        · rw [upd_ne z] at e; exact st4.fre b e⟩
  · obtain ⟨l, c2, h1, h2, S2, st2, cD, hl⟩ := h
    exact k D l c2 H2 hD h1 h2 S2 st2 hl cD
theorem S_of (x : Str) : SX.S x.cps.toList = x := by
  cases x
  rfl
theorem img_ok {as : List (List Nat)} (h : ∀ a ∈ as, isAdr a = true) (hl : as.length ≤ 50) : (⟨.img, imgL as⟩ : Bl).Ok := by
  obtain ⟨h1, h2⟩ := img_t h (by omega)
  exact ⟨by show faultK "image" _ = none; unfold faultK; rw [if_neg (by decide +kernel), decide_eq_true rfl]; exact (fault_img h hl).1, h2, h1⟩
theorem bun_ok {ps : List (List Nat × List Nat)} (W : WFB ps) : (⟨.bun, bunL ps⟩ : Bl).Ok := by
  obtain ⟨h1, h2⟩ := bun_t W
  exact ⟨by show faultK "bundle" _ = none; unfold faultK; rw [if_neg (by decide +kernel), decide_eq_false (by decide +kernel)]; exact (fault_bun W).1, h2, h1⟩
theorem lay_ok {t : List Nat} (h : okC t) (hl : t.length ≤ 10000) : (⟨.lay, t⟩ : Bl).Ok := ⟨fault_lay t, hl, h⟩
theorem signs8_okC {l : List Nat} (h : ∀ x ∈ l, x ∈ signs8) : okC l := fun c hc => by
  have : ∀ c ∈ signs8, c < 0x110000 := by decide
  exact this c (h c hc)
theorem cut_take {xs : List V} {n : Nat} : cutV xs none (some (n : Int)) = xs.take n := by
  unfold cutV
  rw [HT.sIx_none, HT.sIx_nat, List.drop_zero, Nat.sub_zero]
  by_cases h : n ≤ xs.length
  · rw [Nat.min_eq_left h]
  · rw [Nat.min_eq_right (by omega), List.take_of_length_le (Nat.le_refl _), List.take_of_length_le (by omega)]
def nm3 : List (List Nat) := [[109, 105, 108, 108], [121, 97, 114, 100], [100, 111, 99, 107]]
theorem nm3_eq : ([.str "mill", .str "yard", .str "dock"] : List V) = nm3.map strS := by
  have h : (["mill", "yard", "dock"] : List Str) = nm3.map SX.S := by decide +kernel
  have h2 := congrArg (List.map V.str) h
  rw [List.map_map] at h2
  exact h2
theorem nm3_pl : ∀ p ∈ nm3, isPlat p = true := by decide
theorem nm3_nd (n : Nat) : (nm3.take n).Nodup := (show nm3.Nodup by decide).sublist (List.take_sublist _ _)
theorem KOk.list {ks : List Str} (h : KOk ks) : ∃ as : List (List Nat), ks = as.map SX.S ∧ ∀ a ∈ as, isAdr a = true := by
  refine ⟨ks.map fun x => x.cps.toList, ?_, fun a ha => ?_⟩
  · rw [List.map_map]
    conv => lhs; rw [← List.map_id ks]
    exact List.map_congr_left fun x _ => (S_of x).symm
  · obtain ⟨x, hx, rfl⟩ := List.mem_map.mp ha
    obtain ⟨l, rfl, hl⟩ := h x hx
    exact hl
theorem KOk.sub {ks ys : List Str} (h : KOk ks) (s : ∀ x ∈ ys, x ∈ ks) : KOk ys := fun a ha => h a (s a ha)
theorem eqv_self {d : PyData} (h : d.canLay0 = true) : PyData.eqv d d = true := SeqAt.eqv_refl _ h
/-- two lists of the same texts -/
theorem g_rneL {K : PySem.W.Frag} {H : Hp} {Q : VK} {p q : Addr} {as : List (List Nat)} (h1 : H p = some (.lst (as.map strS))) (h2 : H q = some (.lst (as.map strS))) (ok : ∀ a ∈ as, okC a) (k : Q (.bl false) H) : rNeD K (.ref p) (.ref q) H Q :=
  ⟨_, _, dp_list h1, dp_list h2, shaped_strs ok, shaped_strs ok, by rw [eqv_self (show (PyData.list _).canLay0 = true from (sh_strs as ok).1)]; exact k⟩
theorem pair_ok {k x : Str} (hk : PyData.strOk k = true) (hx : PyData.strOk x = true) : (PyData.tuple [.str k, .str x]).canLay0 = true := by
  simp only [PyData.canLay0, PyData.canLayAll0, hk, hx, Bool.and_true]
theorem pair_shaped {k x : Str} (hk : PyData.strOk k = true) (hx : PyData.strOk x = true) : SeqAt.shaped (.tuple [.str k, .str x]) = true := by
  unfold SeqAt.shaped
  rw [pair_ok hk hx, Bool.true_and, decide_eq_true_eq]
  simp only [PyData.depth, PyData.depthAll]
  decide
theorem dp_pair {K : PySem.W.Frag} {H : Hp} {t : Addr} {k x : Str} (h : H t = some (.tup [.str k, .str x])) : Dp K H (.ref t) (.tuple [.str k, .str x]) := .tup (SqT.of h) (.cons (.str _) (.cons (.str _) .nil))
theorem non_shaped : SeqAt.shaped PyData.none = true := by
  unfold SeqAt.shaped
  simp only [PyData.canLay0, PyData.depth]
  decide
theorem g_rneP {K : PySem.W.Frag} {H : Hp} {Q : VK} {p q : Addr} {k x : Str} (h1 : H p = some (.tup [.str k, .str x])) (h2 : H q = some (.tup [.str k, .str x])) (hk : PyData.strOk k = true) (hx : PyData.strOk x = true) (kk : Q (.bl false) H) : rNeD K (.ref p) (.ref q) H Q :=
  ⟨_, _, dp_pair h1, dp_pair h2, pair_shaped hk hx, pair_shaped hk hx, by rw [eqv_self (pair_ok hk hx)]; exact kk⟩
theorem g_rneN {K : PySem.W.Frag} {H : Hp} {Q : VK} (kk : Q (.bl false) H) : rNeD K .non .non H Q := ⟨_, _, .non, .non, non_shaped, non_shaped, kk⟩
theorem refs_okC {b : Bl} (h : b.Ok) : ∀ a ∈ b.refs, okC a := by
  intro a ha
  unfold Bl.refs refsL prs at ha
  have hm : ∀ l ∈ mid (lnL b.t), okC l := fun l hl => ln_okC h.c (mid_mem hl)
  split at ha
  · cases ha
  · split at ha
    · exact hm a ha
    · rw [List.map_map] at ha
      obtain ⟨l, hl, rfl⟩ := List.mem_map.mp ha
      show okC (w1 l)
      unfold w1
      rw [List.getD_eq_getElem?_getD]
      cases hq : (wdL l)[1]? with
      | none => exact fun c hc => nomatch hc
      | some x => exact wd_okC (hm l hl) (List.mem_of_getElem? hq)
end Lw

/-! ## the law's model -/
namespace Lw
open PySem L2
open PyProof.Rows (envOfC sortedS)
def mdl (bd nd pd td : Addr) (n un : Int) : List (Key × V) := [(kS "blobs", .ref bd), (kS "names", .ref nd), (kS "pins", .ref pd), (kS "texts", .ref td), (kS "opened", .int n), (kS "last", .int un)]
section
variable {bd nd pd td x : Addr} {n un m : Int}
theorem mdl_blobs : valV (mdl bd nd pd td n un) (kS "blobs") = some (.ref bd) := rfl
theorem mdl_names : valV (mdl bd nd pd td n un) (kS "names") = some (.ref nd) := rfl
theorem mdl_pins : valV (mdl bd nd pd td n un) (kS "pins") = some (.ref pd) := rfl
theorem mdl_texts : valV (mdl bd nd pd td n un) (kS "texts") = some (.ref td) := rfl
theorem mdl_opened : valV (mdl bd nd pd td n un) (kS "opened") = some (.int n) := rfl
theorem mdl_last : valV (mdl bd nd pd td n un) (kS "last") = some (.int un) := rfl
theorem mdl_put_names : putK (mdl bd nd pd td n un) (kS "names") (.ref x) = mdl bd x pd td n un := rfl
theorem mdl_put_pins : putK (mdl bd nd pd td n un) (kS "pins") (.ref x) = mdl bd nd x td n un := rfl
theorem mdl_put_texts : putK (mdl bd nd pd td n un) (kS "texts") (.ref x) = mdl bd nd pd x n un := rfl
theorem mdl_put_opened : putK (mdl bd nd pd td n un) (kS "opened") (.int m) = mdl bd nd pd td m un := rfl
theorem mdl_put_last : putK (mdl bd nd pd td n un) (kS "last") (.int m) = mdl bd nd pd td n m := rfl
theorem mdl_len : (mdl bd nd pd td n un).length < 100000 := by show 6 < 100000; decide
end
theorem ne_of_col {c : Addr → Nat} {a b : Addr} (h : c a ≠ c b) : a ≠ b := fun e => h (by rw [e])
structure MoX (c : Addr → Nat) (H : Hp) (M bd nd pd td : Addr) (A : Int → Addr) (s : Rg) : Prop where
  cm : c M = 7
  hm : H M = some (.dK (mdl bd nd pd td s.n s.un))
  cb : c bd = 8
  hb : BlobD H bd s.ks s.B
  cn : c nd = 10
  hn : H nd = some (.dK (mkS s.nk fun a => .str (s.N a)))
  cp : c pd = 11
  hp : H pd = some (.dK (mkD s.cs fun i => .ref (A i)))
  ca : ∀ i ∈ s.cs, c (A i) = 13 ∧ H (A i) = some (.lst ((s.L i).map V.str))
  ct : c td = 12
  ht : H td = some (.dK (mkD s.ts fun i => .str (SX.S (s.X i))))
structure MoAt (c : Addr → Nat) (H : Hp) (M : Addr) (s : Rg) : Prop where
  ex : ∃ (bd nd pd td : Addr) (A : Int → Addr), MoX c H M bd nd pd td A s
def IMo : Nat → Prop := fun i => i = 7 ∨ i = 8 ∨ i = 10 ∨ i = 11 ∨ i = 12
section
variable {c c' : Addr → Nat} {H H' : Hp} {M bd nd pd td : Addr} {A : Int → Addr} {s : Rg} {I : Nat → Prop}
theorem BlobD.stp {ks : List Str} {B : Str → Bl} (h : BlobD H bd ks B) (hc : ¬ I (c bd)) (st : Stp I c c' H H') : BlobD H' bd ks B := by
  obtain ⟨A, a1, a2⟩ := h
  exact ⟨A, st.keep _ _ a1 hc, fun a ha => st.tup _ _ (a2 a ha)⟩
theorem BlobD.col {ks : List Str} {B : Str → Bl} (h : BlobD H bd ks B) (st : Stp I c c' H H') : c' bd = c bd := by
  obtain ⟨A, a1, a2⟩ := h
  exact st.col _ _ a1
theorem MoX.frame (X : MoX c H M bd nd pd td A s) (st : Stp I c c' H H') (h7 : ¬ I 7) (h8 : ¬ I 8) (h10 : ¬ I 10) (h11 : ¬ I 11) (h12 : ¬ I 12) (h13 : ¬ I 13) : MoX c' H' M bd nd pd td A s :=
  ⟨by rw [st.col _ _ X.hm, X.cm], st.keep _ _ X.hm (by rw [X.cm]; exact h7), by rw [X.hb.col st, X.cb], X.hb.stp (by rw [X.cb]; exact h8) st, by rw [st.col _ _ X.hn, X.cn], st.keep _ _ X.hn (by rw [X.cn]; exact h10),
    by rw [st.col _ _ X.hp, X.cp], st.keep _ _ X.hp (by rw [X.cp]; exact h11), fun i hi => ⟨by rw [st.col _ _ (X.ca i hi).2, (X.ca i hi).1], st.keep _ _ (X.ca i hi).2 (by rw [(X.ca i hi).1]; exact h13)⟩, by rw [st.col _ _ X.ht, X.ct], st.keep _ _ X.ht (by rw [X.ct]; exact h12)⟩
theorem MoX.same (X : MoX c H M bd nd pd td A s) (st : Same H H') : MoX c H' M bd nd pd td A s := X.frame (Stp.same (I := fun _ => False) st) id id id id id id
theorem MoX.at (X : MoX c H M bd nd pd td A s) : MoAt c H M s := ⟨_, _, _, _, _, X⟩
theorem MoAt.frame (X : MoAt c H M s) (st : Stp I c c' H H') (h7 : ¬ I 7) (h8 : ¬ I 8) (h10 : ¬ I 10) (h11 : ¬ I 11) (h12 : ¬ I 12) (h13 : ¬ I 13) : MoAt c' H' M s := by
  obtain ⟨_, _, _, _, _, X⟩ := X
  exact (X.frame st h7 h8 h10 h11 h12 h13).at
theorem MoAt.same (X : MoAt c H M s) (st : Same H H') : MoAt c H' M s := X.frame (Stp.same (I := fun _ => False) st) id id id id id id
theorem MoX.blobs (X : MoX c H M bd nd pd td A s) {ks : List Str} {B : Str → Bl} (h : BlobD H' bd ks B) (st : Stp (fun i => i = 8) c c' H H') : MoX c' H' M bd nd pd td A { s with ks := ks, B := B } :=
  ⟨by rw [st.col _ _ X.hm, X.cm], st.keep _ _ X.hm (by rw [X.cm]; decide), by rw [X.hb.col st, X.cb], h, by rw [st.col _ _ X.hn, X.cn], st.keep _ _ X.hn (by rw [X.cn]; decide),
    by rw [st.col _ _ X.hp, X.cp], st.keep _ _ X.hp (by rw [X.cp]; decide), fun i hi => ⟨by rw [st.col _ _ (X.ca i hi).2, (X.ca i hi).1], st.keep _ _ (X.ca i hi).2 (by rw [(X.ca i hi).1]; decide)⟩, by rw [st.col _ _ X.ht, X.ct], st.keep _ _ X.ht (by rw [X.ct]; decide)⟩
theorem MoX.names (X : MoX c H M bd nd pd td A s) {nk : List Str} {N : Str → Str} (h : H' nd = some (.dK (mkS nk fun a => .str (N a)))) (st : Stp (fun i => i = 10) c c' H H') : MoX c' H' M bd nd pd td A { s with nk := nk, N := N } :=
  ⟨by rw [st.col _ _ X.hm, X.cm], st.keep _ _ X.hm (by rw [X.cm]; decide), by rw [X.hb.col st, X.cb], X.hb.stp (by rw [X.cb]; decide) st, by rw [st.col _ _ X.hn, X.cn], h,
    by rw [st.col _ _ X.hp, X.cp], st.keep _ _ X.hp (by rw [X.cp]; decide), fun i hi => ⟨by rw [st.col _ _ (X.ca i hi).2, (X.ca i hi).1], st.keep _ _ (X.ca i hi).2 (by rw [(X.ca i hi).1]; decide)⟩, by rw [st.col _ _ X.ht, X.ct], st.keep _ _ X.ht (by rw [X.ct]; decide)⟩
theorem MoX.pins (X : MoX c H M bd nd pd td A s) {cs : List Int} {L : Int → List Str} {A' : Int → Addr} (h : H' pd = some (.dK (mkD cs fun i => .ref (A' i)))) (h2 : ∀ i ∈ cs, c' (A' i) = 13 ∧ H' (A' i) = some (.lst ((L i).map V.str))) (st : Stp (fun i => i = 11) c c' H H') : MoX c' H' M bd nd pd td A' { s with cs := cs, L := L } :=
  ⟨by rw [st.col _ _ X.hm, X.cm], st.keep _ _ X.hm (by rw [X.cm]; decide), by rw [X.hb.col st, X.cb], X.hb.stp (by rw [X.cb]; decide) st, by rw [st.col _ _ X.hn, X.cn], st.keep _ _ X.hn (by rw [X.cn]; decide),
    by rw [st.col _ _ X.hp, X.cp], h, h2, by rw [st.col _ _ X.ht, X.ct], st.keep _ _ X.ht (by rw [X.ct]; decide)⟩
theorem MoX.texts (X : MoX c H M bd nd pd td A s) {ts : List Int} {Y : Int → List Nat} (h : H' td = some (.dK (mkD ts fun i => .str (SX.S (Y i))))) (st : Stp (fun i => i = 12) c c' H H') : MoX c' H' M bd nd pd td A { s with ts := ts, X := Y } :=
  ⟨by rw [st.col _ _ X.hm, X.cm], st.keep _ _ X.hm (by rw [X.cm]; decide), by rw [X.hb.col st, X.cb], X.hb.stp (by rw [X.cb]; decide) st, by rw [st.col _ _ X.hn, X.cn], st.keep _ _ X.hn (by rw [X.cn]; decide),
    by rw [st.col _ _ X.hp, X.cp], st.keep _ _ X.hp (by rw [X.cp]; decide), fun i hi => ⟨by rw [st.col _ _ (X.ca i hi).2, (X.ca i hi).1], st.keep _ _ (X.ca i hi).2 (by rw [(X.ca i hi).1]; decide)⟩, by rw [st.col _ _ X.ht, X.ct], h⟩
theorem MoX.count (X : MoX c H M bd nd pd td A s) {n un : Int} (h : H' M = some (.dK (mdl bd nd pd td n un))) (st : Stp (fun i => i = 7) c c' H H') : MoX c' H' M bd nd pd td A { s with n := n, un := un } :=
  ⟨by rw [st.col _ _ X.hm, X.cm], h, by rw [X.hb.col st, X.cb], X.hb.stp (by rw [X.cb]; decide) st, by rw [st.col _ _ X.hn, X.cn], st.keep _ _ X.hn (by rw [X.cn]; decide),
    by rw [st.col _ _ X.hp, X.cp], st.keep _ _ X.hp (by rw [X.cp]; decide), fun i hi => ⟨by rw [st.col _ _ (X.ca i hi).2, (X.ca i hi).1], st.keep _ _ (X.ca i hi).2 (by rw [(X.ca i hi).1]; decide)⟩, by rw [st.col _ _ X.ht, X.ct], st.keep _ _ X.ht (by rw [X.ct]; decide)⟩
theorem MoX.nnew (X : MoX c H M bd nd pd td A s) {nk : List Str} {N : Str → Str} {nd' : Addr} (h : H' M = some (.dK (mdl bd nd' pd td s.n s.un))) (h1 : c' nd' = 10) (h2 : H' nd' = some (.dK (mkS nk fun a => .str (N a)))) (st : Stp (fun i => i = 7) c c' H H') : MoX c' H' M bd nd' pd td A { s with nk := nk, N := N } :=
  ⟨by rw [st.col _ _ X.hm, X.cm], h, by rw [X.hb.col st, X.cb], X.hb.stp (by rw [X.cb]; decide) st, h1, h2,
    by rw [st.col _ _ X.hp, X.cp], st.keep _ _ X.hp (by rw [X.cp]; decide), fun i hi => ⟨by rw [st.col _ _ (X.ca i hi).2, (X.ca i hi).1], st.keep _ _ (X.ca i hi).2 (by rw [(X.ca i hi).1]; decide)⟩, by rw [st.col _ _ X.ht, X.ct], st.keep _ _ X.ht (by rw [X.ct]; decide)⟩
theorem MoX.pnew (X : MoX c H M bd nd pd td A s) {cs : List Int} {pd' : Addr} (hs : ∀ i ∈ cs, i ∈ s.cs) (h : H' M = some (.dK (mdl bd nd pd' td s.n s.un))) (h1 : c' pd' = 11) (h2 : H' pd' = some (.dK (mkD cs fun i => .ref (A i)))) (st : Stp (fun i => i = 7) c c' H H') : MoX c' H' M bd nd pd' td A { s with cs := cs } :=
  ⟨by rw [st.col _ _ X.hm, X.cm], h, by rw [X.hb.col st, X.cb], X.hb.stp (by rw [X.cb]; decide) st, by rw [st.col _ _ X.hn, X.cn], st.keep _ _ X.hn (by rw [X.cn]; decide),
    h1, h2, fun i hi => ⟨by rw [st.col _ _ (X.ca i (hs i hi)).2, (X.ca i (hs i hi)).1], st.keep _ _ (X.ca i (hs i hi)).2 (by rw [(X.ca i (hs i hi)).1]; decide)⟩, by rw [st.col _ _ X.ht, X.ct], st.keep _ _ X.ht (by rw [X.ct]; decide)⟩
theorem MoX.tnew (X : MoX c H M bd nd pd td A s) {td' : Addr} (h : H' M = some (.dK (mdl bd nd pd td' s.n s.un))) (h1 : c' td' = 12) (h2 : H' td' = some (.dK [])) (st : Stp (fun i => i = 7) c c' H H') : MoX c' H' M bd nd pd td' A { s with ts := [] } :=
  ⟨by rw [st.col _ _ X.hm, X.cm], h, by rw [X.hb.col st, X.cb], X.hb.stp (by rw [X.cb]; decide) st, by rw [st.col _ _ X.hn, X.cn], st.keep _ _ X.hn (by rw [X.cn]; decide),
    by rw [st.col _ _ X.hp, X.cp], st.keep _ _ X.hp (by rw [X.cp]; decide), fun i hi => ⟨by rw [st.col _ _ (X.ca i hi).2, (X.ca i hi).1], st.keep _ _ (X.ca i hi).2 (by rw [(X.ca i hi).1]; decide)⟩, h1, h2⟩
/-- the collector's part is none of the model's -/
theorem MoX.shd (X : MoX c H M bd nd pd td A s) (a : Str) : MoX c H M bd nd pd td A (shd s a) := ⟨X.cm, X.hm, X.cb, X.hb, X.cn, X.hn, X.cp, X.hp, X.ca, X.ct, X.ht⟩
theorem MoX.coll (X : MoX c H M bd nd pd td A s) {ph : Str} {mr td' dm : List Str} : MoX c H M bd nd pd td A { s with ph := ph, mr := mr, td := td', dm := dm } := ⟨X.cm, X.hm, X.cb, X.hb, X.cn, X.hn, X.cp, X.hp, X.ca, X.ct, X.ht⟩
end
/-- a reply of r comes, the model is then as r says -/
def LpQ (c : Addr → Nat) (H : Hp) (M : Addr) (r : Rg × List Key) (Q : VK) : Prop := ∀ (c' : Addr → Nat) (H' : Hp) (t : Addr), MoAt c' H' M r.1 → Stp IMo c c' H H' → H' t = some (.tup (r.2.map kV)) → Q (.ref t) H'
theorem LpQ.shift {c c1 : Addr → Nat} {H H1 : Hp} {M : Addr} {r : Rg × List Key} {Q : VK} (k : LpQ c H M r Q) (st : Stp IMo c c1 H H1) : LpQ c1 H1 M r Q := fun c' H' t W st' ht => k c' H' t W (st.trans st') ht
theorem m7 : ∀ i, i = 7 → IMo i := fun _ h => .inl h
theorem m8 : ∀ i, i = 8 → IMo i := fun _ h => .inr (.inl h)
theorem m10 : ∀ i, i = 10 → IMo i := fun _ h => .inr (.inr (.inl h))
theorem m11 : ∀ i, i = 11 → IMo i := fun _ h => .inr (.inr (.inr (.inl h)))
theorem m12 : ∀ i, i = 12 → IMo i := fun _ h => .inr (.inr (.inr (.inr h)))
def malT (k : Kd) (t : List Nat) : Bool := !decide (V.str (SX.S ((lnL t).getD 0 [])) = V.str k.s) || !decide (V.str (Txt.slice (SX.S t) (some (-1)) none) = V.str "\n")
structure PutOk (k : Kd) (t : List Nat) : Prop where
  nl : k ≠ .lay
  okc : okC t
  len : t.length ≤ 10000
  mal : malT k t = true → faultK k.s t ≠ none
  ok : malT k t = false → faultK k.s t = none
end Lw

/-! ## the law's answers -/
namespace Lw
open PySem L2
open PyProof.Rows (envOfC sortedS)
def spLRefs : Sp := fun vs H Q _ => ∃ (b : Bl), vs = [.str b.k.s, .str (SX.S b.t)] ∧ b.Ok ∧ ∀ r H', Same H H' → H' r = some (.lst (b.refs.map strS)) → Q (.ref r) H'
def MoB (H : Hp) (M : Addr) (ks : List Str) (B : Str → Bl) : Prop := ∃ (bd nd pd td : Addr) (n un : Int), H M = some (.dK (mdl bd nd pd td n un)) ∧ BlobD H bd ks B
theorem MoB.same {H H' : Hp} {M : Addr} {ks : List Str} {B : Str → Bl} (h : MoB H M ks B) (s : Same H H') : MoB H' M ks B := by
  obtain ⟨bd, nd, pd, td, n, un, h1, h2⟩ := h
  exact ⟨bd, nd, pd, td, n, un, s.at h1, h2.same s⟩
theorem MoX.mob {c : Addr → Nat} {H : Hp} {M bd nd pd td : Addr} {A : Int → Addr} {s : Rg} (X : MoX c H M bd nd pd td A s) : MoB H M s.ks s.B := ⟨_, _, _, _, _, _, X.hm, X.hb⟩
def spLWh (n : Nat) : Sp := fun vs H Q _ => ∃ (d : Addr) (ks : List Str) (B : Str → Bl) (a : Str), vs = [.ref d, .str a] ∧ MoB H d ks B ∧ SWf ks B ∧ (a ∈ ks → (B a).k.rk ≤ n) ∧ ∀ H', Same H H' → Q (.bl (wh ks B (n + 1) a)) H'
def LWhC (n : Nat) (sp : Sp) : Prop := ∀ (H : Hp) (Q : VK) (d : Addr) (ks : List Str) (B : Str → Bl) (a : Str), MoB H d ks B → SWf ks B → a ∈ ks → (B a).k.rk < n → (∀ H', Same H H' → Q (.bl (wh ks B n a)) H') → sp [.ref d, .str a] H Q E0
def spLKept : Sp := fun vs H Q _ => ∃ (c : Addr → Nat) (M : Addr) (s : Rg) (i : Int) (a : Str), vs = [.ref M, .int i, .str a] ∧ MoAt c H M s ∧ i ∈ s.cs ∧ (s.L i).length ≤ 1000 ∧ s.cs.length ≤ 1000 ∧ LpQ c H M (keepR s i a) Q
def spLFin : Sp := fun vs H Q _ => ∃ (c : Addr → Nat) (M : Addr) (s : Rg) (u i : Int) (a : Str), vs = [.ref M, .int u, .int i, .str a] ∧ MoAt c H M s ∧ RWf s ∧ i ∈ s.cs ∧ LpQ c H M (finR s u i a) Q
def spLPut : Sp := fun vs H Q _ => ∃ (c : Addr → Nat) (M : Addr) (s : Rg) (i : Int) (k : Kd) (t : List Nat), vs = [.ref M, .int i, .str k.s, .str (SX.S t)] ∧ MoAt c H M s ∧ RWf s ∧ i ∈ s.cs ∧ PutOk k t ∧ LpQ c H M (putR s i k t) Q
section
variable {P : Program} {w : World} {K : PySem.W.Frag} {mg : Str → Option Value} {base : Heap} {C_Claims C_Collector C_Store C_Uploads C_Registry C_Refused C_Malformed a_KINDS a_BELOW a_CLAIMED : Addr}
theorem ok__law_refs (T : Txt w K mg C_Claims C_Collector C_Store C_Uploads C_Registry C_Refused C_Malformed a_KINDS a_BELOW a_CLAIMED) : Cal P w K mg base 1 "_law_refs" spLRefs := by
  refine cal_mk T.d__law_refs sc__law_refs (fun vs H Q E h => ?_) (fun f cdv A outer s H vs Q E hr h => ?_)
  · obtain ⟨b, rfl, _⟩ := h
    rfl
  · obtain ⟨b, rfl, ok, k⟩ := h
    have hu := hu_of hr
    have hl := ok.l
    have hf := ok.f
    unfold Bl.refs refsL at k
    unfold faultK at hf
    refine ⟨_, (pss_cons (ps_set (i := 2) sc__law_refs.nd rfl (by first | exact Or.inl rfl | exact Or.inr rfl) (pe_split (pv 1) (pe_str)))
      (pss_cons (ps_if (pt_cmpR op_eq (pv 0) (pe_str) (nomark _)) (pss_one (ps_ret (pe_lst pa_nil))) pss_nil)
      (pss_cons (ps_if (pt_cmpR op_eq (pv 0) (pe_str) (nomark _)) (pss_one (ps_ret (pe_slice sl_list (pv 2) (po_some (pe_int)) (po_some (pe_un un_neg (pe_int)))))) pss_nil)
      (pss_one (ps_ret (pe_lc (own := [("_law_line", 3)]) (g := (gName 3)) (by rfl) sc__law_refs.nd (pi_list (pe_slice sl_list (pv 2) (po_some (pe_int)) (po_some (pe_un un_neg (pe_int))))) (blkOk_by (own := [("_law_line", 3)]) (N := n__law_refs) (sc := defScope s__law_refs) (by decide +kernel)) (fun _ _ _ _ _ => (pg_name (i := 3) sc__law_refs.nd rfl (by first | exact Or.inl rfl | exact Or.inr rfl))) (fun _ _ _ _ _ => pts_nil) (fun _ _ _ _ _ => (pe_ix (ix_listK K rfl) (pe_split (pv 3) (pe_str)) (pe_int) (fun _ _ => rfl))))))))), ?_⟩
    walk_at "lw"
    refine g_spl (by decide +kernel) (by rw [SX.S_len]; exact Nat.le_trans (show b.t.length + 2 ≤ 100002 by omega) (by decide)) fun q H1 nq s1 hq => ?_
    rw [split_ln, List.map_map] at hq
    have hq : H1 q = some (.lst ((lnL b.t).map strS)) := hq
    walk_at "lw"
    refine if2 (fun e1 => ?_) (fun e1 => ?_)
    · have e1 := str_eq.mp e1
      rw [if_pos e1] at k
      walk_at "lw"
      exact g_klst (by show 0 ≤ 100; decide) fun r H2 _ s2 hr => k r H2 (s1.trans s2) hr
    · have e1 : ¬ b.k.s = "layer" := fun z => e1 (by rw [z])
      rw [if_neg e1] at k hf
      walk_at "lw"
      refine if2 (fun e2 => ?_) (fun e2 => ?_)
      · have e2 := str_eq.mp e2
        rw [if_pos e2] at k
        walk_at "lw"
        refine ⟨_, rfl, ?_⟩
        walk_at "lw"
        refine g_slL (SqL.of hq) fun r H2 _ s2 hr => ?_
        rw [cut_mid] at hr
        exact k r H2 (s1.trans s2) hr
      · have e2 : ¬ b.k.s = "image" := fun z => e2 (by rw [z])
        rw [if_neg e2] at k
        rw [decide_eq_false e2] at hf
        have h2 := bun_two hf
        walk_at "lw"
        refine ⟨_, rfl, ?_⟩
        walk_at "lw"
        refine g_slL (SqL.of hq) fun r H2 _ s2 hr => ?_
        rw [cut_mid] at hr
        refine g_ritL (SqL.of hr) ?_
        have hml : (mid (lnL b.t)).length ≤ 100000 := by rw [mid_len]; have := ln_le b.t; omega
        refine lc_map (G := fun H' => SqL K H' r ((mid (lnL b.t)).map strS)) walk_list (fun H' s => SqL.of (s _ _ hr)) (by rw [List.length_map]; exact hml) (fun _ => true) (fun v => match v with | .str x => strS (w1 x.cps.toList) | _ => v) ?_ ?_
        · intro x hx H' R s3 kk
          obtain ⟨l, hl2, rfl⟩ := List.mem_map.mp hx
          have hlen := ln_part (mid_mem hl2)
          walk_at "lw"
          refine kk _ rfl (fun H'' R s2 r => ?_) (fun hp' H'' R s2 r => ?_)
          · walk_at "lw"
            exact r
          · walk_at "lw"
            refine g_rstr (x := SX.S l) ?_
            walk_at "lw"
            refine g_spl (by decide +kernel) (by rw [SX.S_len]; exact Nat.le_trans (show l.length + 2 ≤ 100002 by omega) (by decide)) fun wq H5 nwq s5 hwq => ?_
            rw [split_wd, List.map_map] at hwq
            have hwq : H5 wq = some (.lst ((wdL l).map strS)) := hwq
            walk_at "lw"
            refine g_rix (SqL.of hwq) (atI_map (atI_nat (j := 1) (w1_at (h2 l hl2)))) ?_
            exact r _ s5
        · intro q3 H3 nq3 s3 hq3
          rw [List.filter_eq_self.mpr (fun _ _ => rfl), List.map_map] at hq3
          have e : (mid (lnL b.t)).map ((fun v => match v with | V.str x => strS (w1 x.cps.toList) | _ => v) ∘ strS) = ((prs b.t).map (·.2)).map strS := by
            unfold prs
            rw [List.map_map, List.map_map]
            rfl
          rw [e] at hq3
          exact k q3 H3 ((s1.trans s2).trans s3) hq3
theorem lwh_step (T : Txt w K mg C_Claims C_Collector C_Store C_Uploads C_Registry C_Refused C_Malformed a_KINDS a_BELOW a_CLAIMED) {n k' j : Nat} {sp' : Sp} (h6 : 1 ≤ j) (hk : k' ≤ j) (c__law_whole : Cal P w K mg base k' "_law_whole" sp') (hs : LWhC n sp') : Cal P w K mg base (j + 1) "_law_whole" (spLWh n) := by
  have c__law_refs : Cal P w K mg base 1 "_law_refs" spLRefs := ok__law_refs T
  refine cal_mk T.d__law_whole sc__law_whole (fun vs H Q E h => ?_) (fun f cdv A outer s H vs Q E hr h => ?_)
  · obtain ⟨d, ks, B, a, rfl, _⟩ := h
    rfl
  · obtain ⟨M, ks, B, a, rfl, hb, wf, hrk, k⟩ := h
    have hu := hu_of hr
    obtain ⟨d, nd, pd, td, n0, un0, hM, A', h4, h5⟩ := id hb
    refine ⟨_, (pss_cons (ps_set (i := 2) sc__law_whole.nd rfl (by first | exact Or.inl rfl | exact Or.inr rfl) (pe_dget hu (pv 0) (pe_str) (fun _ _ => rfl)))
      (pss_cons (ps_if (pt_cmp (pc_dnotin hu (pv 1) (pv 2))) (pss_one (ps_ret (pe_bl))) pss_nil)
      (pss_cons (ps_asg (pe_dget hu (pv 2) (pv 1) (fun _ _ => rfl)) (pg_tup (by rfl) (pgs_cons (pg_name (i := 3) sc__law_whole.nd rfl (by first | exact Or.inl rfl | exact Or.inr rfl)) (pgs_cons (pg_name (i := 4) sc__law_whole.nd rfl (by first | exact Or.inl rfl | exact Or.inr rfl)) pgs_nil))))
      (pss_cons (ps_set (i := 5) sc__law_whole.nd rfl (by first | exact Or.inl rfl | exact Or.inr rfl) (pe_dget hu (pe_disp (pps_cons (pe_str) (pe_str) (pps_cons (pe_str) (pe_str) (pps_cons (pe_str) (pe_str) pps_nil))) (by rfl) (by rfl) (fun z => by cases z) (by decide)) (pv 3) (fun _ _ => rfl)))
      (pss_cons (ps_for PassesOwn.never rfl (pi_list (pe_c c__law_refs hr (by first | decide | omega) rfl (pa_cons (pv 3) (pa_cons (pv 4) pa_nil)))) (pg_name (i := 6) sc__law_whole.nd rfl (by first | exact Or.inl rfl | exact Or.inr rfl)) (pss_one (ps_if (PW.pt (pw_or (pt_cmp (pc_dnotin hu (pv 6) (pv 2))) (pw_or (pt_cmpR op_ne (pe_ix ix_tup (pe_dget hu (pv 2) (pv 6) (fun _ _ => rfl)) (pe_int) (fun _ _ => rfl)) (pv 5) (nomark _)) (pw_or1 (pt_not (pt_val (pe_c c__law_whole hr (by first | decide | omega) rfl (pa_cons (pv 0) (pa_cons (pv 6) pa_nil))))))))) (pss_one (ps_ret (pe_bl))) pss_nil)))
      (pss_one (ps_ret (pe_bl)))))))), ?_⟩
    walk_at "lw"
    refine g_rdgetS (.of hM) mdl_blobs ?_
    walk_at "lw"
    refine g_rdnotinS (.of h4) ?_
    rw [dec_in]
    walk_at "lw"
    refine ifn2 (fun hm => ?_) (fun hm => ?_)
    rotate_left
    · walk_at "lw"
      have k := k H (Same.refl _)
      unfold wh at k
      rw [decide_eq_false hm, Bool.false_and] at k
      exact k
    · have hrk := hrk hm
      walk_at "lw"
      refine g_rdgetS (.of h4) (by rw [valV_mkS, if_pos hm]) ?_
      refine g_gtup (SqT.of (h5 a hm)) rfl ?_
      walk_at "lw"
      refine g_disp fun dd H0 ndd s0 hdd => ?_
      walk_at "lw"
      refine g_rdisp (kvs := dueK) hdd rfl (by decide) fun H1 hd1 k1 => ?_
      have s1 : Same H H1 := s0.chg ndd k1
      have h41 := s1.at h4
      walk_at "lw"
      refine g_rdgetS (.of hd1) (due_at _) ?_
      walk_at "lw"
      refine ⟨B a, rfl, wf.ok a hm, fun r H2 s2 hr2 => ?_⟩
      refine g_ritL (SqL.of hr2) ?_
      refine for_at (G := fun H' => SqL K H' r ((B a).refs.map strS)) walk_list (fun i σ H' => Same H2 H' ∧ (∀ x ∈ (B a).refs.take i, (decide (SX.S x ∈ ks) && (decide ((B a).k.lo = some (B (SX.S x)).k) && wh ks B n (SX.S x))) = true) ∧
        ∃ v : Option V, σ = [some (.ref M), some (.str a), some (.ref d), some (.str (B a).k.s), some (strS (B a).t), some (.str (dueS (B a).k)), v]) ⟨Same.refl _, (fun x hx => nomatch hx), none, rfl⟩ (fun i σ H' h => SqL.of (h.1.at hr2)) ?_ ?_
      · rintro i x σ H3 hx ⟨s3, hall, v, rfl⟩
        obtain ⟨y, hy, rfl⟩ := map_at hx
        have hi : i < (B a).refs.length := (List.getElem?_eq_some_iff.mp hy).1
        have s03 := s1.trans (s2.trans s3)
        have h43 := s03.at h4
        have bad : (decide (SX.S y ∈ ks) && (decide ((B a).k.lo = some (B (SX.S y)).k) && wh ks B n (SX.S y))) = false → ∀ H', Same H H' → Q (.bl false) H' := fun hb H' s' => by
          have k := k H' s'
          unfold wh at k
          rw [show (List.all (B a).refs fun r => decide (SX.S r ∈ ks) && (decide ((B a).k.lo = some (B (SX.S r)).k) && wh ks B n (SX.S r))) = false by
            rw [List.all_eq_false]
            exact ⟨y, List.mem_of_getElem? hy, by rw [hb]; decide⟩, Bool.and_false] at k
          exact k
        have hkd : (B a).k ≠ .lay := fun z => by
          rw [refs_lay z] at hi
          exact absurd hi (Nat.not_lt_zero _)
        walk_at "lw"
        refine g_rdnotinS (.of h43) ?_
        rw [dec_in]
        walk_at "lw"
        refine ifn2 (fun hm2 => ?_) (fun hm2 => ?_)
        · have h53 : H3 (A' (SX.S y)) = some (.tup [.str (B (SX.S y)).k.s, strS (B (SX.S y)).t]) := s03.at (h5 _ hm2)
          walk_at "lw"
          refine g_rdgetS (.of h43) (by rw [valV_mkS, if_pos hm2]) ?_
          walk_at "lw"
          refine g_rixT (SqT.of h53) (j := 0) (v := .str (B (SX.S y)).k.s) rfl ?_
          walk_at "lw"
          rw [due_ne hkd]
          by_cases he : (B a).k.lo = some (B (SX.S y)).k
          · have hlt := Kd.lo_rk he
            rw [decide_eq_true he]
            walk_at "lw"
            refine hs H3 _ M ks B (SX.S y) (hb.same s03) wf hm2 (by omega) fun H4 s4 => ?_
            walk_at "lw"
            cases hw : wh ks B n (SX.S y) with
            | true =>
              walk_at "lw"
              refine ⟨s3.trans s4, fun x hx => ?_, _, rfl⟩
              rw [take_ok hy] at hx
              rcases List.mem_append.mp hx with z | z
              · exact hall x z
              · rw [List.mem_singleton.mp z, decide_eq_true hm2, decide_eq_true he, hw]
                rfl
            | false =>
              walk_at "lw"
              exact bad (by rw [hw, Bool.and_false, Bool.and_false]) H4 (s03.trans s4)
          · rw [decide_eq_false he]
            walk_at "lw"
            exact bad (by rw [decide_eq_false he, Bool.false_and, Bool.and_false]) H3 s03
        · walk_at "lw"
          exact bad (by rw [decide_eq_false hm2, Bool.false_and]) H3 s03
      · rintro σ H3 ⟨s3, hall, v, rfl⟩
        rw [List.length_map, List.take_length] at hall
        walk_at "lw"
        have k := k H3 (s1.trans (s2.trans s3))
        unfold wh at k
        rw [decide_eq_true hm, List.all_eq_true.mpr hall] at k
        exact k
theorem no_lwhole (T : Txt w K mg C_Claims C_Collector C_Store C_Uploads C_Registry C_Refused C_Malformed a_KINDS a_BELOW a_CLAIMED) : Cal P w K mg base 1 "_law_whole" (fun _ _ _ _ => False) :=
  cal_mk T.d__law_whole sc__law_whole (fun vs H Q E h => h.elim) (fun f cdv A outer s H vs Q E hr h => h.elim)
theorem ok__law_whole (T : Txt w K mg C_Claims C_Collector C_Store C_Uploads C_Registry C_Refused C_Malformed a_KINDS a_BELOW a_CLAIMED) : Cal P w K mg base 4 "_law_whole" (spLWh 2) := by
  have t0 : Cal P w K mg base 2 "_law_whole" (spLWh 0) := lwh_step T (j := 1) (by decide) (by decide) (no_lwhole T) (fun H Q d ks B a _ _ _ h _ => absurd h (Nat.not_lt_zero _))
  have t1 : Cal P w K mg base 3 "_law_whole" (spLWh 1) := lwh_step T (j := 2) (by decide) (by decide) t0 (fun H Q d ks B a hb wf hm h k => ⟨d, ks, B, a, rfl, hb, wf, fun _ => by omega, k⟩)
  exact lwh_step T (j := 3) (by decide) (by decide) t1 (fun H Q d ks B a hb wf hm h k => ⟨d, ks, B, a, rfl, hb, wf, fun _ => by omega, k⟩)
theorem ok__law_kept (T : Txt w K mg C_Claims C_Collector C_Store C_Uploads C_Registry C_Refused C_Malformed a_KINDS a_BELOW a_CLAIMED) : Cal P w K mg base 1 "_law_kept" spLKept := by
  refine cal_mk T.d__law_kept sc__law_kept (fun vs H Q E h => ?_) (fun f cdv A outer s H vs Q E hr h => ?_)
  · obtain ⟨c, M, s, i, a, rfl, _⟩ := h
    rfl
  · obtain ⟨c, M, s', i, a, rfl, ⟨bd, nd, pd, td, A', X⟩, hi, hl, hcl, k⟩ := h
    have hu := hu_of hr
    refine ⟨_, (pss_cons (ps_set (i := 3) sc__law_kept.nd rfl (by first | exact Or.inl rfl | exact Or.inr rfl) (pe_dget hu (pv 0) (pe_str) (fun _ _ => rfl)))
      (pss_cons (ps_dput hu (pv 3) (pv 1) (pe_op op_cat (pe_dget hu (pv 3) (pv 1) (fun _ _ => rfl)) (pe_lst (pa_cons (pv 2) pa_nil))) rfl)
      (pss_one (ps_ret (pe_tup (pa_cons (pe_str) (pa_cons (pv 2) pa_nil))))))), ?_⟩
    walk_at "lw"
    refine g_rdgetS (.of X.hm) mdl_pins ?_
    walk_at "lw"
    refine g_rdgetI (.of X.hp) (by rw [valV_mkD, if_pos hi]) ?_
    walk_at "lw"
    refine g_klst (by show 1 ≤ 100; decide) fun q H1 nq s1 hq => ?_
    have X1 := X.same s1
    obtain ⟨ca, ha⟩ := X1.ca i hi
    walk_at "lw"
    refine g_cat ha hq (by rw [List.length_map]; show (s'.L i).length + 1 ≤ 100000; omega) fun r H2 nr s2 hr2 => ?_
    have st2 : Stp (fun _ => False) c (Stp.paint c r 13) H1 H2 := L2x_sameN s2 nr
    have X2 := X1.frame st2 id id id id id id
    have cr : Stp.paint c r 13 r = 13 := Stp.paint_same
    generalize Stp.paint c r 13 = c2 at st2 X2 cr
    walk_at "lw"
    refine g_rdputI X2.hp (by rw [mkD_len]; omega) fun H3 h3 k3 => ?_
    rw [putK_mkD_old hi] at h3
    have st3 : Stp (fun i => i = 11) c2 c2 H2 H3 := Stp.ch X2.hp X2.cp (fun xs z => by cases z) h3 k3
    have X3 : MoX c2 H3 M bd nd pd td (fun j => if j = i then r else A' j) (pin s' i a) := X2.pins (L := (pin s' i a).L) (by
        rw [h3]
        congr 2
        refine mkD_congr fun j hj => ?_
        by_cases e : j = i
        · rw [if_pos e, if_pos e]
        · rw [if_neg e, if_neg e]) (fun j hj => by
        unfold pin
        dsimp only
        by_cases e : j = i
        · rw [if_pos e, if_pos e, k3 r (ne_of hr2 X2.hp (by intro z; cases z)), hr2, List.map_append]
          exact ⟨cr, rfl⟩
        · rw [if_neg e, if_neg e]
          obtain ⟨cj, hj2⟩ := X2.ca j hj
          exact ⟨cj, by rw [k3 _ (ne_of hj2 X2.hp (by intro z; cases z))]; exact hj2⟩) st3
    walk_at "lw"
    refine g_ktup (by show 2 ≤ 100; decide) fun t H4 nt s4 ht => ?_
    walk_at "lw"
    exact k c2 H4 t ((X3.shd a).same s4).at ((((Stp.same s1).trans (st2.mono fun i z => z.elim)).trans (st3.mono m11)).trans (Stp.same s4)) ht
theorem ok__law_finish (T : Txt w K mg C_Claims C_Collector C_Store C_Uploads C_Registry C_Refused C_Malformed a_KINDS a_BELOW a_CLAIMED) : Cal P w K mg base 5 "_law_finish" spLFin := by
  have c__law_whole : Cal P w K mg base 4 "_law_whole" (spLWh 2) := ok__law_whole T
  have c__law_kept : Cal P w K mg base 1 "_law_kept" spLKept := ok__law_kept T
  have c_address_of : Cal P w K mg base 1 "address_of" spAddr := ok_address_of T
  refine cal_mk T.d__law_finish sc__law_finish (fun vs H Q E h => ?_) (fun f cdv A outer s H vs Q E hr h => ?_)
  · obtain ⟨c, M, s, u, i, a, rfl, _⟩ := h
    rfl
  · obtain ⟨c, M, s', u, i, a, rfl, ⟨bd, nd, pd, td, A', X⟩, wf, hi, k⟩ := h
    have hu := hu_of hr
    refine ⟨_, (pss_cons (ps_set (i := 4) sc__law_finish.nd rfl (by first | exact Or.inl rfl | exact Or.inr rfl) (pe_dget hu (pv 0) (pe_str) (fun _ _ => rfl)))
      (pss_cons (ps_if (pt_cmp (pc_dnotin hu (pv 1) (pv 4))) (pss_cons (ps_if (pt_val (pe_c c__law_whole hr (by first | decide | omega) rfl (pa_cons (pv 0) (pa_cons (pv 3) pa_nil)))) (pss_one (ps_ret (pe_c c__law_kept hr (by first | decide | omega) rfl (pa_cons (pv 0) (pa_cons (pv 2) (pa_cons (pv 3) pa_nil)))))) pss_nil)
      (pss_one (ps_ret (pe_tup (pa_cons (pe_str) (pa_cons (pv 1) pa_nil)))))) pss_nil)
      (pss_cons (ps_set (i := 5) sc__law_finish.nd rfl (by first | exact Or.inl rfl | exact Or.inr rfl) (pe_dget hu (pv 4) (pv 1) (fun _ _ => rfl)))
      (pss_cons (ps_expr (pe_dpop1 (pv 4) (pv 1) ⟨rfl, by rfl, rfl, rfl⟩))
      (pss_cons (ps_if (pt_cmpR op_ne (pe_c c_address_of hr (by first | decide | omega) rfl (pa_cons (pe_str) (pa_cons (pv 5) pa_nil))) (pv 3) (nomark _)) (pss_one (ps_ret (pe_tup (pa_cons (pe_str) (pa_cons (pv 3) pa_nil))))) pss_nil)
      (pss_cons (ps_set (i := 6) sc__law_finish.nd rfl (by first | exact Or.inl rfl | exact Or.inr rfl) (pe_dget hu (pv 0) (pe_str) (fun _ _ => rfl)))
      (pss_cons (ps_dput hu (pv 6) (pv 3) (pe_tup (pa_cons (pe_str) (pa_cons (pv 5) pa_nil))) rfl)
      (pss_one (ps_ret (pe_c c__law_kept hr (by first | decide | omega) rfl (pa_cons (pv 0) (pa_cons (pv 2) (pa_cons (pv 3) pa_nil))))))))))))), ?_⟩
    walk_at "lw"
    refine g_rdgetS (.of X.hm) mdl_texts ?_
    walk_at "lw"
    refine g_rdnotinI (.of X.ht) ?_
    rw [valV_mkD]
    unfold finR at k
    rw [if_pos hi] at k
    by_cases hu2 : u ∈ s'.ts
    · rw [if_pos hu2] at k ⊢
      refine ⟨false, rfl, ?_⟩
      walk_at "lw"
      refine g_rdgetI (.of X.ht) (by rw [valV_mkD, if_pos hu2]) ?_
      walk_at "lw"
      refine g_risd (.of X.ht) ?_
      walk_at "lw"
      refine g_rdpopI X.ht (by rw [valV_mkD, if_pos hu2]) fun H1 h1 k1 => ?_
      rw [dropK_mkD] at h1
      have st1 : Stp (fun i => i = 12) c c H H1 := Stp.ch X.ht X.ct (fun xs z => by cases z) h1 k1
      have X1 : MoX c H1 M bd nd pd td A' (unup s' u) := X.texts h1 st1
      have k := k.shift (st1.mono m12)
      walk_at "lw"
      refine ⟨Kd.lay.s, s'.X u, rfl, Kd.s_kind _, ?_⟩
      walk_at "lw"
      refine ifn2 (fun he => ?_) (fun he => ?_)
      · have he : adrB ⟨.lay, s'.X u⟩ = a := str_eq.mp he
        rw [if_pos he] at k
        walk_at "lw"
        refine g_rdgetS (.of X1.hm) mdl_blobs ?_
        walk_at "lw"
        refine g_ktup (by show 2 ≤ 100; decide) fun t H2 nt s2 ht => ?_
        have X2 := X1.same s2
        obtain ⟨Ab, b1, b2⟩ := X2.hb
        walk_at "lw"
        refine g_rdputS b1 (by rw [mkS_len]; have := wf.kl; show s'.ks.length < 100000; omega) fun H3 h3 k3 => ?_
        have st3 : Stp (fun i => i = 8) c c H2 H3 := Stp.ch b1 X2.cb (fun xs z => by cases z) h3 k3
        have X3 : MoX c H3 M bd nd pd td A' (sto (unup s' u) ⟨.lay, s'.X u⟩) := X2.blobs (by
          have := BlobD.put (b := ⟨.lay, s'.X u⟩) (a := a) b1 b2 ht h3 k3
          rw [← he] at this
          exact this) st3
        walk_at "lw"
        exact ⟨c, M, _, i, a, rfl, X3.at, hi, by have := wf.Ll i; show (s'.L i).length ≤ 1000; omega, by have := wf.cl; show s'.cs.length ≤ 1000; omega, k.shift ((Stp.same s2).trans (st3.mono m8))⟩
      · have he : ¬ adrB ⟨.lay, s'.X u⟩ = a := fun z => he (by rw [← z]; rfl)
        rw [if_neg he] at k
        walk_at "lw"
        refine g_ktup (by show 2 ≤ 100; decide) fun t H3 nt s3 ht => ?_
        walk_at "lw"
        exact k c H3 t (X1.same s3).at (Stp.same s3) ht
    · rw [if_neg hu2] at k ⊢
      walk_at "lw"
      refine ⟨M, s'.ks, s'.B, a, rfl, X.mob, wf.sw, fun _ => Kd.rk2 _, fun H1 s1 => ?_⟩
      have X1 := X.same s1
      have k := k.shift (Stp.same s1)
      cases hw : wh s'.ks s'.B (2 + 1) a with
      | true =>
        have hw : wh s'.ks s'.B 3 a = true := hw
        rw [if_pos hw] at k
        walk_at "lw"
        exact ⟨c, M, s', i, a, rfl, X1.at, hi, by have := wf.Ll i; omega, by have := wf.cl; omega, k⟩
      | false =>
        have hw : wh s'.ks s'.B 3 a = false := hw
        rw [if_neg (by rw [hw]; decide)] at k
        walk_at "lw"
        refine g_ktup (by show 2 ≤ 100; decide) fun t H3 nt s3 ht => ?_
        walk_at "lw"
        exact k c H3 t (X1.same s3).at (Stp.same s3) ht
theorem ok__law_put (T : Txt w K mg C_Claims C_Collector C_Store C_Uploads C_Registry C_Refused C_Malformed a_KINDS a_BELOW a_CLAIMED) : Cal P w K mg base 5 "_law_put" spLPut := by
  have c__law_refs : Cal P w K mg base 1 "_law_refs" spLRefs := ok__law_refs T
  have c__law_whole : Cal P w K mg base 4 "_law_whole" (spLWh 2) := ok__law_whole T
  have c__law_kept : Cal P w K mg base 1 "_law_kept" spLKept := ok__law_kept T
  have c_address_of : Cal P w K mg base 1 "address_of" spAddr := ok_address_of T
  refine cal_mk T.d__law_put sc__law_put (fun vs H Q E h => ?_) (fun f cdv A outer s H vs Q E hr h => ?_)
  · obtain ⟨c, M, s, i, kd, t, rfl, _⟩ := h
    rfl
  · obtain ⟨c, M, s', i, kd, t, rfl, ⟨bd, nd, pd, td, A', X⟩, wf, hi, ok, k⟩ := h
    have hu := hu_of hr
    have hl := ok.len
    refine ⟨_, (pss_cons (ps_if (PW.pt (pw_or (pt_cmpR op_ne (pe_ix ix_list (pe_split (pv 3) (pe_str)) (pe_int) (fun _ _ => rfl)) (pv 2) (nomark _)) (pw_or1 (pt_cmpR op_ne (pe_slice C8.sl_txt (pv 3) (po_some (pe_un un_neg (pe_int))) po_none) (pe_str) (nomark _))))) (pss_one (ps_ret (pe_tup (pa_cons (pe_str) pa_nil)))) pss_nil)
      (pss_cons (ps_for PassesOwn.never rfl (pi_list (pe_c c__law_refs hr (by first | decide | omega) rfl (pa_cons (pv 2) (pa_cons (pv 3) pa_nil)))) (pg_name (i := 4) sc__law_put.nd rfl (by first | exact Or.inl rfl | exact Or.inr rfl)) (pss_cons (ps_set (i := 5) sc__law_put.nd rfl (by first | exact Or.inl rfl | exact Or.inr rfl) (pe_dget hu (pv 0) (pe_str) (fun _ _ => rfl)))
      (pss_cons (ps_set (i := 6) sc__law_put.nd rfl (by first | exact Or.inl rfl | exact Or.inr rfl) (pe_dget hu (pe_disp (pps_cons (pe_str) (pe_str) (pps_cons (pe_str) (pe_str) pps_nil)) (by rfl) (by rfl) (fun z => by cases z) (by decide)) (pv 2) (fun _ _ => rfl)))
      (pss_one (ps_if (PW.pt (pw_or (pt_cmp (pc_dnotin hu (pv 4) (pv 5))) (pw_or (pt_cmpR op_ne (pe_ix ix_tup (pe_dget hu (pv 5) (pv 4) (fun _ _ => rfl)) (pe_int) (fun _ _ => rfl)) (pv 6) (nomark _)) (pw_or1 (pt_not (pt_val (pe_c c__law_whole hr (by first | decide | omega) rfl (pa_cons (pv 0) (pa_cons (pv 4) pa_nil))))))))) (pss_one (ps_ret (pe_tup (pa_cons (pe_str) (pa_cons (pv 4) pa_nil))))) pss_nil)))))
      (pss_cons (ps_set (i := 5) sc__law_put.nd rfl (by first | exact Or.inl rfl | exact Or.inr rfl) (pe_dget hu (pv 0) (pe_str) (fun _ _ => rfl)))
      (pss_cons (ps_set (i := 7) sc__law_put.nd rfl (by first | exact Or.inl rfl | exact Or.inr rfl) (pe_c c_address_of hr (by first | decide | omega) rfl (pa_cons (pv 2) (pa_cons (pv 3) pa_nil))))
      (pss_cons (ps_dput hu (pv 5) (pv 7) (pe_tup (pa_cons (pv 2) (pa_cons (pv 3) pa_nil))) rfl)
      (pss_one (ps_ret (pe_c c__law_kept hr (by first | decide | omega) rfl (pa_cons (pv 0) (pa_cons (pv 1) (pa_cons (pv 7) pa_nil))))))))))), ?_⟩
    walk_at "lw"
    refine g_spl (by decide +kernel) (by rw [SX.S_len]; exact Nat.le_trans (show t.length + 2 ≤ 100002 by omega) (by decide)) fun q H1 nq s1 hq => ?_
    rw [split_ln, List.map_map] at hq
    have hq : H1 q = some (.lst ((lnL t).map strS)) := hq
    walk_at "lw"
    obtain ⟨y0, hy0⟩ : ∃ y, (lnL t)[0]? = some y := by
      cases e : lnL t with
      | nil => exact absurd e (spl_ne _ _ _ _)
      | cons y r => exact ⟨y, rfl⟩
    have hg : (lnL t).getD 0 [] = y0 := by rw [List.getD_eq_getElem?_getD, hy0]; rfl
    have bad : malT kd t = true → ∀ (t2 : Addr) (H4 : Hp), Same H H4 → H4 t2 = some (.tup [.str "malformed"]) → Q (.ref t2) H4 := fun hm t2 H4 s4 ht2 => by
      have hf := ok.mal hm
      unfold putR at k
      cases hq : faultK kd.s t with
      | none => exact absurd hq hf
      | some n =>
        rw [hq] at k
        exact k c H4 t2 (X.same s4).at (Stp.same s4) ht2
    refine g_rix (SqL.of hq) (atI_map (atI_nat (j := 0) hy0)) ?_
    walk_at "lw"
    refine ifn2 (fun he => ?_) (fun he => ?_)
    rotate_left
    · have he : ¬ V.str (SX.S y0) = V.str kd.s := he
      walk_at "lw"
      refine g_ktup (by show 1 ≤ 100; decide) fun t2 H2 nt s2 ht2 => ?_
      walk_at "lw"
      exact bad (by unfold malT; rw [hg, decide_eq_false he]; rfl) t2 H2 (s1.trans s2) ht2
    have he : V.str (SX.S y0) = V.str kd.s := he
    walk_at "lw"
    refine ⟨_, rfl, ?_⟩
    walk_at "lw"
    refine g_rslS (by rw [SX.S_len]; exact Nat.le_trans hl (by decide)) ?_
    walk_at "lw"
    refine ifn2 (fun he2 => ?_) (fun he2 => ?_)
    rotate_left
    · walk_at "lw"
      refine g_ktup (by show 1 ≤ 100; decide) fun t2 H2 nt s2 ht2 => ?_
      walk_at "lw"
      exact bad (by unfold malT; rw [decide_eq_false he2, Bool.not_false, Bool.or_true]) t2 H2 (s1.trans s2) ht2
    clear bad
    have hf := ok.ok (by unfold malT; rw [hg, decide_eq_true he, decide_eq_true he2]; rfl)
    have bok : (⟨kd, t⟩ : Bl).Ok := ⟨hf, hl, ok.okc⟩
    unfold putR at k
    rw [hf] at k
    dsimp only at k
    have hkd := ok.nl
    walk_at "lw"
    refine ⟨⟨kd, t⟩, rfl, bok, fun r H2 s2 hr2 => ?_⟩
    have hr2 : H2 r = some (.lst ((refsL kd.s t).map strS)) := hr2
    have s02 := s1.trans s2
    refine g_ritL (SqL.of hr2) ?_
    refine for_at (G := fun H' => SqL K H' r ((refsL kd.s t).map strS)) walk_list (fun m σ H' => Same H2 H' ∧ (∀ x ∈ (refsL kd.s t).take m, goodR s' kd x = true) ∧
      ∃ v1 v2 v3 : Option V, σ = [some (.ref M), some (.int i), some (.str kd.s), some (.str (SX.S t)), v1, v2, v3, none]) ⟨Same.refl _, (fun x hx => nomatch hx), none, none, none, rfl⟩ (fun i σ H' h => SqL.of (h.1.at hr2)) ?_ ?_
    · rintro m x σ H3 hx ⟨s3, hall, v1, v2, v3, rfl⟩
      obtain ⟨y, hy, rfl⟩ := map_at hx
      have s03 := s02.trans s3
      have bad : goodR s' kd y = false → ∀ (t2 : Addr) (H4 : Hp), Same H3 H4 → H4 t2 = some (.tup [.str "lacks", .str (SX.S y)]) → Q (.ref t2) H4 := fun hb t2 H4 s4 ht2 => by
        rw [badR_at hall hy hb] at k
        exact k c H4 t2 (X.same (s03.trans s4)).at (Stp.same (s03.trans s4)) ht2
      have X3 := X.same s03
      obtain ⟨Ab, b1, b2⟩ := X3.hb
      walk_at "lw"
      refine g_rdgetS (.of X3.hm) mdl_blobs ?_
      walk_at "lw"
      refine g_disp fun dd H4 ndd s4 hdd => ?_
      walk_at "lw"
      refine g_rdisp (kvs := dueK2) hdd rfl (by decide) fun H5 hd5 k5 => ?_
      have s5 : Same H3 H5 := s4.chg ndd k5
      walk_at "lw"
      refine g_rdgetS (.of hd5) (due2_at hkd) ?_
      walk_at "lw"
      refine g_rdnotinS (.of (s5.at b1)) ?_
      rw [dec_in]
      walk_at "lw"
      refine ifn2 (fun hm2 => ?_) (fun hm2 => ?_)
      · walk_at "lw"
        refine g_rdgetS (.of (s5.at b1)) (by rw [valV_mkS, if_pos hm2]) ?_
        walk_at "lw"
        refine g_rixT (SqT.of (s5.at (b2 _ hm2))) (j := 0) (v := .str (s'.B (SX.S y)).k.s) rfl ?_
        walk_at "lw"
        rw [due_ne hkd]
        by_cases he : kd.lo = some (s'.B (SX.S y)).k
        · rw [decide_eq_true he]
          walk_at "lw"
          refine ⟨M, s'.ks, s'.B, SX.S y, rfl, (X3.same s5).mob, wf.sw, fun _ => Kd.rk2 _, fun H6 s6 => ?_⟩
          walk_at "lw"
          cases hw : wh s'.ks s'.B (2 + 1) (SX.S y) with
          | true =>
            walk_at "lw"
            refine ⟨s3.trans (s5.trans s6), fun x hx => ?_, _, _, _, rfl⟩
            rw [take_ok hy] at hx
            rcases List.mem_append.mp hx with z | z
            · exact hall x z
            · rw [List.mem_singleton.mp z]
              unfold goodR
              rw [decide_eq_true hm2, decide_eq_true he]
              exact hw
          | false =>
            walk_at "lw"
            refine g_ktup (by show 2 ≤ 100; decide) fun t2 H7 nt s7 ht2 => ?_
            walk_at "lw"
            refine bad ?_ t2 H7 (s5.trans (s6.trans s7)) ht2
            unfold goodR
            have hw : wh s'.ks s'.B 3 (SX.S y) = false := hw
            rw [hw, Bool.and_false, Bool.and_false]
        · rw [decide_eq_false he]
          walk_at "lw"
          refine g_ktup (by show 2 ≤ 100; decide) fun t2 H7 nt s7 ht2 => ?_
          walk_at "lw"
          refine bad ?_ t2 H7 (s5.trans s7) ht2
          unfold goodR
          rw [decide_eq_false he, Bool.false_and, Bool.and_false]
      · walk_at "lw"
        refine g_ktup (by show 2 ≤ 100; decide) fun t2 H7 nt s7 ht2 => ?_
        walk_at "lw"
        refine bad ?_ t2 H7 (s5.trans s7) ht2
        unfold goodR
        rw [decide_eq_false hm2, Bool.false_and]
    · rintro σ H3 ⟨s3, hall, v1, v2, v3, rfl⟩
      rw [List.length_map, List.take_length] at hall
      rw [badR_nil hall] at k
      dsimp only at k
      have s03 := s02.trans s3
      have X3 := X.same s03
      walk_at "lw"
      refine g_rdgetS (.of X3.hm) mdl_blobs ?_
      walk_at "lw"
      refine ⟨kd.s, t, rfl, Kd.s_kind _, ?_⟩
      walk_at "lw"
      refine g_ktup (by show 2 ≤ 100; decide) fun t2 H4 nt s4 ht2 => ?_
      have X4 := X3.same s4
      obtain ⟨Ab, b1, b2⟩ := X4.hb
      walk_at "lw"
      refine g_rdputS b1 (by rw [mkS_len]; have := wf.kl; show s'.ks.length < 100000; omega) fun H5 h5 k5 => ?_
      have st5 : Stp (fun i => i = 8) c c H4 H5 := Stp.ch b1 X4.cb (fun xs z => by cases z) h5 k5
      have X5 : MoX c H5 M bd nd pd td A' (sto s' ⟨kd, t⟩) := X4.blobs (BlobD.put (b := ⟨kd, t⟩) (a := adrB ⟨kd, t⟩) b1 b2 ht2 h5 k5) st5
      walk_at "lw"
      exact ⟨c, M, _, i, adrB ⟨kd, t⟩, rfl, X5.at, hi, by have := wf.Ll i; show (s'.L i).length ≤ 1000; omega, by have := wf.cl; show s'.cs.length ≤ 1000; omega, k.shift ((Stp.same (s03.trans s4)).trans (st5.mono m8))⟩
end
end Lw

/-! ## the law's answers, on -/
namespace Lw
open PySem L2
open PyProof.Rows (envOfC sortedS)
/-- a request's texts, for the law -/
def Rq.LOk : Rq → Prop
  | .part _ _ t => okC t ∧ t.length ≤ 100
  | .put _ k t => PutOk k t
  | _ => True
def Rq.held : Rq → Prop
  | .has _ _ => True | .start _ => True | .fin _ _ _ => True | .put _ _ _ => True | .name _ _ _ => True | _ => False
def spLCla : Sp := fun vs H Q _ => ∃ (c : Addr → Nat) (M : Addr) (s : Rg) (q : Rq) (t : Addr), vs = [.ref M, .ref t] ∧ H t = some (.tup (q.b.map kV)) ∧ MoAt c H M s ∧ RWf s ∧ q.LOk ∧ q.held ∧ LpQ c H M (ans s q) Q
def spLAns : Sp := fun vs H Q _ => ∃ (c : Addr → Nat) (M : Addr) (s : Rg) (q : Rq) (t : Addr), vs = [.ref M, .ref t] ∧ H t = some (.tup (q.b.map kV)) ∧ MoAt c H M s ∧ RWf s ∧ q.LOk ∧ LpQ c H M (ans s q) Q
def spLWo : Sp := fun vs H Q _ => ∃ (d : Addr), (∃ (ks : List Int) (A : Int → V) (i : Int), vs = [.ref d, .int i] ∧ H d = some (.dK (mkD ks A)) ∧ ks.length ≤ 1000 ∧ ks.Nodup ∧ ∀ r H', H r = none → Same H H' → H' r = some (.dK (mkD (ks.filter fun j => decide (j ≠ i)) A)) → Q (.ref r) H') ∨
  (∃ (ks : List Str) (A : Str → V) (i : Str), vs = [.ref d, .str i] ∧ H d = some (.dK (mkS ks A)) ∧ ks.length ≤ 1000 ∧ ks.Nodup ∧ ∀ r H', H r = none → Same H H' → H' r = some (.dK (mkS (ks.filter fun j => decide (j ≠ i)) A)) → Q (.ref r) H')
section
variable {P : Program} {w : World} {K : PySem.W.Frag} {mg : Str → Option Value} {base : Heap} {C_Claims C_Collector C_Store C_Uploads C_Registry C_Refused C_Malformed a_KINDS a_BELOW a_CLAIMED : Addr}
theorem ok__law_without (T : Txt w K mg C_Claims C_Collector C_Store C_Uploads C_Registry C_Refused C_Malformed a_KINDS a_BELOW a_CLAIMED) : Cal P w K mg base 1 "_law_without" spLWo := by
  refine cal_mk T.d__law_without sc__law_without (fun vs H Q E h => ?_) (fun f cdv A outer s H vs Q E hr h => ?_)
  · obtain ⟨d, ⟨_, _, _, rfl, _⟩ | ⟨_, _, _, rfl, _⟩⟩ := h <;> rfl
  · have hu := hu_of hr
    refine ⟨_, (pss_cons (ps_set (i := 2) sc__law_without.nd rfl (by first | exact Or.inl rfl | exact Or.inr rfl) (pe_dnewK))
      (pss_cons (ps_lock (ps_for PassesOwn.never rfl (pi_keys (pv 0)) (pg_name (i := 3) sc__law_without.nd rfl (by first | exact Or.inl rfl | exact Or.inr rfl)) (pss_one (ps_if (pt_cmpR op_ne (pv 3) (pv 1) (nomark _)) (pss_one (ps_dput hu (pv 2) (pv 3) (pe_dget hu (pv 0) (pv 3) (fun _ _ => rfl)) rfl)) pss_nil))))
      (pss_one (ps_ret (pv 2))))), ?_⟩
    obtain ⟨d, ⟨ks, A', i, rfl, hd, hl, nd, k⟩ | ⟨ks, A', i, rfl, hd, hl, nd, k⟩⟩ := h
    · walk_at "lw"
      refine g_dnew fun r H1 nr s1 hr1 => ?_
      walk_at "lw"
      have dr : d ≠ r := ne_of_none hd nr
      refine g_lock (s1.at hd) fun od H2 d2 k2 => ?_
      walk_at "lw"
      refine g_ritK d2 ?_
      refine for_at walk_ks (fun m σ H' => (∀ b, b ≠ r → H' b = H2 b) ∧ H' r = some (.dK (mkD ((ks.take m).filter fun j => decide (j ≠ i)) A')) ∧ ∃ v : Option V, σ = [some (.ref d), some (.int i), some (.ref r), v]) ⟨fun _ _ => rfl, by rw [k2 r dr.symm]; exact hr1, none, rfl⟩ (fun i σ H' h => by rw [h.1 d dr]; exact d2) ?_ ?_
      · rintro m yy σ H3 hyy ⟨k3, h3, v, rfl⟩
        rw [mkD_kV] at hyy
        obtain ⟨y, hy, rfl⟩ := map_at hyy
        have hym := List.mem_of_getElem? hy
        walk_at "lw"
        refine ifn2 (fun he => ?_) (fun he => ?_)
        · have he : y = i := int_eq.mp he
          walk_at "lw"
          refine ⟨k3, ?_, _, rfl⟩
          rw [take_ok hy, List.filter_append, List.filter_cons_of_neg (by simp [he]), List.filter_nil, List.append_nil]
          exact h3
        · have he : y ≠ i := fun z => he (by rw [z])
          walk_at "lw"
          refine g_rdgetI (.inr ⟨od, (k3 d dr).trans d2⟩) (by rw [valV_mkD, if_pos hym]) ?_
          walk_at "lw"
          refine g_rdputI h3 (by rw [mkD_len]; have := List.length_filter_le (fun j => decide (j ≠ i)) (ks.take m); have := (List.take_sublist m ks).length_le; omega) fun H4 h4 k4 => ?_
          walk_at "lw"
          refine ⟨fun b hb => by rw [k4 b hb]; exact k3 b hb, ?_, _, rfl⟩
          have hnew : y ∉ (ks.take m).filter fun j => decide (j ≠ i) := fun z => by
            have z := (List.mem_filter.mp z).1
            have e := take_ok hy
            have nd2 : (ks.take (m + 1)).Nodup := nd.sublist (List.take_sublist _ _)
            rw [e, List.nodup_append] at nd2
            exact nd2.2.2 y z y (List.mem_singleton.mpr rfl) rfl
          rw [putK_mkD_new hnew] at h4
          rw [take_ok hy, List.filter_append, List.filter_cons_of_pos (by simp [he]), List.filter_nil, h4]
          congr 2
          refine mkD_congr fun j hj => ?_
          by_cases e : j = y
          · rw [if_pos e, e]
          · rw [if_neg e]
      · rintro σ H3 ⟨k3, h3, v, rfl⟩
        rw [mkD_kV, List.length_map, List.take_length] at h3
        refine ⟨(k3 d dr).trans d2, ?_⟩
        walk_at "lw"
        refine k r _ nr (fun b o e => ?_) (by rw [upd_ne dr.symm]; exact h3)
        by_cases z : b = d
        · subst z
          rw [hd] at e
          cases e
          exact upd_same
        · rw [upd_ne z, k3 b (ne_of_none e nr), k2 b z]
          exact s1.at e
    · walk_at "lw"
      refine g_dnew fun r H1 nr s1 hr1 => ?_
      walk_at "lw"
      have dr : d ≠ r := ne_of_none hd nr
      refine g_lock (s1.at hd) fun od H2 d2 k2 => ?_
      walk_at "lw"
      refine g_ritK d2 ?_
      refine for_at walk_ks (fun m σ H' => (∀ b, b ≠ r → H' b = H2 b) ∧ H' r = some (.dK (mkS ((ks.take m).filter fun j => decide (j ≠ i)) A')) ∧ ∃ v : Option V, σ = [some (.ref d), some (.str i), some (.ref r), v]) ⟨fun _ _ => rfl, by rw [k2 r dr.symm]; exact hr1, none, rfl⟩ (fun i σ H' h => by rw [h.1 d dr]; exact d2) ?_ ?_
      · rintro m yy σ H3 hyy ⟨k3, h3, v, rfl⟩
        rw [mkS_kV] at hyy
        obtain ⟨y, hy, rfl⟩ := map_at hyy
        have hym := List.mem_of_getElem? hy
        walk_at "lw"
        refine ifn2 (fun he => ?_) (fun he => ?_)
        · have he : y = i := str_eq.mp he
          walk_at "lw"
          refine ⟨k3, ?_, _, rfl⟩
          rw [take_ok hy, List.filter_append, List.filter_cons_of_neg (by simp [he]), List.filter_nil, List.append_nil]
          exact h3
        · have he : y ≠ i := fun z => he (by rw [z])
          walk_at "lw"
          refine g_rdgetS (.inr ⟨od, (k3 d dr).trans d2⟩) (by rw [valV_mkS, if_pos hym]) ?_
          walk_at "lw"
          refine g_rdputS h3 (by rw [mkS_len]; have := List.length_filter_le (fun j => decide (j ≠ i)) (ks.take m); have := (List.take_sublist m ks).length_le; omega) fun H4 h4 k4 => ?_
          walk_at "lw"
          refine ⟨fun b hb => by rw [k4 b hb]; exact k3 b hb, ?_, _, rfl⟩
          have hnew : y ∉ (ks.take m).filter fun j => decide (j ≠ i) := fun z => by
            have z := (List.mem_filter.mp z).1
            have e := take_ok hy
            have nd2 : (ks.take (m + 1)).Nodup := nd.sublist (List.take_sublist _ _)
            rw [e, List.nodup_append] at nd2
            exact nd2.2.2 y z y (List.mem_singleton.mpr rfl) rfl
          rw [putK_mkS_new hnew] at h4
          rw [take_ok hy, List.filter_append, List.filter_cons_of_pos (by simp [he]), List.filter_nil, h4]
          congr 2
          refine mkS_congr fun j hj => ?_
          by_cases e : j = y
          · rw [if_pos e, e]
          · rw [if_neg e]
      · rintro σ H3 ⟨k3, h3, v, rfl⟩
        rw [mkS_kV, List.length_map, List.take_length] at h3
        refine ⟨(k3 d dr).trans d2, ?_⟩
        walk_at "lw"
        refine k r _ nr (fun b o e => ?_) (by rw [upd_ne dr.symm]; exact h3)
        by_cases z : b = d
        · subst z
          rw [hd] at e
          cases e
          exact upd_same
        · rw [upd_ne z, k3 b (ne_of_none e nr), k2 b z]
          exact s1.at e
theorem ok__law_claimed (T : Txt w K mg C_Claims C_Collector C_Store C_Uploads C_Registry C_Refused C_Malformed a_KINDS a_BELOW a_CLAIMED) : Cal P w K mg base 6 "_law_claimed" spLCla := by
  have c__law_whole : Cal P w K mg base 4 "_law_whole" (spLWh 2) := ok__law_whole T
  have c__law_kept : Cal P w K mg base 1 "_law_kept" spLKept := ok__law_kept T
  have c__law_finish : Cal P w K mg base 5 "_law_finish" spLFin := ok__law_finish T
  have c__law_put : Cal P w K mg base 5 "_law_put" spLPut := ok__law_put T
  refine cal_mk T.d__law_claimed sc__law_claimed (fun vs H Q E h => ?_) (fun f cdv A outer s H vs Q E hr h => ?_)
  · obtain ⟨c, M, s, q, t, rfl, _⟩ := h
    rfl
  · obtain ⟨c, M, s', q, t, rfl, ht, ⟨bd, nd, pd, td, A', X⟩, wf, hq, hh, k⟩ := h
    have hu := hu_of hr
    refine ⟨_, (pss_cons (ps_set (i := 2) sc__law_claimed.nd rfl (by first | exact Or.inl rfl | exact Or.inr rfl) (pe_ix ix_tup (pv 1) (pe_int) (fun _ _ => rfl)))
      (pss_cons (ps_set (i := 3) sc__law_claimed.nd rfl (by first | exact Or.inl rfl | exact Or.inr rfl) (pe_ix ix_tup (pv 1) (pe_int) (fun _ _ => rfl)))
      (pss_cons (ps_if (pt_cmpR op_eq (pv 2) (pe_str) (nomark _)) (pss_one (ps_set (i := 3) sc__law_claimed.nd rfl (by first | exact Or.inl rfl | exact Or.inr rfl) (pe_ix ix_tup (pv 1) (pe_int) (fun _ _ => rfl)))) pss_nil)
      (pss_cons (ps_if (pt_cmp (pc_dnotin hu (pv 3) (pe_dget hu (pv 0) (pe_str) (fun _ _ => rfl)))) (pss_one (ps_ret (pe_tup (pa_cons (pe_str) (pa_cons (pv 3) pa_nil))))) pss_nil)
      (pss_cons (ps_if (pt_cmpR op_eq (pv 2) (pe_str) (nomark _)) (pss_cons (ps_if (pt_val (pe_c c__law_whole hr (by first | decide | omega) rfl (pa_cons (pv 0) (pa_cons (pe_ix ix_tup (pv 1) (pe_int) (fun _ _ => rfl)) pa_nil)))) (pss_one (ps_ret (pe_c c__law_kept hr (by first | decide | omega) rfl (pa_cons (pv 0) (pa_cons (pv 3) (pa_cons (pe_ix ix_tup (pv 1) (pe_int) (fun _ _ => rfl)) pa_nil)))))) pss_nil)
      (pss_one (ps_ret (pe_tup (pa_cons (pe_str) (pa_cons (pe_ix ix_tup (pv 1) (pe_int) (fun _ _ => rfl)) pa_nil)))))) pss_nil)
      (pss_cons (ps_if (pt_cmpR op_eq (pv 2) (pe_str) (nomark _)) (pss_cons (ps_dput hu (pv 0) (pe_str) (pe_op op_add (pe_dget hu (pv 0) (pe_str) (fun _ _ => rfl)) (pe_int)) rfl)
      (pss_cons (ps_set (i := 4) sc__law_claimed.nd rfl (by first | exact Or.inl rfl | exact Or.inr rfl) (pe_dget hu (pv 0) (pe_str) (fun _ _ => rfl)))
      (pss_cons (ps_dput hu (pv 4) (pe_dget hu (pv 0) (pe_str) (fun _ _ => rfl)) (pe_str) rfl)
      (pss_one (ps_ret (pe_tup (pa_cons (pe_str) (pa_cons (pe_dget hu (pv 0) (pe_str) (fun _ _ => rfl)) pa_nil)))))))) pss_nil)
      (pss_cons (ps_if (pt_cmpR op_eq (pv 2) (pe_str) (nomark _)) (pss_one (ps_ret (pe_c c__law_finish hr (by first | decide | omega) rfl (pa_cons (pv 0) (pa_cons (pe_ix ix_tup (pv 1) (pe_int) (fun _ _ => rfl)) (pa_cons (pv 3) (pa_cons (pe_ix ix_tup (pv 1) (pe_int) (fun _ _ => rfl)) pa_nil))))))) pss_nil)
      (pss_cons (ps_if (pt_cmpR op_eq (pv 2) (pe_str) (nomark _)) (pss_one (ps_ret (pe_c c__law_put hr (by first | decide | omega) rfl (pa_cons (pv 0) (pa_cons (pv 3) (pa_cons (pe_ix ix_tup (pv 1) (pe_int) (fun _ _ => rfl)) (pa_cons (pe_ix ix_tup (pv 1) (pe_int) (fun _ _ => rfl)) pa_nil))))))) pss_nil)
      (pss_cons (ps_asg (pe_slice sl_tupA (pv 1) (po_some (pe_int)) po_none) (pg_tup (by rfl) (pgs_cons (pg_name (i := 5) sc__law_claimed.nd rfl (by first | exact Or.inl rfl | exact Or.inr rfl)) (pgs_cons (pg_name (i := 6) sc__law_claimed.nd rfl (by first | exact Or.inl rfl | exact Or.inr rfl)) pgs_nil))))
      (pss_cons (ps_if (PW.pt (pw_or (pt_not (pt_val (pe_c c__law_whole hr (by first | decide | omega) rfl (pa_cons (pv 0) (pa_cons (pv 6) pa_nil))))) (pw_or1 (pt_cmpR op_eq (pe_ix ix_tup (pe_dget hu (pe_dget hu (pv 0) (pe_str) (fun _ _ => rfl)) (pv 6) (fun _ _ => rfl)) (pe_int) (fun _ _ => rfl)) (pe_str) (nomark _))))) (pss_one (ps_ret (pe_tup (pa_cons (pe_str) (pa_cons (pv 6) pa_nil))))) pss_nil)
      (pss_cons (ps_set (i := 7) sc__law_claimed.nd rfl (by first | exact Or.inl rfl | exact Or.inr rfl) (pe_dget hu (pv 0) (pe_str) (fun _ _ => rfl)))
      (pss_cons (ps_dput hu (pv 7) (pv 5) (pv 6) rfl)
      (pss_cons (ps_expr (pe_c c__law_kept hr (by first | decide | omega) rfl (pa_cons (pv 0) (pa_cons (pv 3) (pa_cons (pv 6) pa_nil)))))
      (pss_one (ps_ret (pe_tup (pa_cons (pe_str) (pa_cons (pv 5) (pa_cons (pv 6) pa_nil))))))))))))))))))), ?_⟩
    walk_at "lw"
    unfold ans at k
    cases q with
    | has i a =>
      dsimp only at k
      refine g_rixT (SqT.of ht) (j := 0) (v := .str "has") rfl ?_
      walk_at "lw"
      refine g_rixT (SqT.of ht) (j := 1) (v := .int i) rfl ?_
      walk_at "lw"
      refine g_rdgetS (.of X.hm) mdl_pins ?_
      walk_at "lw"
      refine g_rdnotinI (.of X.hp) ?_
      rw [valV_mkD]
      by_cases hi : i ∈ s'.cs
      · rw [if_pos hi] at k ⊢
        refine ⟨false, rfl, ?_⟩
        walk_at "lw"
        refine g_rixT (SqT.of ht) (j := 2) (v := .str a) rfl ?_
        walk_at "lw"
        refine ⟨M, s'.ks, s'.B, a, rfl, X.mob, wf.sw, fun _ => Kd.rk2 _, fun H1 s1 => ?_⟩
        have X1 := X.same s1
        have k := k.shift (Stp.same s1)
        unfold hasR at k
        cases hw : wh s'.ks s'.B (2 + 1) a with
        | true =>
          have hw : wh s'.ks s'.B 3 a = true := hw
          rw [if_pos hw] at k
          walk_at "lw"
          refine g_rixT (SqT.of (s1.at ht)) (j := 2) (v := .str a) rfl ?_
          walk_at "lw"
          exact ⟨c, M, s', i, a, rfl, X1.at, hi, by have := wf.Ll i; omega, by have := wf.cl; omega, k⟩
        | false =>
          have hw : wh s'.ks s'.B 3 a = false := hw
          rw [if_neg (by rw [hw]; decide)] at k
          walk_at "lw"
          refine g_rixT (SqT.of (s1.at ht)) (j := 2) (v := .str a) rfl ?_
          walk_at "lw"
          refine g_ktup (by show 2 ≤ 100; decide) fun t3 H3 nt s3 ht3 => ?_
          walk_at "lw"
          exact k c H3 t3 (X1.same s3).at (Stp.same s3) ht3
      · rw [if_neg hi] at k ⊢
        refine ⟨true, rfl, ?_⟩
        walk_at "lw"
        refine g_ktup (by show 2 ≤ 100; decide) fun t3 H3 nt s3 ht3 => ?_
        walk_at "lw"
        exact k c H3 t3 (X.same s3).at (Stp.same s3) ht3
    | start i =>
      dsimp only at k
      refine g_rixT (SqT.of ht) (j := 0) (v := .str "start") rfl ?_
      walk_at "lw"
      refine g_rixT (SqT.of ht) (j := 1) (v := .int i) rfl ?_
      walk_at "lw"
      refine g_rdgetS (.of X.hm) mdl_pins ?_
      walk_at "lw"
      refine g_rdnotinI (.of X.hp) ?_
      rw [valV_mkD]
      by_cases hi : i ∈ s'.cs
      · rw [if_pos hi] at k ⊢
        refine ⟨false, rfl, ?_⟩
        walk_at "lw"
        refine g_rdgetS (.of X.hm) mdl_last ?_
        walk_at "lw"
        refine g_rdputS X.hm mdl_len fun H1 h1 k1 => ?_
        rw [mdl_put_last] at h1
        have st1 : Stp (fun i => i = 7) c c H H1 := Stp.ch X.hm X.cm (fun xs z => by cases z) h1 k1
        have X1 : MoX c H1 M bd nd pd td A' { s' with n := s'.n, un := s'.un + 1 } := X.count h1 st1
        walk_at "lw"
        refine g_rdgetS (.of X1.hm) mdl_texts ?_
        walk_at "lw"
        refine g_rdgetS (.of X1.hm) mdl_last ?_
        walk_at "lw"
        refine g_rdputI X1.ht (by rw [mkD_len]; have := wf.ul; show s'.ts.length < 100000; omega) fun H2 h2 k2 => ?_
        have hnew : s'.un + 1 ∉ s'.ts := fun z => by have := wf.ule _ z; omega
        have h2 : H2 td = some (.dK (putK (mkD s'.ts fun i => .str (SX.S (s'.X i))) (kI (s'.un + 1)) (.str ""))) := h2
        rw [putK_mkD_new hnew] at h2
        have st2 : Stp (fun i => i = 12) c c H1 H2 := Stp.ch X1.ht X1.ct (fun xs z => by cases z) h2 k2
        have X2 := X1.texts (ts := s'.ts ++ [s'.un + 1]) (Y := fun j => if j = s'.un + 1 then [] else s'.X j) (by
          rw [h2]
          congr 2
          refine mkD_congr fun j hj => ?_
          by_cases e : j = s'.un + 1
          · rw [if_pos e, if_pos e, empty_S]
          · rw [if_neg e, if_neg e]) st2
        walk_at "lw"
        refine g_rdgetS (.of X2.hm) mdl_last ?_
        walk_at "lw"
        refine g_ktup (by show 2 ≤ 100; decide) fun t3 H3 nt s3 ht3 => ?_
        walk_at "lw"
        exact k c H3 t3 (X2.same s3).at (((st1.mono m7).trans (st2.mono m12)).trans (Stp.same s3)) ht3
      · rw [if_neg hi] at k ⊢
        refine ⟨true, rfl, ?_⟩
        walk_at "lw"
        refine g_ktup (by show 2 ≤ 100; decide) fun t3 H3 nt s3 ht3 => ?_
        walk_at "lw"
        exact k c H3 t3 (X.same s3).at (Stp.same s3) ht3
    | fin u i a =>
      dsimp only at k
      refine g_rixT (SqT.of ht) (j := 0) (v := .str "finish") rfl ?_
      walk_at "lw"
      refine g_rixT (SqT.of ht) (j := 1) (v := .int u) rfl ?_
      walk_at "lw"
      refine g_rixT (SqT.of ht) (j := 2) (v := .int i) rfl ?_
      walk_at "lw"
      refine g_rdgetS (.of X.hm) mdl_pins ?_
      walk_at "lw"
      refine g_rdnotinI (.of X.hp) ?_
      rw [valV_mkD]
      by_cases hi : i ∈ s'.cs
      · rw [if_pos hi]
        refine ⟨false, rfl, ?_⟩
        walk_at "lw"
        refine g_rixT (SqT.of ht) (j := 1) (v := .int u) rfl ?_
        walk_at "lw"
        refine g_rixT (SqT.of ht) (j := 4) (v := .str a) rfl ?_
        walk_at "lw"
        exact ⟨c, M, s', u, i, a, rfl, X.at, wf, hi, k⟩
      · rw [if_neg hi]
        unfold finR at k
        rw [if_neg hi] at k
        refine ⟨true, rfl, ?_⟩
        walk_at "lw"
        refine g_ktup (by show 2 ≤ 100; decide) fun t3 H3 nt s3 ht3 => ?_
        walk_at "lw"
        exact k c H3 t3 (X.same s3).at (Stp.same s3) ht3
    | put i kd p =>
      dsimp only at k
      refine g_rixT (SqT.of ht) (j := 0) (v := .str "put") rfl ?_
      walk_at "lw"
      refine g_rixT (SqT.of ht) (j := 1) (v := .int i) rfl ?_
      walk_at "lw"
      refine g_rdgetS (.of X.hm) mdl_pins ?_
      walk_at "lw"
      refine g_rdnotinI (.of X.hp) ?_
      rw [valV_mkD]
      by_cases hi : i ∈ s'.cs
      · rw [if_pos hi] at k ⊢
        refine ⟨false, rfl, ?_⟩
        walk_at "lw"
        refine g_rixT (SqT.of ht) (j := 2) (v := .str kd.s) rfl ?_
        walk_at "lw"
        refine g_rixT (SqT.of ht) (j := 3) (v := .str (SX.S p)) rfl ?_
        walk_at "lw"
        exact ⟨c, M, s', i, kd, p, rfl, X.at, wf, hi, hq, k⟩
      · rw [if_neg hi] at k ⊢
        refine ⟨true, rfl, ?_⟩
        walk_at "lw"
        refine g_ktup (by show 2 ≤ 100; decide) fun t3 H3 nt s3 ht3 => ?_
        walk_at "lw"
        exact k c H3 t3 (X.same s3).at (Stp.same s3) ht3
    | name i nm a =>
      dsimp only at k
      refine g_rixT (SqT.of ht) (j := 0) (v := .str "name") rfl ?_
      walk_at "lw"
      refine g_rixT (SqT.of ht) (j := 1) (v := .int i) rfl ?_
      walk_at "lw"
      refine g_rdgetS (.of X.hm) mdl_pins ?_
      walk_at "lw"
      refine g_rdnotinI (.of X.hp) ?_
      rw [valV_mkD]
      by_cases hi : i ∈ s'.cs
      · rw [if_pos hi] at k ⊢
        refine ⟨false, rfl, ?_⟩
        walk_at "lw"
        refine g_slA ht fun tp H0 s0 htp => ?_
        have htp : H0 tp = some (.tup [.str nm, .str a]) := htp
        refine g_gtup (SqT.of htp) rfl ?_
        have X0 := X.same s0
        have k := k.shift (Stp.same s0)
        walk_at "lw"
        refine ⟨M, s'.ks, s'.B, a, rfl, X0.mob, wf.sw, fun _ => Kd.rk2 _, fun H1 s1 => ?_⟩
        have X1 := X0.same s1
        have k := k.shift (Stp.same s1)
        obtain ⟨Ab, b1, b2⟩ := X1.hb
        unfold nameR at k
        cases hw : wh s'.ks s'.B (2 + 1) a with
        | true =>
          have hw : wh s'.ks s'.B 3 a = true := hw
          have hm := wh_in hw
          walk_at "lw"
          refine g_rdgetS (.of X1.hm) mdl_blobs ?_
          walk_at "lw"
          refine g_rdgetS (.of b1) (by rw [valV_mkS, if_pos hm]) ?_
          walk_at "lw"
          refine g_rixT (SqT.of (b2 a hm)) (j := 0) (v := .str (s'.B a).k.s) rfl ?_
          walk_at "lw"
          refine if2 (fun he => ?_) (fun he => ?_)
          · have he : (s'.B a).k = .lay := Kd.s_inj.mp (str_eq.mp he)
            rw [if_neg (fun z => z.2.1 he)] at k
            walk_at "lw"
            refine g_ktup (by show 2 ≤ 100; decide) fun t3 H3 nt s3 ht3 => ?_
            walk_at "lw"
            exact k c H3 t3 (X1.same s3).at (Stp.same s3) ht3
          · have he : (s'.B a).k ≠ .lay := fun z => he (by rw [z]; rfl)
            rw [if_pos ⟨hm, he, hw⟩] at k
            walk_at "lw"
            refine g_rdgetS (.of X1.hm) mdl_names ?_
            walk_at "lw"
            refine g_rdputS X1.hn (by rw [mkS_len]; have := wf.nl; show s'.nk.length < 100000; omega) fun H2 h2 k2 => ?_
            rw [putK_S] at h2
            have st2 : Stp (fun i => i = 10) c c H1 H2 := Stp.ch X1.hn X1.cn (fun xs z => by cases z) h2 k2
            have X2 := X1.names (nk := putS s'.nk nm) (N := fun j => if j = nm then a else s'.N j) (by
              rw [h2]
              congr 2
              refine mkS_congr fun j hj => ?_
              by_cases e : j = nm
              · rw [if_pos e, if_pos e]
              · rw [if_neg e, if_neg e]) st2
            walk_at "lw"
            refine ⟨c, M, _, i, a, rfl, X2.at, hi, by have := wf.Ll i; show (s'.L i).length ≤ 1000; omega, by have := wf.cl; show s'.cs.length ≤ 1000; omega, fun c3 H3 t3 X3 st3 _ => ?_⟩
            walk_at "lw"
            refine g_ktup (by show 3 ≤ 100; decide) fun t4 H4 nt s4 ht4 => ?_
            walk_at "lw"
            exact k c3 H4 t4 (X3.same s4) (((st2.mono m10).trans st3).trans (Stp.same s4)) ht4
        | false =>
          have hw : wh s'.ks s'.B 3 a = false := hw
          rw [if_neg (fun z => by rw [hw] at z; exact absurd z.2.2 (by decide))] at k
          walk_at "lw"
          refine g_ktup (by show 2 ≤ 100; decide) fun t3 H3 nt s3 ht3 => ?_
          walk_at "lw"
          exact k c H3 t3 (X1.same s3).at (Stp.same s3) ht3
      · rw [if_neg hi] at k ⊢
        refine ⟨true, rfl, ?_⟩
        walk_at "lw"
        refine g_ktup (by show 2 ≤ 100; decide) fun t3 H3 nt s3 ht3 => ?_
        walk_at "lw"
        exact k c H3 t3 (X.same s3).at (Stp.same s3) ht3
    | _ => exact hh.elim
theorem ok__law_answer (T : Txt w K mg C_Claims C_Collector C_Store C_Uploads C_Registry C_Refused C_Malformed a_KINDS a_BELOW a_CLAIMED) : Cal P w K mg base 7 "_law_answer" spLAns := by
  have c__law_claimed : Cal P w K mg base 6 "_law_claimed" spLCla := ok__law_claimed T
  have c__law_without : Cal P w K mg base 1 "_law_without" spLWo := ok__law_without T
  refine cal_mk T.d__law_answer sc__law_answer (fun vs H Q E h => ?_) (fun f cdv A outer s H vs Q E hr h => ?_)
  · obtain ⟨c, M, s, q, t, rfl, _⟩ := h
    rfl
  · obtain ⟨c, M, s', q, t, rfl, ht, ⟨bd, nd, pd, td, A', X⟩, wf, hq, k⟩ := h
    have hu := hu_of hr
    refine ⟨_, (pss_cons (ps_set (i := 2) sc__law_answer.nd rfl (by first | exact Or.inl rfl | exact Or.inr rfl) (pe_ix ix_tup (pv 1) (pe_int) (fun _ _ => rfl)))
      (pss_cons (ps_if (pt_cmpR op_in_seq (pv 2) (pe_lst (pa_cons (pe_str) (pa_cons (pe_str) (pa_cons (pe_str) (pa_cons (pe_str) (pa_cons (pe_str) pa_nil)))))) (by rfl)) (pss_one (ps_ret (pe_c c__law_claimed hr (by first | decide | omega) rfl (pa_cons (pv 0) (pa_cons (pv 1) pa_nil))))) pss_nil)
      (pss_cons (ps_if (pt_cmpR op_eq (pv 2) (pe_str) (nomark _)) (pss_cons (ps_dput hu (pv 0) (pe_str) (pe_op op_add (pe_dget hu (pv 0) (pe_str) (fun _ _ => rfl)) (pe_int)) rfl)
      (pss_cons (ps_set (i := 3) sc__law_answer.nd rfl (by first | exact Or.inl rfl | exact Or.inr rfl) (pe_dget hu (pv 0) (pe_str) (fun _ _ => rfl)))
      (pss_cons (ps_dput hu (pv 3) (pe_dget hu (pv 0) (pe_str) (fun _ _ => rfl)) (pe_lst pa_nil) rfl)
      (pss_one (ps_ret (pe_tup (pa_cons (pe_str) (pa_cons (pe_dget hu (pv 0) (pe_str) (fun _ _ => rfl)) pa_nil)))))))) pss_nil)
      (pss_cons (ps_if (pt_cmpR op_eq (pv 2) (pe_str) (nomark _)) (pss_cons (ps_set (i := 4) sc__law_answer.nd rfl (by first | exact Or.inl rfl | exact Or.inr rfl) (pe_dget hu (pv 0) (pe_str) (fun _ _ => rfl)))
      (pss_cons (ps_if (pt_cmp (pc_dnotin hu (pe_ix ix_tup (pv 1) (pe_int) (fun _ _ => rfl)) (pv 4))) (pss_one (ps_ret (pe_tup (pa_cons (pe_str) (pa_cons (pe_ix ix_tup (pv 1) (pe_int) (fun _ _ => rfl)) pa_nil))))) pss_nil)
      (pss_cons (ps_if (pt_cmpR op_eq (pe_ix ix_tup (pv 1) (pe_int) (fun _ _ => rfl)) (pe_callB call_len_str' (by rfl) T.n_len (by decide +kernel) (pa_cons (pe_dget hu (pv 4) (pe_ix ix_tup (pv 1) (pe_int) (fun _ _ => rfl)) (fun _ _ => rfl)) pa_nil)) (nomark _)) (pss_one (ps_dput hu (pv 4) (pe_ix ix_tup (pv 1) (pe_int) (fun _ _ => rfl)) (pe_op op_cat_str (pe_dget hu (pv 4) (pe_ix ix_tup (pv 1) (pe_int) (fun _ _ => rfl)) (fun _ _ => rfl)) (pe_ix ix_tup (pv 1) (pe_int) (fun _ _ => rfl))) rfl)) pss_nil)
      (pss_one (ps_ret (pe_tup (pa_cons (pe_str) (pa_cons (pe_ix ix_tup (pv 1) (pe_int) (fun _ _ => rfl)) (pa_cons (pe_callB call_len_str' (by rfl) T.n_len (by decide +kernel) (pa_cons (pe_dget hu (pv 4) (pe_ix ix_tup (pv 1) (pe_int) (fun _ _ => rfl)) (fun _ _ => rfl)) pa_nil)) pa_nil))))))))) pss_nil)
      (pss_cons (ps_if (pt_cmpR op_eq (pv 2) (pe_str) (nomark _)) (pss_cons (ps_dput hu (pv 0) (pe_str) (pe_c c__law_without hr (by first | decide | omega) rfl (pa_cons (pe_dget hu (pv 0) (pe_str) (fun _ _ => rfl)) (pa_cons (pe_ix ix_tup (pv 1) (pe_int) (fun _ _ => rfl)) pa_nil))) rfl)
      (pss_one (ps_ret (pe_tup (pa_cons (pe_str) (pa_cons (pe_ix ix_tup (pv 1) (pe_int) (fun _ _ => rfl)) pa_nil)))))) pss_nil)
      (pss_cons (ps_if (pt_cmpR op_eq (pv 2) (pe_str) (nomark _)) (pss_cons (ps_dput hu (pv 0) (pe_str) (pe_c c__law_without hr (by first | decide | omega) rfl (pa_cons (pe_dget hu (pv 0) (pe_str) (fun _ _ => rfl)) (pa_cons (pe_ix ix_tup (pv 1) (pe_int) (fun _ _ => rfl)) pa_nil))) rfl)
      (pss_one (ps_ret (pe_tup (pa_cons (pe_str) (pa_cons (pe_ix ix_tup (pv 1) (pe_int) (fun _ _ => rfl)) pa_nil)))))) pss_nil)
      (pss_cons (ps_if (pt_cmpR op_eq (pv 2) (pe_str) (nomark _)) (pss_cons (ps_if (pt_cmp (pc_din hu (pe_ix ix_tup (pv 1) (pe_int) (fun _ _ => rfl)) (pe_dget hu (pv 0) (pe_str) (fun _ _ => rfl)))) (pss_one (ps_ret (pe_tup (pa_cons (pe_str) (pa_cons (pe_ix ix_tup (pv 1) (pe_int) (fun _ _ => rfl)) (pa_cons (pe_dget hu (pe_dget hu (pv 0) (pe_str) (fun _ _ => rfl)) (pe_ix ix_tup (pv 1) (pe_int) (fun _ _ => rfl)) (fun _ _ => rfl)) pa_nil)))))) pss_nil)
      (pss_one (ps_ret (pe_tup (pa_cons (pe_str) (pa_cons (pe_ix ix_tup (pv 1) (pe_int) (fun _ _ => rfl)) pa_nil)))))) pss_nil)
      (pss_cons (ps_asg (pe_slice sl_tupA (pv 1) (po_some (pe_int)) po_none) (pg_tup (by rfl) (pgs_cons (pg_name (i := 5) sc__law_answer.nd rfl (by first | exact Or.inl rfl | exact Or.inr rfl)) (pgs_cons (pg_name (i := 6) sc__law_answer.nd rfl (by first | exact Or.inl rfl | exact Or.inr rfl)) (pgs_cons (pg_name (i := 7) sc__law_answer.nd rfl (by first | exact Or.inl rfl | exact Or.inr rfl)) pgs_nil)))))
      (pss_cons (ps_if (pt_cmp (pc_dnotin hu (pv 5) (pe_dget hu (pv 0) (pe_str) (fun _ _ => rfl)))) (pss_one (ps_ret (pe_tup (pa_cons (pe_str) (pa_cons (pv 5) pa_nil))))) pss_nil)
      (pss_cons (ps_asg (pe_dget hu (pe_dget hu (pv 0) (pe_str) (fun _ _ => rfl)) (pv 5) (fun _ _ => rfl)) (pg_tup (by rfl) (pgs_cons (pg_name (i := 2) sc__law_answer.nd rfl (by first | exact Or.inl rfl | exact Or.inr rfl)) (pgs_cons (pg_name (i := 8) sc__law_answer.nd rfl (by first | exact Or.inl rfl | exact Or.inr rfl)) pgs_nil))))
      (pss_one (ps_ret (pe_tup (pa_cons (pe_str) (pa_cons (pv 5) (pa_cons (pv 2) (pa_cons (pv 6) (pa_cons (pe_slice C8.sl_txt (pv 8) (po_some (pv 6)) (po_some (pe_op op_add (pv 6) (pv 7)))) (pa_cons (pe_callB call_len_str' (by rfl) T.n_len (by decide +kernel) (pa_cons (pv 8) pa_nil)) pa_nil))))))))))))))))))), ?_⟩
    walk_at "lw"
    cases q with
    | has i a =>
      refine g_rixT (SqT.of ht) (j := 0) (v := .str "has") rfl ?_
      walk_at "lw"
      rename_i H0 s0
      have X := X.same s0
      have ht := s0.at ht
      have k := k.shift (Stp.same s0)
      clear s0
      exact ⟨c, M, s', .has i a, t, rfl, ht, X.at, wf, hq, trivial, k⟩
    | start i =>
      refine g_rixT (SqT.of ht) (j := 0) (v := .str "start") rfl ?_
      walk_at "lw"
      rename_i H0 s0
      have X := X.same s0
      have ht := s0.at ht
      have k := k.shift (Stp.same s0)
      clear s0
      exact ⟨c, M, s', .start i, t, rfl, ht, X.at, wf, hq, trivial, k⟩
    | fin u i a =>
      refine g_rixT (SqT.of ht) (j := 0) (v := .str "finish") rfl ?_
      walk_at "lw"
      rename_i H0 s0
      have X := X.same s0
      have ht := s0.at ht
      have k := k.shift (Stp.same s0)
      clear s0
      exact ⟨c, M, s', .fin u i a, t, rfl, ht, X.at, wf, hq, trivial, k⟩
    | put i kd p =>
      refine g_rixT (SqT.of ht) (j := 0) (v := .str "put") rfl ?_
      walk_at "lw"
      rename_i H0 s0
      have X := X.same s0
      have ht := s0.at ht
      have k := k.shift (Stp.same s0)
      clear s0
      exact ⟨c, M, s', .put i kd p, t, rfl, ht, X.at, wf, hq, trivial, k⟩
    | name i nm a =>
      refine g_rixT (SqT.of ht) (j := 0) (v := .str "name") rfl ?_
      walk_at "lw"
      rename_i H0 s0
      have X := X.same s0
      have ht := s0.at ht
      have k := k.shift (Stp.same s0)
      clear s0
      exact ⟨c, M, s', .name i nm a, t, rfl, ht, X.at, wf, hq, trivial, k⟩
    | opn =>
      refine g_rixT (SqT.of ht) (j := 0) (v := .str "open") rfl ?_
      walk_at "lw"
      rename_i H0 s0
      have X := X.same s0
      have ht := s0.at ht
      have k := k.shift (Stp.same s0)
      clear s0
      unfold ans at k
      dsimp only at k
      refine g_rdgetS (.of X.hm) mdl_opened ?_
      walk_at "lw"
      refine g_rdputS X.hm mdl_len fun H1 h1 k1 => ?_
      rw [mdl_put_opened] at h1
      have st1 : Stp (fun i => i = 7) c c H0 H1 := Stp.ch X.hm X.cm (fun xs z => by cases z) h1 k1
      have X1 : MoX c H1 M bd nd pd td A' { s' with n := s'.n + 1, un := s'.un } := X.count h1 st1
      walk_at "lw"
      refine g_rdgetS (.of X1.hm) mdl_pins ?_
      walk_at "lw"
      refine g_klst (by show 0 ≤ 100; decide) fun q H2 nq s2 hq2 => ?_
      have st2 : Stp (fun _ => False) c (Stp.paint c q 13) H1 H2 := L2x_sameN s2 nq
      have X2 := X1.frame st2 id id id id id id
      have cq : Stp.paint c q 13 q = 13 := Stp.paint_same
      generalize Stp.paint c q 13 = c2 at st2 X2 cq
      walk_at "lw"
      refine g_rdgetS (.of X2.hm) mdl_opened ?_
      walk_at "lw"
      have hnew : s'.n + 1 ∉ s'.cs := fun z => by have := wf.cle _ z; omega
      refine g_rdputI X2.hp (by rw [mkD_len]; have := wf.cl; show s'.cs.length < 100000; omega) fun H3 h3 k3 => ?_
      have h3 : H3 pd = some (.dK (putK (mkD s'.cs fun i => .ref (A' i)) (kI (s'.n + 1)) (.ref q))) := h3
      rw [putK_mkD_new hnew] at h3
      have st3 : Stp (fun i => i = 11) c2 c2 H2 H3 := Stp.ch X2.hp X2.cp (fun xs z => by cases z) h3 k3
      have X3 := X2.pins (cs := s'.cs ++ [s'.n + 1]) (L := fun j => if j = s'.n + 1 then [] else s'.L j) (A' := fun j => if j = s'.n + 1 then q else A' j) (by
        rw [h3]
        congr 2
        refine mkD_congr fun j hj => ?_
        by_cases e : j = s'.n + 1
        · rw [if_pos e, if_pos e]
        · rw [if_neg e, if_neg e]) (fun j hj => by
        by_cases e : j = s'.n + 1
        · simp only [if_pos e]
          exact ⟨cq, by rw [k3 q (ne_of hq2 X2.hp (by intro z; cases z))]; exact hq2⟩
        · simp only [if_neg e]
          obtain ⟨cj, hj2⟩ := X2.ca j ((List.mem_append.mp hj).resolve_right fun z => e (List.mem_singleton.mp z))
          exact ⟨cj, by rw [k3 _ (ne_of hj2 X2.hp (by intro z; cases z))]; exact hj2⟩) st3
      walk_at "lw"
      refine g_rdgetS (.of X3.hm) mdl_opened ?_
      walk_at "lw"
      refine g_ktup (by show 2 ≤ 100; decide) fun t3 H4 nt s4 ht3 => ?_
      walk_at "lw"
      exact k c2 H4 t3 (X3.same s4).at ((((st1.mono m7).trans (st2.mono fun i z => z.elim)).trans (st3.mono m11)).trans (Stp.same s4)) ht3
    | part u i p =>
      refine g_rixT (SqT.of ht) (j := 0) (v := .str "part") rfl ?_
      walk_at "lw"
      rename_i H0 s0
      have X := X.same s0
      have ht := s0.at ht
      have k := k.shift (Stp.same s0)
      clear s0
      unfold ans partR at k
      dsimp only at k
      refine g_rdgetS (.of X.hm) mdl_texts ?_
      walk_at "lw"
      refine g_rixT (SqT.of ht) (j := 1) (v := .int u) rfl ?_
      walk_at "lw"
      refine g_rdnotinI (.of X.ht) ?_
      rw [valV_mkD]
      have hXl := (wf.Xl u).1
      have hpl := hq.2
      by_cases hu2 : u ∈ s'.ts
      · rw [if_pos hu2] at k ⊢
        refine ⟨false, rfl, ?_⟩
        walk_at "lw"
        refine g_rixT (SqT.of ht) (j := 2) (v := .int i) rfl ?_
        walk_at "lw"
        refine g_rixT (SqT.of ht) (j := 1) (v := .int u) rfl ?_
        walk_at "lw"
        refine g_rdgetI (.of X.ht) (by rw [valV_mkD, if_pos hu2]) ?_
        walk_at "lw"
        refine g_lenT (by rw [SX.S_len]; exact Nat.le_trans hXl (by decide)) ?_
        rw [SX.S_len]
        walk_at "lw"
        refine if2 (fun he => ?_) (fun he => ?_)
        · have he := int_eq.mp he
          rw [if_pos he] at k
          walk_at "lw"
          refine g_rixT (SqT.of ht) (j := 1) (v := .int u) rfl ?_
          walk_at "lw"
          refine g_rdgetI (.of X.ht) (by rw [valV_mkD, if_pos hu2]) ?_
          walk_at "lw"
          refine g_rixT (SqT.of ht) (j := 3) (v := .str (SX.S p)) rfl ?_
          walk_at "lw"
          refine g_cat_str (a := SX.S (s'.X u)) (b := SX.S p) (by rw [SX.S_len, SX.S_len]; exact Nat.le_trans (show (s'.X u).length + p.length ≤ 10000 by omega) (by decide)) ?_
          rw [SX.S_cat]
          walk_at "lw"
          refine g_rixT (SqT.of ht) (j := 1) (v := .int u) rfl ?_
          walk_at "lw"
          refine g_rdputI X.ht (by rw [mkD_len]; have := wf.ul; omega) fun H1 h1 k1 => ?_
          rw [putK_mkD_old hu2] at h1
          have st1 : Stp (fun i => i = 12) c c H0 H1 := Stp.ch X.ht X.ct (fun xs z => by cases z) h1 k1
          have X1 := X.texts (ts := s'.ts) (Y := fun j => if j = u then s'.X u ++ p else s'.X j) (by
            rw [h1]
            congr 2
            refine mkD_congr fun j hj => ?_
            by_cases e : j = u
            · rw [if_pos e, if_pos e]
            · rw [if_neg e, if_neg e]) st1
          have ht1 := st1.tup _ _ ht
          walk_at "lw"
          refine g_rixT (SqT.of ht1) (j := 1) (v := .int u) rfl ?_
          walk_at "lw"
          refine g_rixT (SqT.of ht1) (j := 1) (v := .int u) rfl ?_
          walk_at "lw"
          refine g_rdgetI (.of X1.ht) (v := .str (SX.S (s'.X u ++ p))) (by rw [valV_mkD, if_pos hu2]; dsimp only; rw [if_pos rfl]) ?_
          walk_at "lw"
          refine g_lenT (by rw [SX.S_len, List.length_append]; exact Nat.le_trans (show (s'.X u).length + p.length ≤ 10000 by omega) (by decide)) ?_
          rw [SX.S_len]
          walk_at "lw"
          refine g_ktup (by show 3 ≤ 100; decide) fun t3 H4 nt s4 ht3 => ?_
          walk_at "lw"
          exact k c H4 t3 (X1.same s4).at ((st1.mono m12).trans (Stp.same s4)) ht3
        · have he : ¬ i = ((s'.X u).length : Int) := fun z => he (by rw [z])
          rw [if_neg he] at k
          walk_at "lw"
          refine g_rixT (SqT.of ht) (j := 1) (v := .int u) rfl ?_
          walk_at "lw"
          refine g_rixT (SqT.of ht) (j := 1) (v := .int u) rfl ?_
          walk_at "lw"
          refine g_rdgetI (.of X.ht) (by rw [valV_mkD, if_pos hu2]) ?_
          walk_at "lw"
          refine g_lenT (by rw [SX.S_len]; exact Nat.le_trans hXl (by decide)) ?_
          rw [SX.S_len]
          walk_at "lw"
          refine g_ktup (by show 3 ≤ 100; decide) fun t3 H4 nt s4 ht3 => ?_
          walk_at "lw"
          exact k c H4 t3 (X.same s4).at (Stp.same s4) ht3
      · rw [if_neg hu2] at k ⊢
        refine ⟨true, rfl, ?_⟩
        walk_at "lw"
        refine g_rixT (SqT.of ht) (j := 1) (v := .int u) rfl ?_
        walk_at "lw"
        refine g_ktup (by show 2 ≤ 100; decide) fun t3 H4 nt s4 ht3 => ?_
        walk_at "lw"
        exact k c H4 t3 (X.same s4).at (Stp.same s4) ht3
    | close i =>
      refine g_rixT (SqT.of ht) (j := 0) (v := .str "close") rfl ?_
      walk_at "lw"
      rename_i H0 s0
      have X := X.same s0
      have ht := s0.at ht
      have k := k.shift (Stp.same s0)
      clear s0
      unfold ans at k
      dsimp only at k
      refine g_rdgetS (.of X.hm) mdl_pins ?_
      walk_at "lw"
      refine g_rixT (SqT.of ht) (j := 1) (v := .int i) rfl ?_
      walk_at "lw"
      refine ⟨pd, .inl ⟨s'.cs, _, i, rfl, X.hp, by have := wf.cl; omega, wf.cn, fun r H1 nr s1 hr1 => ?_⟩⟩
      have st1 : Stp (fun _ => False) c (Stp.paint c r 11) H0 H1 := L2x_sameN s1 nr
      have X1 := X.frame st1 id id id id id id
      have cr : Stp.paint c r 11 r = 11 := Stp.paint_same
      generalize Stp.paint c r 11 = c1 at st1 X1 cr
      walk_at "lw"
      refine g_rdputS X1.hm mdl_len fun H2 h2 k2 => ?_
      rw [mdl_put_pins] at h2
      have st2 : Stp (fun i => i = 7) c1 c1 H1 H2 := Stp.ch X1.hm X1.cm (fun xs z => by cases z) h2 k2
      have X2 := X1.pnew (cs := s'.cs.filter fun j => decide (j ≠ i)) (fun j hj => (List.mem_filter.mp hj).1) h2 cr (by rw [k2 r (ne_of_col (c := c1) (by rw [cr, X1.cm]; decide))]; exact hr1) st2
      have ht2 := st2.tup _ _ (s1.at ht)
      walk_at "lw"
      refine g_rixT (SqT.of ht2) (j := 1) (v := .int i) rfl ?_
      walk_at "lw"
      refine g_ktup (by show 2 ≤ 100; decide) fun t3 H4 nt s4 ht3 => ?_
      walk_at "lw"
      exact k c1 H4 t3 (X2.same s4).at (((st1.mono fun i z => z.elim).trans (st2.mono m7)).trans (Stp.same s4)) ht3
    | drop nm =>
      refine g_rixT (SqT.of ht) (j := 0) (v := .str "drop") rfl ?_
      walk_at "lw"
      rename_i H0 s0
      have X := X.same s0
      have ht := s0.at ht
      have k := k.shift (Stp.same s0)
      clear s0
      unfold ans at k
      dsimp only at k
      refine g_rdgetS (.of X.hm) mdl_names ?_
      walk_at "lw"
      refine g_rixT (SqT.of ht) (j := 1) (v := .str nm) rfl ?_
      walk_at "lw"
      refine ⟨nd, .inr ⟨s'.nk, _, nm, rfl, X.hn, by have := wf.nl; omega, wf.nn, fun r H1 nr s1 hr1 => ?_⟩⟩
      have st1 : Stp (fun _ => False) c (Stp.paint c r 10) H0 H1 := L2x_sameN s1 nr
      have X1 := X.frame st1 id id id id id id
      have cr : Stp.paint c r 10 r = 10 := Stp.paint_same
      generalize Stp.paint c r 10 = c1 at st1 X1 cr
      walk_at "lw"
      refine g_rdputS X1.hm mdl_len fun H2 h2 k2 => ?_
      rw [mdl_put_names] at h2
      have st2 : Stp (fun i => i = 7) c1 c1 H1 H2 := Stp.ch X1.hm X1.cm (fun xs z => by cases z) h2 k2
      have X2 := X1.nnew (nk := s'.nk.filter fun j => decide (j ≠ nm)) (N := s'.N) h2 cr (by rw [k2 r (ne_of_col (c := c1) (by rw [cr, X1.cm]; decide))]; exact hr1) st2
      have ht2 := st2.tup _ _ (s1.at ht)
      walk_at "lw"
      refine g_rixT (SqT.of ht2) (j := 1) (v := .str nm) rfl ?_
      walk_at "lw"
      refine g_ktup (by show 2 ≤ 100; decide) fun t3 H4 nt s4 ht3 => ?_
      walk_at "lw"
      exact k c1 H4 t3 (X2.same s4).at (((st1.mono fun i z => z.elim).trans (st2.mono m7)).trans (Stp.same s4)) ht3
    | look nm =>
      refine g_rixT (SqT.of ht) (j := 0) (v := .str "look") rfl ?_
      walk_at "lw"
      rename_i H0 s0
      have X := X.same s0
      have ht := s0.at ht
      have k := k.shift (Stp.same s0)
      clear s0
      unfold ans at k
      dsimp only at k
      refine g_rixT (SqT.of ht) (j := 1) (v := .str nm) rfl ?_
      walk_at "lw"
      refine g_rdgetS (.of X.hm) mdl_names ?_
      walk_at "lw"
      refine g_rdinS (.of X.hn) ?_
      rw [dec_in]
      walk_at "lw"
      refine if2 (fun hm => ?_) (fun hm => ?_)
      · rw [if_pos hm] at k
        walk_at "lw"
        refine g_rixT (SqT.of ht) (j := 1) (v := .str nm) rfl ?_
        walk_at "lw"
        refine g_rdgetS (.of X.hm) mdl_names ?_
        walk_at "lw"
        refine g_rixT (SqT.of ht) (j := 1) (v := .str nm) rfl ?_
        walk_at "lw"
        refine g_rdgetS (.of X.hn) (by rw [valV_mkS, if_pos hm]) ?_
        walk_at "lw"
        refine g_ktup (by show 3 ≤ 100; decide) fun t3 H4 nt s4 ht3 => ?_
        walk_at "lw"
        exact k c H4 t3 (X.same s4).at (Stp.same s4) ht3
      · rw [if_neg hm] at k
        walk_at "lw"
        refine g_rixT (SqT.of ht) (j := 1) (v := .str nm) rfl ?_
        walk_at "lw"
        refine g_ktup (by show 2 ≤ 100; decide) fun t3 H4 nt s4 ht3 => ?_
        walk_at "lw"
        exact k c H4 t3 (X.same s4).at (Stp.same s4) ht3
    | get a i m =>
      refine g_rixT (SqT.of ht) (j := 0) (v := .str "get") rfl ?_
      walk_at "lw"
      rename_i H0 s0
      have X := X.same s0
      have ht := s0.at ht
      have k := k.shift (Stp.same s0)
      clear s0
      unfold ans getR at k
      dsimp only at k
      refine g_slA ht fun tp H1 s1 htp => ?_
      have htp : H1 tp = some (.tup [.str a, .int i, .int m]) := htp
      refine g_gtup (SqT.of htp) rfl ?_
      have X1 := X.same s1
      have k := k.shift (Stp.same s1)
      obtain ⟨Ab, b1, b2⟩ := X1.hb
      walk_at "lw"
      refine g_rdgetS (.of X1.hm) mdl_blobs ?_
      walk_at "lw"
      refine g_rdnotinS (.of b1) ?_
      rw [dec_in]
      walk_at "lw"
      refine ifn2 (fun hm => ?_) (fun hm => ?_)
      · rw [if_pos hm] at k
        have hl := (wf.sw.ok a hm).l
        walk_at "lw"
        refine g_rdgetS (.of X1.hm) mdl_blobs ?_
        walk_at "lw"
        refine g_rdgetS (.of b1) (by rw [valV_mkS, if_pos hm]) ?_
        refine g_gtup (SqT.of (b2 a hm)) rfl ?_
        walk_at "lw"
        refine g_rslS (by rw [SX.S_len]; exact Nat.le_trans hl (by decide)) ?_
        walk_at "lw"
        refine g_lenT (by rw [SX.S_len]; exact Nat.le_trans hl (by decide)) ?_
        rw [SX.S_len]
        walk_at "lw"
        refine g_ktup (by show 6 ≤ 100; decide) fun t3 H4 nt s4 ht3 => ?_
        walk_at "lw"
        exact k c H4 t3 (X1.same s4).at (Stp.same s4) ht3
      · rw [if_neg hm] at k
        walk_at "lw"
        refine g_ktup (by show 2 ≤ 100; decide) fun t3 H4 nt s4 ht3 => ?_
        walk_at "lw"
        exact k c H4 t3 (X1.same s4).at (Stp.same s4) ht3
end
end Lw

/-! ## the law's requests -/
namespace Lw
open PySem L2
open PyProof.Rows (envOfC sortedS)
theorem MoAt.draw {c c' : Addr → Nat} {H H' : Hp} {M : Addr} {s : Rg} (X : MoAt c H M s) (st : Stp (fun i => i = 0) c c' H H') : MoAt c' H' M s := X.frame st (by decide) (by decide) (by decide) (by decide) (by decide) (by decide)
theorem MoAt.none {c c' : Addr → Nat} {H H' : Hp} {M : Addr} {s : Rg} (X : MoAt c H M s) (st : Stp (fun _ => False) c c' H H') : MoAt c' H' M s := X.frame st id id id id id id
def spLAdr : Sp := fun vs H Q _ => ∃ (c : Addr → Nat) (S M : Addr) (s : Rg), vs = [.ref S, .ref M] ∧ StateAt c H S ∧ MoAt c H M s ∧ KOk s.ks ∧ s.ks.length < 64 ∧
  ∀ (a : List Nat) (c' : Addr → Nat) (H' : Hp), isAdr a = true → StateAt c' H' S → Stp (fun i => i = 0) c c' H H' → Q (.str (SX.S a)) H'
def spLTx : Sp := fun vs H Q _ => ∃ (c : Addr → Nat) (S M : Addr) (s : Rg) (kd : Kd), vs = [.ref S, .ref M, .str kd.s] ∧ StateAt c H S ∧ MoAt c H M s ∧ KOk s.ks ∧ s.ks.length < 64 ∧ kd ≠ .lay ∧
  ∀ (t : List Nat) (c' : Addr → Nat) (H' : Hp), PutOk kd t → StateAt c' H' S → Stp (fun i => i = 0) c c' H H' → Q (.str (SX.S t)) H'
theorem ends_nl : ∀ (l : List (List Nat)) (h : List Nat), (∃ u, h = u ++ [10]) → (∀ x ∈ l, ∃ u, x = u ++ [10]) → ∃ u, h ++ l.flatten = u ++ [10]
  | [], h, ⟨u, e⟩, _ => ⟨u, by rw [List.flatten_nil, List.append_nil, e]⟩
  | x :: r, h, _, hl => by
    obtain ⟨v, rfl⟩ := hl x List.mem_cons_self
    obtain ⟨u, e⟩ := ends_nl r (h ++ (v ++ [10])) ⟨h ++ v, by rw [List.append_assoc]⟩ fun y hy => hl y (List.mem_cons_of_mem _ hy)
    exact ⟨u, by rw [List.flatten_cons, ← List.append_assoc, e]⟩
theorem img_end (as : List (List Nat)) : ∃ u, imgL as = u ++ [10] := ends_nl _ _ ⟨[105, 109, 97, 103, 101], rfl⟩ fun x hx => by
  obtain ⟨a, _, rfl⟩ := List.mem_map.mp hx
  exact ⟨a, rfl⟩
theorem bun_end (ps : List (List Nat × List Nat)) : ∃ u, bunL ps = u ++ [10] := ends_nl _ _ ⟨[98, 117, 110, 100, 108, 101], rfl⟩ fun x hx => by
  obtain ⟨a, _, rfl⟩ := List.mem_map.mp hx
  exact ⟨_, rfl⟩
theorem nl_S : SX.S [10] = ("\n" : Str) := by decide +kernel
theorem put_img {as : List (List Nat)} (h : ∀ a ∈ as, isAdr a = true) (hl : as.length ≤ 50) : PutOk .img (imgL as) := by
  have ok := img_ok h hl
  have e := ln_imgL fun a ha => adr_no (h a ha) (c := 10) (by decide)
  have hm : malT .img (imgL as) = false := by
    obtain ⟨u, hu⟩ := img_end as
    unfold malT
    rw [e, hu, SX.last_snoc, nl_S, decide_eq_true (show V.str (SX.S ((imgW :: (as ++ [[]])).getD 0 [])) = V.str Kd.img.s from str_eq.mpr imgW_eq.symm), decide_eq_true rfl]
    rfl
  exact ⟨by decide, ok.c, ok.l, (fun z => by rw [hm] at z; cases z), fun _ => ok.f⟩
theorem put_bun {ps : List (List Nat × List Nat)} (W : WFB ps) : PutOk .bun (bunL ps) := by
  have ok := bun_ok W
  have e := ln_bunL fun p hp => ⟨plat_no (W.all p hp).1 (c := 10) (by decide), adr_no (W.all p hp).2 (c := 10) (by decide)⟩
  have hm : malT .bun (bunL ps) = false := by
    obtain ⟨u, hu⟩ := bun_end ps
    unfold malT
    rw [e, hu, SX.last_snoc, nl_S, decide_eq_true (show V.str (SX.S ((bunW :: _).getD 0 [])) = V.str Kd.bun.s from str_eq.mpr bunW_eq.symm), decide_eq_true rfl]
    rfl
  exact ⟨by decide, ok.c, ok.l, (fun z => by rw [hm] at z; cases z), fun _ => ok.f⟩
def bad3 : List (List Nat) := [[105, 109, 97, 103, 101], [105, 109, 97, 103, 101, 10, 120], [105, 109, 97, 103, 101, 115, 10]]
theorem put_bad {k : Kd} (hk : k ≠ .lay) : ∀ t ∈ bad3, PutOk k t := fun t ht => by
  have h1 : okC t := by
    have : ∀ t ∈ bad3, ∀ c ∈ t, c < 0x110000 := by decide
    exact this t ht
  have h2 : t.length ≤ 10000 := by
    have : ∀ t ∈ bad3, t.length ≤ 10000 := by decide
    exact this t ht
  have h3 : malT k t = true ∧ faultK k.s t ≠ none := by
    cases k with
    | lay => exact absurd rfl hk
    | img =>
      have : ∀ t ∈ bad3, malT .img t = true ∧ faultK Kd.img.s t ≠ none := by decide +kernel
      exact this t ht
    | bun =>
      have : ∀ t ∈ bad3, malT .bun t = true ∧ faultK Kd.bun.s t ≠ none := by decide +kernel
      exact this t ht
  exact ⟨hk, h1, h2, fun _ => h3.2, fun z => by rw [h3.1] at z; cases z⟩
theorem cut_init (ls : List (List Nat)) : cutV (ls.map strS) none (some (-1)) = ls.dropLast.map strS := by
  unfold cutV
  rw [List.length_map, HT.sIx_none]
  have h2 : HT.sIx ls.length ls.length (some (-1)) = ls.length - 1 := by
    unfold HT.sIx
    simp
    omega
  rw [h2, List.dropLast_eq_take, List.drop_zero, Nat.sub_zero, ← List.map_take]
theorem Stp.chN {I : Nat → Prop} {c c' : Addr → Nat} {H H1 H2 : Hp} {q : Addr} {o : HO} (st : Stp I c c' H H1) (hq : H q = none) (h : H2 q = some o) (k : ∀ b, b ≠ q → H2 b = H1 b) : Stp I c c' H H2 :=
  ⟨fun b o e n => by rw [k b (ne_of_none e hq)]; exact st.keep b o e n, st.col, fun b xs e => by rw [k b (ne_of_none e hq)]; exact st.tup b xs e, fun b e => by
    by_cases z : b = q
    · subst z; exact hq
    · rw [k b z] at e; exact st.fre b e⟩
/-- a comprehension whose test may lay things -/
theorem lc_mapS {J : It} {xs : List V} {G : Hp → Prop} {g : TG} {tt : TT} {te : TE} {vs : List Nat} {σ : L2.St} {H : Hp} {Q : VK} (w : Walk J xs.length G (YAt xs)) (hG : ∀ H', Same H H' → G H') (hz : xs.length ≤ 100000) (p : V → Bool) (f : V → V)
    (hg : ∀ x ∈ xs, ∀ H' (R : L2.St → Hp → Prop), Same H H' → (∀ σ2, wipe σ2 vs = wipe σ vs → (∀ H'' (R : Bool → Hp → Prop), Same H H'' → (∀ H3, Same H'' H3 → R (p x) H3) → tt σ2 H'' R) →
      (p x = true → ∀ H'' (R : VK), Same H H'' → (∀ H3, Same H'' H3 → R (f x) H3) → te σ2 H'' R) → R σ2 H') → g x (wipe σ vs) H' R)
    (k : ∀ q H', H q = none → Same H H' → H' q = some (.lst ((xs.filter p).map f)) → Q (.ref q) H') : kLc g tt te vs σ Q J H := by
  intro D hD
  refine lc_it w (fun i H2 => Same H H2 ∧ H2 D = some (.lst (((xs.take i).filter p).map f))) ⟨Same.new hD, upd_same⟩ (fun i H2 _ h => hG H2 h.1) (fun i x H2 H2' hi h y => ?_) (fun H2 h => ?_)
  · obtain ⟨e, hx⟩ := y
    subst e
    refine hg x (List.mem_of_getElem? hx) _ _ h.1 fun σ2 hw ht he => ⟨hw, ?_⟩
    refine ht _ _ h.1 fun H2a s2a => ?_
    have h : Same H H2a ∧ H2a D = some (.lst (((xs.take i).filter p).map f)) := ⟨h.1.trans s2a, s2a _ _ h.2⟩
    have hl : (((xs.take i).filter p).map f).length < sizeLine := by
      rw [List.length_map]
      have h1 := List.length_filter_le p (xs.take i)
      have h2 := List.length_take_le i xs
      exact Nat.lt_of_lt_of_le (show _ < 200000 by omega) (by decide)
    cases hp : p x with
    | true =>
      refine iteT ?_
      refine he hp _ _ h.1 fun H3 s3 => ⟨_, s3 _ _ h.2, hl, (h.1.trans s3).grow hD, ?_⟩
      rw [upd_same, take_ok hx, List.filter_append, List.map_append]
      simp [hp]
    | false =>
      refine iteF ?_
      refine ⟨h.1, ?_⟩
      rw [take_ok hx, List.filter_append]
      simpa [hp] using h.2
  · rw [List.take_length] at h
    exact k D H2 hD h.1 h.2
section
variable {P : Program} {w : World} {K : PySem.W.Frag} {mg : Str → Option Value} {base : Heap} {C_Claims C_Collector C_Store C_Uploads C_Registry C_Refused C_Malformed a_KINDS a_BELOW a_CLAIMED : Addr}
theorem ok__law_address (T : Txt w K mg C_Claims C_Collector C_Store C_Uploads C_Registry C_Refused C_Malformed a_KINDS a_BELOW a_CLAIMED) : Cal P w K mg base 3 "_law_address" spLAdr := by
  have c__law_take : Cal P w K mg base 1 "_law_take" spTake := ok__law_take T
  have c__law_text : Cal P w K mg base 2 "_law_text" spText := ok__law_text T
  have c_address_of : Cal P w K mg base 1 "address_of" spAddr := ok_address_of T
  refine cal_mk T.d__law_address sc__law_address (fun vs H Q E h => ?_) (fun f cdv A outer s H vs Q E hr h => ?_)
  · obtain ⟨c, S, M, s, rfl, _⟩ := h
    rfl
  · obtain ⟨c, S, M, s', rfl, S0, X0, ko, hl, k⟩ := h
    have hu := hu_of hr
    refine ⟨_, (pss_cons (ps_set (i := 2) sc__law_address.nd rfl (by first | exact Or.inl rfl | exact Or.inr rfl) (pe_callB (call_sortedD rfl) (by rfl) T.n_sorted (by decide +kernel) (pa_cons (pe_dget hu (pv 1) (pe_str) (fun _ _ => rfl)) pa_nil)))
      (pss_cons (ps_if (PW.pt (pw_or (pt_cmpR op_eq (pe_callB call_len_seq' (by rfl) T.n_len (by decide +kernel) (pa_cons (pv 2) pa_nil)) (pe_int) (nomark _)) (pw_or1 (pt_cmpR op_eq (pe_c c__law_take hr (by first | decide | omega) rfl (pa_cons (pv 0) (pa_cons (pe_int) pa_nil))) (pe_int) (nomark _))))) (pss_one (ps_ret (pe_c c_address_of hr (by first | decide | omega) rfl (pa_cons (pe_str) (pa_cons (pe_c c__law_text hr (by first | decide | omega) rfl (pa_cons (pv 0) (pa_cons (pe_int) pa_nil))) pa_nil))))) pss_nil)
      (pss_one (ps_ret (pe_ix ix_list (pv 2) (pe_c c__law_take hr (by first | decide | omega) rfl (pa_cons (pv 0) (pa_cons (pe_callB call_len_seq' (by rfl) T.n_len (by decide +kernel) (pa_cons (pv 2) pa_nil)) pa_nil))) (fun _ _ => rfl)))))), ?_⟩
    obtain ⟨bd, nd, pd, td, A', X⟩ := id X0
    obtain ⟨Ab, b1, b2⟩ := X.hb
    walk_at "lw"
    refine g_rdgetS (.of X.hm) mdl_blobs ?_
    walk_at "lw"
    refine ⟨bd, _, s'.ks, rfl, .of b1, mkS_keys, hl, fun ys r hp hs nr => ?_⟩
    obtain ⟨as, rfl, has⟩ := (ko.sub fun x hx => hp.mem_iff.mp hx).list
    have hlen : as.length = s'.ks.length := by rw [← hp.length_eq, List.length_map]
    have e : ((as.map SX.S).map V.str) = as.map strS := by rw [List.map_map]; rfl
    rw [e]
    have st1 : Stp (fun _ => False) c (Stp.paint c r 9) H (upd H r (.lst (as.map strS))) := L2x_sameN (Same.new nr) nr
    have cr : Stp.paint c r 9 r = 9 := Stp.paint_same
    have hq : (upd H r (.lst (as.map strS))) r = some (.lst (as.map strS)) := upd_same
    generalize upd H r (.lst (as.map strS)) = H1 at st1 hq
    generalize Stp.paint c r 9 = c1 at st1 cr
    have S1 := S0.frame st1 (by decide)
    have st1 : Stp (fun i => i = 0) c c1 H H1 := st1.mono fun i z => z.elim
    clear nr hs hp X b1 b2 X0
    have new : ∀ (c2 : Addr → Nat) (H2 : Hp), StateAt c2 H2 S → Stp (fun i => i = 0) c1 c2 H1 H2 → spText [.ref S, .int 3] H2 (fun v H3 => spAddr [.str "layer", v] H3 Q E0) E0 := fun c2 H2 S2 st2 =>
      ⟨c2, S, 3, rfl, S2, by decide, by decide, fun l c3 H3 hl2 hx S3 st3 => ⟨Kd.lay.s, l, rfl, Kd.s_kind _, k (adrL Kd.lay.s l) c3 H3 (adr_is _ _) S3 ((st1.trans st2).trans st3)⟩⟩
    walk_at "lw"
    rw [List.length_map]
    refine if2 (fun h0 => ?_) (fun h0 => ?_)
    · walk_at "lw"
      exact new c1 H1 S1 Stp.refl
    · have h0 : ¬ as.length = 0 := fun z => h0 (by rw [z]; rfl)
      walk_at "lw"
      refine ⟨c1, S, 6, rfl, S1, by decide, by decide, fun m c2 H2 m0 m1 S2 st2 => ?_⟩
      walk_at "lw"
      refine if2 (fun h1 => ?_) (fun h1 => ?_)
      · walk_at "lw"
        exact new c2 H2 S2 st2
      · have hq2 := st2.keep _ _ hq (by rw [cr]; decide)
        have cr2 : c2 r = 9 := by rw [st2.col _ _ hq, cr]
        walk_at "lw"
        rw [List.length_map]
        refine ⟨c2, S, _, rfl, S2, by omega, by omega, fun m c3 H3 m0 m1 S3 st3 => ?_⟩
        obtain ⟨v, hv, hat⟩ := at_in (xs := as) (i := m) m0 m1
        walk_at "lw"
        refine g_rix (SqL.of (st3.keep _ _ hq2 (by rw [cr2]; decide))) (atI_map hat) ?_
        exact k v c3 H3 (has v (List.mem_of_getElem? hv)) S3 ((st1.trans st2).trans st3)
theorem ok__law_text_of (T : Txt w K mg C_Claims C_Collector C_Store C_Uploads C_Registry C_Refused C_Malformed a_KINDS a_BELOW a_CLAIMED) : Cal P w K mg base 4 "_law_text_of" spLTx := by
  have c__law_take : Cal P w K mg base 1 "_law_take" spTake := ok__law_take T
  have c__law_address : Cal P w K mg base 3 "_law_address" spLAdr := ok__law_address T
  have c_image_text : Cal P w K mg base 1 "image_text" spImg := ok_image_text T
  have c_bundle_text : Cal P w K mg base 1 "bundle_text" spBun := ok_bundle_text T
  refine cal_mk T.d__law_text_of sc__law_text_of (fun vs H Q E h => ?_) (fun f cdv A outer s H vs Q E hr h => ?_)
  · obtain ⟨c, S, M, s, kd, rfl, _⟩ := h
    rfl
  · obtain ⟨c, S, M, s', kd, rfl, S0, X0, ko, hl, hkd, k⟩ := h
    have hu := hu_of hr
    refine ⟨_, (pss_cons (ps_if (pt_cmpR op_eq (pe_c c__law_take hr (by first | decide | omega) rfl (pa_cons (pv 0) (pa_cons (pe_int) pa_nil))) (pe_int) (nomark _)) (pss_one (ps_ret (pe_op op_cat_str (pe_str) (pe_ix ix_list (pe_lst (pa_cons (pe_str) (pa_cons (pe_str) (pa_cons (pe_str) pa_nil)))) (pe_c c__law_take hr (by first | decide | omega) rfl (pa_cons (pv 0) (pa_cons (pe_int) pa_nil))) (fun _ _ => rfl))))) pss_nil)
      (pss_cons (ps_set (i := 3) sc__law_text_of.nd rfl (by first | exact Or.inl rfl | exact Or.inr rfl) (pe_dget hu (pv 1) (pe_str) (fun _ _ => rfl)))
      (pss_cons (ps_setLc (i := 4) (own := [("_law_address_here", 7)]) (g := (gName 7)) (by rfl) sc__law_text_of.nd rfl rfl (sw_true rfl rfl rfl (by decide +kernel)) (pi_list (pe_callB (call_sortedD rfl) (by rfl) T.n_sorted (by decide +kernel) (pa_cons (pv 3) pa_nil))) (blkOk_by (own := [("_law_address_here", 7)]) (N := n__law_text_of) (sc := defScope s__law_text_of) (by decide +kernel)) (fun _ _ _ _ _ => (pg_name (i := 7) sc__law_text_of.nd rfl (by first | exact Or.inl rfl | exact Or.inr rfl))) (fun _ _ _ _ _ => (pts_one (pt_cmpR op_eq (pe_ix (ix_tupK K rfl) (pe_dget hu (pv 3) (pv 7) (fun _ _ => rfl)) (pe_int) (fun _ _ => rfl)) (pe_dget hu (pe_disp (pps_cons (pe_str) (pe_str) (pps_cons (pe_str) (pe_str) pps_nil)) (by rfl) (by rfl) (fun z => by cases z) (by decide)) (pv 2) (fun _ _ => rfl)) (nomark _)))) (fun _ _ _ _ _ => (pv 7)))
      (pss_cons (ps_set (i := 5) sc__law_text_of.nd rfl (by first | exact Or.inl rfl | exact Or.inr rfl) (pe_lst pa_nil))
      (pss_cons (ps_for PassesOwn.never rfl (pi_range1 (by rfl) T.n_range (pa_cons (pe_op op_add (pe_c c__law_take hr (by first | decide | omega) rfl (pa_cons (pv 0) (pa_cons (pe_int) pa_nil))) (pe_callTy call_int1' (by rfl) T.n_int (by decide +kernel) (pa_cons (pe_cmpR op_eq (pv 2) (pe_str) (nomark _)) pa_nil))) pa_nil)) (pg_name (i := 6) sc__law_text_of.nd rfl (by first | exact Or.inl rfl | exact Or.inr rfl)) (pss_cons (ps_expr (pe_bm PySem.F.plainAttrs_list PySem.F.slot_list_append PySem.F.type_list_append mt_append (pv 5) (pa_cons (pe_c c__law_address hr (by first | decide | omega) rfl (pa_cons (pv 0) (pa_cons (pv 1) pa_nil))) pa_nil)))
      (pss_one (ps_if (PW.pt (pw_and (pt_cmpR op_gt (pe_callB call_len_seq' (by rfl) T.n_len (by decide +kernel) (pa_cons (pv 4) pa_nil)) (pe_int) (nomark _)) (pw_and1 (pt_cmpR op_gt (pe_c c__law_take hr (by first | decide | omega) rfl (pa_cons (pv 0) (pa_cons (pe_int) pa_nil))) (pe_int) (nomark _))))) (pss_one (ps_set (i := 5) sc__law_text_of.nd rfl (by first | exact Or.inl rfl | exact Or.inr rfl) (pe_op op_cat (pe_slice sl_list (pv 5) po_none (po_some (pe_un un_neg (pe_int)))) (pe_lst (pa_cons (pe_ix ix_list (pv 4) (pe_c c__law_take hr (by first | decide | omega) rfl (pa_cons (pv 0) (pa_cons (pe_callB call_len_seq' (by rfl) T.n_len (by decide +kernel) (pa_cons (pv 4) pa_nil)) pa_nil))) (fun _ _ => rfl)) pa_nil))))) pss_nil))))
      (pss_cons (ps_if (pt_cmpR op_eq (pv 2) (pe_str) (nomark _)) (pss_one (ps_ret (pe_c c_image_text hr (by first | decide | omega) rfl (pa_cons (pv 5) pa_nil)))) pss_nil)
      (pss_one (ps_ret (pe_c c_bundle_text hr (by first | decide | omega) rfl (pa_cons (pe_lc (own := [("_law_k", 6)]) (g := (gName 6)) (by rfl) sc__law_text_of.nd (pi_range1 (by rfl) T.n_range (pa_cons (pe_callB call_len_seq' (by rfl) T.n_len (by decide +kernel) (pa_cons (pv 5) pa_nil)) pa_nil)) (blkOk_by (own := [("_law_k", 6)]) (N := n__law_text_of) (sc := defScope s__law_text_of) (by decide +kernel)) (fun _ _ _ _ _ => (pg_name (i := 6) sc__law_text_of.nd rfl (by first | exact Or.inl rfl | exact Or.inr rfl))) (fun _ _ _ _ _ => pts_nil) (fun _ _ _ _ _ => (pe_tup (pa_cons (pe_ix (ix_listK K rfl) (pe_lst (pa_cons (pe_str) (pa_cons (pe_str) (pa_cons (pe_str) pa_nil)))) (pv 6) (fun _ _ => rfl)) (pa_cons (pe_ix (ix_listK K rfl) (pv 5) (pv 6) (fun _ _ => rfl)) pa_nil))))) pa_nil)))))))))), ?_⟩
    walk_at "lw"
    refine ⟨c, S, 9, rfl, S0, by decide, by decide, fun m c1 H1 m0 m1 S1 st1 => ?_⟩
    have X1 := X0.draw st1
    walk_at "lw"
    refine if2 (fun h0 => ?_) (fun h0 => ?_)
    · walk_at "lw"
      refine g_klst (by show 3 ≤ 100; decide) fun q H2 nq s2 hq => ?_
      have st2 : Stp (fun _ => False) c1 (Stp.paint c1 q 9) H1 H2 := L2x_sameN s2 nq
      have cq : Stp.paint c1 q 9 q = 9 := Stp.paint_same
      generalize Stp.paint c1 q 9 = c2 at st2 cq
      walk_at "lw"
      refine ⟨c2, S, 3, rfl, S1.frame st2 (by decide), by decide, by decide, fun r c3 H3 r0 r1 S3 st3 => ?_⟩
      have hq3 := st3.keep _ _ hq (by rw [cq]; decide)
      have st : Stp (fun i => i = 0) c c3 H H3 := (st1.trans (st2.mono fun i z => z.elim)).trans st3
      have hr3 : r = 0 ∨ r = 1 ∨ r = 2 := by omega
      rcases hr3 with rfl | rfl | rfl
      · refine g_rix (SqL.of hq3) (v := .str "") rfl ?_
        refine g_cat_str (a := "image") (b := "") (by decide +kernel) ?_
        rw [show ("image" : Str) ++ "" = SX.S [105, 109, 97, 103, 101] by decide +kernel]
        exact k _ c3 H3 (put_bad hkd _ (by decide)) S3 st
      · refine g_rix (SqL.of hq3) (v := .str "\nx") rfl ?_
        refine g_cat_str (a := "image") (b := "\nx") (by decide +kernel) ?_
        rw [show ("image" : Str) ++ "\nx" = SX.S [105, 109, 97, 103, 101, 10, 120] by decide +kernel]
        exact k _ c3 H3 (put_bad hkd _ (by decide)) S3 st
      · refine g_rix (SqL.of hq3) (v := .str "s\n") rfl ?_
        refine g_cat_str (a := "image") (b := "s\n") (by decide +kernel) ?_
        rw [show ("image" : Str) ++ "s\n" = SX.S [105, 109, 97, 103, 101, 115, 10] by decide +kernel]
        exact k _ c3 H3 (put_bad hkd _ (by decide)) S3 st
    · obtain ⟨bd, nd, pd, td, A', X⟩ := id X1
      obtain ⟨Ab, b1, b2⟩ := X.hb
      walk_at "lw"
      refine g_rdgetS (.of X.hm) mdl_blobs ?_
      walk_at "lw"
      refine ⟨bd, _, s'.ks, rfl, .of b1, mkS_keys, hl, fun ys r hp hs nr => ?_⟩
      obtain ⟨as, rfl, has⟩ := (ko.sub fun x hx => hp.mem_iff.mp hx).list
      have hsub : ∀ x ∈ as.map SX.S, x ∈ s'.ks := fun x hx => hp.mem_iff.mp hx
      have hlen : as.length = s'.ks.length := by rw [← hp.length_eq, List.length_map]
      have e : ((as.map SX.S).map V.str) = as.map strS := by rw [List.map_map]; rfl
      rw [e]
      have s2 : Same H1 (upd H1 r (.lst (as.map strS))) := Same.new nr
      have hq : (upd H1 r (.lst (as.map strS))) r = some (.lst (as.map strS)) := upd_same
      generalize upd H1 r (.lst (as.map strS)) = H2 at s2 hq
      refine g_ritL (SqL.of hq) ?_
      refine lc_mapS (G := fun H' => SqL K H' r (as.map strS)) walk_list (fun H' s => SqL.of (s _ _ hq)) (by rw [List.length_map]; omega) (fun v => match v with | .str x => decide (V.str (s'.B x).k.s = V.str (dueS kd)) | _ => false) (fun v => v) ?_ ?_
      · intro x hx H' R s3 kk
        obtain ⟨l, hl2, rfl⟩ := List.mem_map.mp hx
        have hm := hsub _ (List.mem_map.mpr ⟨l, hl2, rfl⟩)
        walk_at "lw"
        refine kk _ rfl (fun H'' R s4 r => ?_) (fun hp' H'' R s4 r => ?_)
        · have s24 := s2.trans s4
          walk_at "lw"
          refine g_rdgetS (.of (s24.at b1)) (by rw [valV_mkS, if_pos hm]) ?_
          walk_at "lw"
          refine g_rixT (SqT.of (s24.at (b2 _ hm))) (j := 0) (v := .str (s'.B (SX.S l)).k.s) rfl ?_
          walk_at "lw"
          refine g_disp fun dd H4 ndd s4 hdd => ?_
          walk_at "lw"
          refine g_rdisp (kvs := dueK2) hdd rfl (by decide) fun H5 hd5 k5 => ?_
          have s5 : Same H'' H5 := s4.chg ndd k5
          walk_at "lw"
          refine g_rdgetS (.of hd5) (due2_at hkd) ?_
          walk_at "lw"
          exact r H5 s5
        · walk_at "lw"
          exact r _ (Same.refl _)
      intro bl H3 nbl s3 hbl
      have e2 : ((as.map strS).filter fun v => match v with | .str x => decide (V.str (s'.B x).k.s = V.str (dueS kd)) | _ => false).map (fun v => v) = (as.filter fun l => decide (V.str (s'.B (SX.S l)).k.s = V.str (dueS kd))).map strS := by
        rw [List.map_id', List.filter_map]
        rfl
      rw [e2] at hbl
      have hbs : ∀ a ∈ as.filter (fun l => decide (V.str (s'.B (SX.S l)).k.s = V.str (dueS kd))), isAdr a = true := fun a ha => has a (List.mem_filter.mp ha).1
      have hbsl : (as.filter fun l => decide (V.str (s'.B (SX.S l)).k.s = V.str (dueS kd))).length ≤ 64 := by
        have := List.length_filter_le (fun l => decide (V.str (s'.B (SX.S l)).k.s = V.str (dueS kd))) as
        omega
      generalize as.filter (fun l => decide (V.str (s'.B (SX.S l)).k.s = V.str (dueS kd))) = bs at hbl hbs hbsl
      have st3 : Stp (fun i => i = 0) c c1 H H3 := st1.trans (Stp.same (s2.trans s3))
      have nbl0 : H bl = none := (st1.trans (Stp.same (I := fun i => i = 0) s2)).fre _ nbl
      have st3 : Stp (fun i => i = 0) c (Stp.paint c1 bl 9) H H3 := (st1.trans (Stp.same s2)).trans (L2x_sameN s3 nbl)
      have S3 : StateAt (Stp.paint c1 bl 9) H3 S := (S1.frame (I := fun _ => False) (Stp.same s2) (by decide)).frame (I := fun _ => False) (L2x_sameN s3 nbl) (by decide)
      have X3 : MoAt (Stp.paint c1 bl 9) H3 M s' := (X1.same s2).frame (I := fun _ => False) (L2x_sameN s3 nbl) id id id id id id
      have cb : Stp.paint c1 bl 9 bl = 9 := Stp.paint_same
      generalize Stp.paint c1 bl 9 = c3 at st3 S3 X3 cb
      clear nbl s3 e2 hq e hlen hsub hp hs nr X b1 b2 s2 X1 S1 st1
      walk_at "lw"
      refine g_klst (by show 0 ≤ 100; decide) fun q H4 nq s4 hq => ?_
      have nq0 : H q = none := st3.fre _ nq
      have st4 : Stp (fun i => i = 0) c (Stp.paint c3 q 9) H H4 := st3.trans (L2x_sameN s4 nq)
      have S4 : StateAt (Stp.paint c3 q 9) H4 S := S3.frame (I := fun _ => False) (L2x_sameN s4 nq) (by decide)
      have X4 : MoAt (Stp.paint c3 q 9) H4 M s' := X3.frame (I := fun _ => False) (L2x_sameN s4 nq) id id id id id id
      have cq : Stp.paint c3 q 9 q = 9 := Stp.paint_same
      have cb4 : Stp.paint c3 q 9 bl = 9 := by rw [Stp.paint_ne (ne_of_none hbl nq)]; exact cb
      have hbl4 := s4.at hbl
      have nqb : q ≠ bl := (ne_of_none hbl nq).symm
      generalize Stp.paint c3 q 9 = c4 at st4 S4 X4 cq cb4
      clear st3 S3 X3 nq s4 hbl cb
      walk_at "lw"
      refine ⟨c4, S, 3, rfl, S4, by decide, by decide, fun r c5 H5 r0 r1 S5 st5 => ?_⟩
      have hq5 := st5.keep _ _ hq (by rw [cq]; decide)
      have cq5 : c5 q = 9 := by rw [st5.col _ _ hq, cq]
      have hbl5 := st5.keep _ _ hbl4 (by rw [cb4]; decide)
      have cb5 : c5 bl = 9 := by rw [st5.col _ _ hbl4, cb4]
      have X5 := X4.draw st5
      have st := st4.trans st5
      clear st4 S4 X4 cq cb4 hbl4 st5 hq
      walk_at "lw"
      obtain ⟨m, hm, m0, m1, mb⟩ : ∃ m : Int, (r + (if decide (V.str kd.s = V.str "bundle") = true then 1 else 0)) = m ∧ 0 ≤ m ∧ m ≤ 3 ∧ (kd = .bun → 1 ≤ m) := ⟨_, rfl, by split <;> omega, by split <;> omega, fun e => by subst e; rw [if_pos (by decide +kernel)]; omega⟩
      rw [hm]
      clear hm r0 r1
      refine g_for1 m0 (by omega) (fun i σ H' => ∃ (c' : Addr → Nat) (q : Addr) (as : List (List Nat)) (v : Option V), σ = [some (.ref S), some (.ref M), some (.str kd.s), some (.ref bd), some (.ref bl), some (.ref q), v, none] ∧ StateAt c' H' S ∧ MoAt c' H' M s' ∧ Stp (fun i => i = 0) c c' H H' ∧ H q = none ∧ H' q = some (.lst (as.map strS)) ∧ c' q = 9 ∧ q ≠ bl ∧ (∀ a ∈ as, isAdr a = true) ∧ as.length = i ∧ H' bl = some (.lst (bs.map strS)) ∧ c' bl = 9)
        ⟨c5, q, [], none, rfl, S5, X5, st, nq0, hq5, cq5, nqb, (fun a ha => nomatch ha), rfl, hbl5, cb5⟩ ?_ ?_
      · clear S5 X5 st nq0 hq5 cq5 nqb hbl5 cb5
        rintro i σ H6 hi ⟨c6, q, as, v, rfl, S6, X6, st6, nq0, hq6, cq6, nqb, has, hlen, hb6, cb6⟩
        walk_at "lw"
        refine g_tyL hq6 ?_
        walk_at "lw"
        refine ⟨c6, S, M, s', rfl, S6, X6, ko, hl, fun a c7 H7 ha S7 st7 => ?_⟩
        have hq7 := st7.keep _ _ hq6 (by rw [cq6]; decide)
        have cq7 : c7 q = 9 := by rw [st7.col _ _ hq6, cq6]
        have hb7 := st7.keep _ _ hb6 (by rw [cb6]; decide)
        have cb7 : c7 bl = 9 := by rw [st7.col _ _ hb6, cb6]
        have X7 := X6.draw st7
        have st7 := st6.trans st7
        walk_at "lw"
        refine g_append hq7 (by rw [List.length_map]; omega) fun H8 h8 k8 => ?_
        have h8 : H8 q = some (.lst ((as ++ [a]).map strS)) := by rw [h8, List.map_append]; rfl
        have st8 : Stp (fun i => i = 9) c7 c7 H7 H8 := Stp.ch hq7 cq7 (fun xs z => by cases z) h8 k8
        have S8 := S7.frame st8 (by decide)
        have X8 : MoAt c7 H8 M s' := X7.frame st8 (by decide) (by decide) (by decide) (by decide) (by decide) (by decide)
        have stT := st7.chN nq0 h8 k8
        have hb8 : H8 bl = some (.lst (bs.map strS)) := by rw [k8 bl nqb.symm]; exact hb7
        have has8 : ∀ b ∈ as ++ [a], isAdr b = true := fun b hb => by
          rcases List.mem_append.mp hb with z | z
          · exact has b z
          · rw [List.mem_singleton.mp z]; exact ha
        have hlen8 : (as ++ [a]).length = i + 1 := by rw [List.length_append, hlen]; rfl
        generalize as ++ [a] = as2 at h8 has8 hlen8
        clear S6 X6 st6 hq6 cq6 has hlen hb6 cb6 S7 X7 st7 hq7 hb7 st8 k8
        walk_at "lw"
        rw [List.length_map]
        refine if2 (fun h0 => ?_) (fun h0 => ?_)
        rotate_left
        · walk_at "lw"
          exact ⟨c7, q, as2, _, rfl, S8, X8, stT, nq0, h8, cq7, nqb, has8, hlen8, hb8, cb7⟩
        · walk_at "lw"
          refine ⟨c7, S, 6, rfl, S8, by decide, by decide, fun r c9 H9 r0 r1 S9 st9 => ?_⟩
          have h9 := st9.keep _ _ h8 (by rw [cq7]; decide)
          have cq9 : c9 q = 9 := by rw [st9.col _ _ h8, cq7]
          have hb9 := st9.keep _ _ hb8 (by rw [cb7]; decide)
          have cb9 : c9 bl = 9 := by rw [st9.col _ _ hb8, cb7]
          have X9 := X8.draw st9
          have stT := stT.trans st9
          clear S8 X8 st9 h8 hb8 cq7 cb7
          walk_at "lw"
          refine if2 (fun h1 => ?_) (fun h1 => ?_)
          rotate_left
          · walk_at "lw"
            exact ⟨c9, q, as2, _, rfl, S9, X9, stT, nq0, h9, cq9, nqb, has8, hlen8, hb9, cb9⟩
          · walk_at "lw"
            refine ⟨_, rfl, ?_⟩
            walk_at "lw"
            refine g_slL (SqL.of h9) fun q2 H10 nq2 s10 hq2 => ?_
            rw [cut_init] at hq2
            have st10 : Stp (fun _ => False) c9 (Stp.paint c9 q2 9) H9 H10 := L2x_sameN s10 nq2
            have cq2 : Stp.paint c9 q2 9 q2 = 9 := Stp.paint_same
            have hb10 := s10.at hb9
            have cb10 : Stp.paint c9 q2 9 bl = 9 := by rw [st10.col _ _ hb9, cb9]
            have S10 := S9.frame st10 (by decide)
            have X10 : MoAt (Stp.paint c9 q2 9) H10 M s' := X9.none st10
            have stT := stT.trans (st10.mono fun i z => z.elim)
            generalize Stp.paint c9 q2 9 = c10 at cq2 cb10 S10 X10 stT
            clear st10 S9 X9 h9 hb9 cq9 cb9 s10 nq2
            walk_at "lw"
            rw [List.length_map]
            refine ⟨c10, S, _, rfl, S10, by omega, by omega, fun r2 c11 H11 r20 r21 S11 st11 => ?_⟩
            obtain ⟨v2, hv, hat⟩ := at_in (xs := bs) (i := r2) r20 r21
            have hq11 := st11.keep _ _ hq2 (by rw [cq2]; decide)
            have hb11 := st11.keep _ _ hb10 (by rw [cb10]; decide)
            have cb11 : c11 bl = 9 := by rw [st11.col _ _ hb10, cb10]
            have X11 := X10.draw st11
            have stT := stT.trans st11
            walk_at "lw"
            refine g_rix (SqL.of hb11) (atI_map hat) ?_
            walk_at "lw"
            refine g_klst (by show 1 ≤ 100; decide) fun q3 H12 nq3 s12 hq3 => ?_
            walk_at "lw"
            have hdl : as2.dropLast.length = i := by rw [List.length_dropLast, hlen8]; rfl
            refine g_cat (s12.at hq11) hq3 (by rw [List.length_map, hdl]; show i + 1 ≤ 100000; omega) fun q4 H13 nq4 s13 hq4 => ?_
            have hq4 : H13 q4 = some (.lst ((as2.dropLast ++ [v2]).map strS)) := by rw [hq4, List.map_append]; rfl
            have s113 := s12.trans s13
            have st13 : Stp (fun _ => False) c11 (Stp.paint c11 q4 9) H11 H13 := (Stp.same s12).trans (L2x_sameN s13 nq4)
            have nq4' : H q4 = none := (stT.trans (Stp.same s12)).fre _ nq4
            have hb13 := s113.at hb11
            have n4b : q4 ≠ bl := (ne_of_none (s12.at hb11) nq4).symm
            walk_at "lw"
            refine ⟨_, q4, as2.dropLast ++ [v2], _, rfl, S11.frame st13 (by decide), X11.none st13, stT.trans (st13.mono fun i z => z.elim), nq4', hq4, Stp.paint_same, n4b, fun b hb => ?_, by rw [List.length_append, hdl]; rfl, hb13, by rw [st13.col _ _ hb11, cb11]⟩
            rcases List.mem_append.mp hb with z | z
            · exact has8 b (List.dropLast_subset _ z)
            · rw [List.mem_singleton.mp z]
              exact hbs v2 (List.mem_of_getElem? hv)
      · rintro σ H6 ⟨c6, q, as, v, rfl, S6, X6, st6, nq0, hq6, cq6, nqb, has, hlen, hb6, cb6⟩
        walk_at "lw"
        refine if2 (fun h1 => ?_) (fun h1 => ?_)
        · walk_at "lw"
          have hk : kd = .img := Kd.s_inj.mp (str_eq.mp h1)
          subst hk
          exact ⟨q, as, rfl, hq6, by omega, fun a ha => by rw [adr_len (has a ha)]; decide, fun H7 s7 => k _ c6 H7 (put_img has (by omega)) (S6.frame (I := fun _ => False) (Stp.same s7) (by decide)) (st6.trans (Stp.same s7))⟩
        · have hk : kd = .bun := by
            cases kd with
            | lay => exact absurd rfl hkd
            | img => exact absurd rfl h1
            | bun => rfl
          have mb := mb hk
          walk_at "lw"
          rw [List.length_map]
          refine g_ritR (by omega) (by omega) ?_
          refine lc_new (fun x y H => ∃ (i : Nat) (e : Addr × List Nat × List Nat), x = .int (i : Int) ∧ y = .ref e.1 ∧ nm3[i]? = some e.2.1 ∧ as[i]? = some e.2.2 ∧ H e.1 = some (.tup [strS e.2.1, strS e.2.2])) (fun x y H1 H2 tk ⟨i, e, e1, e2, e3, e4, e5⟩ => ⟨i, e, e1, e2, e3, e4, tk _ _ e5⟩) walk_rng (fun _ _ => trivial) (by rw [List.length_map, List.length_range]; omega) ?_ ?_
          · intro x hx H7 Rk s7 kk
            obtain ⟨j, hj, rfl⟩ := List.mem_map.mp hx
            have hj : j < as.length := by have := List.mem_range.mp hj; omega
            have hja := List.getElem?_eq_getElem hj
            generalize as[j]'hj = a at hja
            obtain ⟨nm, hnm⟩ : ∃ nm, nm3[j]? = some nm := ⟨_, List.getElem?_eq_getElem (show j < 3 by omega)⟩
            walk_at "lw"
            refine kk _ rfl fun H8 R' s8 r => ?_
            walk_at "lw"
            refine g_klst (by show 3 ≤ 100; decide) fun nl H9 nn s9 hnl => ?_
            rw [nm3_eq] at hnl
            walk_at "lw"
            refine g_rix (SqL.of hnl) (atI_map (atI_nat hnm)) ?_
            walk_at "lw"
            refine g_rix (SqL.of (s9.at (s8.at hq6))) (atI_map (atI_nat hja)) ?_
            walk_at "lw"
            refine g_ktup (by show 2 ≤ 100; decide) fun u H10 nu s10 hu => ?_
            exact r (.ref u) H10 (s9.trans s10) ⟨j, (u, nm, a), rfl, rfl, hnm, hja, hu⟩
          · intro q2 ys H7 nq2 s7 hlen2 hR hq2
            rw [List.length_map, List.length_range] at hlen2
            obtain ⟨ps, rfl, hps⟩ := choose_list (F := fun e : Addr × List Nat × List Nat => V.ref e.1) (P := fun i e => nm3[i]? = some e.2.1 ∧ as[i]? = some e.2.2 ∧ H7 e.1 = some (.tup [strS e.2.1, strS e.2.2])) (ys := ys) (fun i y hy => by
              have hi : i < ys.length := (List.getElem?_eq_some_iff.mp hy).1
              obtain ⟨i', e, e1, e2, e3, e4, e5⟩ := hR i (V.int (i : Int)) y (by rw [List.getElem?_map, List.getElem?_range (by omega)]; rfl) hy
              have : i = i' := by have := V.int.inj e1; omega
              subst this
              exact ⟨e, e2, e3, e4, e5⟩)
            rw [List.length_map] at hlen2
            have hpl : ps.length = as.length := by omega
            have hnames : (ps.map (·.2)).map (·.1) = nm3.take as.length := by
              refine List.ext_getElem? fun i => ?_
              rw [List.map_map, List.getElem?_map]
              by_cases hi : i < ps.length
              · have h1 := List.getElem?_eq_getElem hi
                rw [h1, List.getElem?_take_of_lt (by omega)]
                exact (hps i _ h1).1.symm
              · rw [List.getElem?_eq_none (by omega), List.getElem?_eq_none (by rw [List.length_take]; omega)]
                rfl
            have W : WFB (ps.map (·.2)) := by
              refine ⟨fun e he => ?_, by rw [hnames]; exact nm3_nd _, fun z => ?_, by rw [List.length_map]; omega⟩
              · obtain ⟨z, hz, rfl⟩ := List.mem_map.mp he
                obtain ⟨i, hi⟩ := List.getElem?_of_mem hz
                obtain ⟨h1, h2, _⟩ := hps i z hi
                exact ⟨nm3_pl _ (List.mem_of_getElem? h1), has _ (List.mem_of_getElem? h2)⟩
              · have := congrArg List.length z
                rw [List.length_map] at this
                simp at this
                subst this
                simp at hpl
                omega
            subst hk
            walk_at "lw"
            refine ⟨q2, ps, rfl, hq2, fun e he => ?_, by omega, fun e he => ?_, fun H8 s8 => k _ c6 H8 (put_bun W) (S6.frame (I := fun _ => False) (Stp.same (s7.trans s8)) (by decide)) (st6.trans (Stp.same (s7.trans s8)))⟩
            · obtain ⟨i, hi⟩ := List.getElem?_of_mem he
              exact (hps i e hi).2.2
            · obtain ⟨i, hi⟩ := List.getElem?_of_mem he
              obtain ⟨h1, h2, _⟩ := hps i e hi
              have a1 := adr_len (has _ (List.mem_of_getElem? h2))
              have a2 : ∀ p ∈ nm3, p.length ≤ 10 := by decide
              have := a2 _ (List.mem_of_getElem? h1)
              omega
end
end Lw

/-! ## tuples of ints and texts -/
namespace Lw
open PySem L2
/-- the data of a body -/
def dK : Key → PyData
  | .inl i => .int i
  | .inr x => .str x
theorem dp_key {K : PySem.W.Frag} {H : Hp} : ∀ k : Key, Dp K H (kV k) (dK k)
  | .inl i => .int i
  | .inr x => .str x
theorem dp_keys {K : PySem.W.Frag} {H : Hp} : ∀ b : List Key, DpAll K H (b.map kV) (b.map dK)
  | [] => .nil
  | k :: b => .cons (dp_key k) (dp_keys b)
theorem dp_body {K : PySem.W.Frag} {H : Hp} {t : Addr} {b : List Key} (h : H t = some (.tup (b.map kV))) : Dp K H (.ref t) (.tuple (b.map dK)) := .tup (SqT.of h) (dp_keys b)
def OkB (b : List Key) : Prop := ∀ x, (Sum.inr x : Key) ∈ b → PyData.strOk x = true
theorem sh_all : ∀ b : List Key, OkB b → PyData.canLayAll0 (b.map dK) = true ∧ PyData.depthAll (b.map dK) = 0
  | [], _ => ⟨rfl, rfl⟩
  | k :: b, h => by
    obtain ⟨h1, h2⟩ := sh_all b fun x hx => h x (List.mem_cons_of_mem _ hx)
    cases k with
    | inl i => exact ⟨by simpa [PyData.canLayAll0, dK, PyData.canLay0] using h1, by simpa [PyData.depthAll, dK, PyData.depth] using h2⟩
    | inr x => exact ⟨by simpa [PyData.canLayAll0, dK, PyData.canLay0, h x (List.mem_cons_self)] using h1, by simpa [PyData.depthAll, dK, PyData.depth] using h2⟩
theorem sh_body {b : List Key} (h : OkB b) : SeqAt.shaped (.tuple (b.map dK)) = true := by
  obtain ⟨h1, h2⟩ := sh_all b h
  unfold SeqAt.shaped
  rw [Bool.and_eq_true, decide_eq_true_eq]
  exact ⟨h1, by simp only [PyData.depth]; omega⟩
theorem okT {l : List Nat} (h : ∀ c ∈ l, c < 0x110000) : PyData.strOk (SX.S l) = true := by
  unfold PyData.strOk
  rw [← Array.all_toList, List.all_eq_true]
  intro c hc
  exact decide_eq_true (h c hc)
theorem okT' {l : List Nat} (h : PyData.strOk (SX.S l) = true) : ∀ c ∈ l, c < 0x110000 := by
  unfold PyData.strOk at h
  rw [← Array.all_toList, List.all_eq_true] at h
  intro c hc
  exact of_decide_eq_true (h c hc)
theorem eqv_key (a b : Key) : PyData.eqv (dK a) (dK b) = decide (a = b) := by
  cases a <;> cases b
  · rename_i i j
    show (i == j) = _
    rw [Bool.eq_iff_iff, beq_iff_eq, decide_eq_true_eq]
    exact ⟨fun h => by rw [h], fun h => Sum.inl.inj h⟩
  · show false = _
    exact (decide_eq_false fun h => by cases h).symm
  · show false = _
    exact (decide_eq_false fun h => by cases h).symm
  · rename_i i j
    show (i == j) = _
    rw [Bool.eq_iff_iff, beq_iff_eq, decide_eq_true_eq]
    exact ⟨fun h => by rw [h], fun h => Sum.inr.inj h⟩
theorem eqv_keys : ∀ a b : List Key, PyData.eqvAll (a.map dK) (b.map dK) = decide (a = b)
  | [], [] => rfl
  | [], _ :: _ => rfl
  | _ :: _, [] => rfl
  | x :: a, y :: b => by
    show (PyData.eqv (dK x) (dK y) && PyData.eqvAll (a.map dK) (b.map dK)) = _
    rw [eqv_key, eqv_keys a b, Bool.eq_iff_iff, Bool.and_eq_true, decide_eq_true_eq, decide_eq_true_eq, decide_eq_true_eq, List.cons.injEq]
theorem eqv_tup (a b : List Key) : PyData.eqv (.tuple (a.map dK)) (.tuple (b.map dK)) = decide (a = b) := eqv_keys a b
section
variable {H : Hp} {K : PySem.W.Frag} {Q : VK}
theorem g_reqK {t u : Addr} {a b : List Key} (ht : H t = some (.tup (a.map kV))) (hu : H u = some (.tup (b.map kV))) (oa : OkB a) (ob : OkB b) (k : Q (.bl (decide (a = b))) H) : rEqD K (.ref t) (.ref u) H Q :=
  ⟨_, _, dp_body ht, dp_body hu, sh_body oa, sh_body ob, by rw [eqv_tup]; exact k⟩
theorem g_rneK {t u : Addr} {a b : List Key} (ht : H t = some (.tup (a.map kV))) (hu : H u = some (.tup (b.map kV))) (oa : OkB a) (ob : OkB b) (k : Q (.bl (!decide (a = b))) H) : rNeD K (.ref t) (.ref u) H Q :=
  ⟨_, _, dp_body ht, dp_body hu, sh_body oa, sh_body ob, by rw [eqv_tup]; exact k⟩
/-- t == (..), the tuple just displayed -/
theorem g_keq {t : Addr} {a b : List Key} {xs : List V} (ht : H t = some (.tup (a.map kV))) (hx : xs = b.map kV) (hl : b.length ≤ 100) (oa : OkB a) (ob : OkB b) (k : ∀ H', Same H H' → Q (.bl (decide (a = b))) H') : kTup (fun y H2 => rEqD K (.ref t) y H2 Q) xs H := by
  subst hx
  exact g_ktup (by rw [List.length_map]; exact hl) fun p H' _ s h => g_reqK (s _ _ ht) h oa ob (k H' s)
end
theorem okb0 : OkB [] := fun _ h => nomatch h
theorem okbI {i : Int} {b : List Key} (h : OkB b) : OkB (.inl i :: b) := fun x hx => by
  rcases List.mem_cons.mp hx with z | z
  · cases z
  · exact h x z
theorem okbS {x : Str} {b : List Key} (hx : PyData.strOk x = true) (h : OkB b) : OkB (.inr x :: b) := fun y hy => by
  rcases List.mem_cons.mp hy with z | z
  · rw [Sum.inr.inj z]; exact hx
  · exact h y z
end Lw

/-! ## a request is drawn -/
namespace Lw
open PySem L2
open PyProof.Rows (envOfC sortedS)
/-- what a key may be -/
def KS : Key → Prop
  | .inl i => i.natAbs < 1000000000
  | .inr x => PyData.strOk x = true ∧ x.length ≤ 10000
def RpS (b : List Key) : Prop := ∀ k ∈ b, KS k
theorem rps0 : RpS [] := fun _ h => nomatch h
theorem rpsI {i : Int} {b : List Key} (hi : i.natAbs < 1000000000) (h : RpS b) : RpS (.inl i :: b) := fun k hk => by
  rcases List.mem_cons.mp hk with z | z
  · rw [z]; exact hi
  · exact h k z
theorem rpsS {x : Str} {b : List Key} (hx : PyData.strOk x = true ∧ x.length ≤ 10000) (h : RpS b) : RpS (.inr x :: b) := fun k hk => by
  rcases List.mem_cons.mp hk with z | z
  · rw [z]; exact hx
  · exact h k z
theorem RpS.okb {b : List Key} (h : RpS b) : OkB b := fun x hx => (h _ hx).1
theorem adr_S2 {a : List Nat} (h : isAdr a = true) : PyData.strOk (SX.S a) = true ∧ (SX.S a).length ≤ 10000 := ⟨okS (adr_okC h), by rw [SX.S_len, adr_len h]; decide⟩
theorem Kd.s2 (w : Kd) : PyData.strOk w.s = true ∧ w.s.length ≤ 10000 := by cases w <;> decide +kernel
def spLReq : Sp := fun vs H Q _ => ∃ (c : Addr → Nat) (S M : Addr) (s : Rg), vs = [.ref S, .ref M] ∧ StateAt c H S ∧ MoAt c H M s ∧ RWf s ∧ KOk s.ks ∧ s.ks.length < 64 ∧ 0 ≤ s.n ∧ s.n ≤ 1000 ∧ 0 ≤ s.un ∧ s.un ≤ 1000 ∧
  ∀ (q : Rq) (t : Addr) (c' : Addr → Nat) (H' : Hp), q.LOk → RpS q.b → StateAt c' H' S → Stp (fun i => i = 0) c c' H H' → H' t = some (.tup (q.b.map kV)) → Q (.ref t) H'
theorem take_ix {K : PySem.W.Frag} {c : Addr → Nat} {S q : Addr} {H H1 : Hp} {xs : List V} {n : Nat} {Q : VK} (S0 : StateAt c H S) (nq : H q = none) (s : Same H H1) (hq : H1 q = some (.lst xs)) (hn : xs.length = n) (h0 : 0 < n) (h1 : n ≤ 1000)
    (k : ∀ (j : Nat) (v : V) (c' : Addr → Nat) (H' : Hp), xs[j]? = some v → StateAt c' H' S → Stp (fun i => i = 0) c c' H H' → Q v H') : spTake ([.ref S, .int (n : Int)] ++ []) H1 (fun y H2 => rIxL K (.ref q) y H2 Q) E0 := by
  have st1 : Stp (fun _ => False) c (Stp.paint c q 9) H H1 := L2x_sameN s nq
  refine ⟨Stp.paint c q 9, S, (n : Int), rfl, S0.frame st1 (by decide), by omega, by omega, fun r c2 H2 r0 r1 S2 st2 => ?_⟩
  obtain ⟨v, hv, hat⟩ := at_in (xs := xs) (i := r) r0 (by omega)
  exact g_rix (SqL.of (st2.keep _ _ hq (by rw [Stp.paint_same]; decide))) hat (k r.toNat v c2 H2 hv S2 ((st1.mono fun i z => z.elim).trans st2))
section
variable {P : Program} {w : World} {K : PySem.W.Frag} {mg : Str → Option Value} {base : Heap} {C_Claims C_Collector C_Store C_Uploads C_Registry C_Refused C_Malformed a_KINDS a_BELOW a_CLAIMED : Addr}
theorem ok__law_request (T : Txt w K mg C_Claims C_Collector C_Store C_Uploads C_Registry C_Refused C_Malformed a_KINDS a_BELOW a_CLAIMED) : Cal P w K mg base 5 "_law_request" spLReq := by
  have c__law_take : Cal P w K mg base 1 "_law_take" spTake := ok__law_take T
  have c__law_text : Cal P w K mg base 2 "_law_text" spText := ok__law_text T
  have c__law_address : Cal P w K mg base 3 "_law_address" spLAdr := ok__law_address T
  have c__law_text_of : Cal P w K mg base 4 "_law_text_of" spLTx := ok__law_text_of T
  have c_address_of : Cal P w K mg base 1 "address_of" spAddr := ok_address_of T
  refine cal_mk T.d__law_request sc__law_request (fun vs H Q E h => ?_) (fun f cdv A outer s H vs Q E hr h => ?_)
  · obtain ⟨c, S, M, s, rfl, _⟩ := h
    rfl
  · obtain ⟨c, S, M, s', rfl, S0, X0, wf, ko, hl, hn0, hn1, hu0, hu1, k⟩ := h
    have hu := hu_of hr
    refine ⟨_, (pss_cons (ps_set (i := 2) sc__law_request.nd rfl (by first | exact Or.inl rfl | exact Or.inr rfl) (pe_c c__law_take hr (by first | decide | omega) rfl (pa_cons (pv 0) (pa_cons (pe_int) pa_nil))))
      (pss_cons (ps_set (i := 3) sc__law_request.nd rfl (by first | exact Or.inl rfl | exact Or.inr rfl) (pe_op op_sub (pe_dget hu (pv 1) (pe_str) (fun _ _ => rfl)) (pe_ix ix_list (pe_lst (pa_cons (pe_int) (pa_cons (pe_int) (pa_cons (pe_int) (pa_cons (pe_int) (pa_cons (pe_int) pa_nil)))))) (pe_c c__law_take hr (by first | decide | omega) rfl (pa_cons (pv 0) (pa_cons (pe_int) pa_nil))) (fun _ _ => rfl))))
      (pss_cons (ps_set (i := 4) sc__law_request.nd rfl (by first | exact Or.inl rfl | exact Or.inr rfl) (pe_op op_sub (pe_dget hu (pv 1) (pe_str) (fun _ _ => rfl)) (pe_ix ix_list (pe_lst (pa_cons (pe_int) (pa_cons (pe_int) (pa_cons (pe_int) (pa_cons (pe_int) (pa_cons (pe_int) pa_nil)))))) (pe_c c__law_take hr (by first | decide | omega) rfl (pa_cons (pv 0) (pa_cons (pe_int) pa_nil))) (fun _ _ => rfl))))
      (pss_cons (ps_set (i := 5) sc__law_request.nd rfl (by first | exact Or.inl rfl | exact Or.inr rfl) (pe_ix ix_list (pe_lst (pa_cons (pe_str) (pa_cons (pe_str) pa_nil))) (pe_c c__law_take hr (by first | decide | omega) rfl (pa_cons (pv 0) (pa_cons (pe_int) pa_nil))) (fun _ _ => rfl)))
      (pss_cons (ps_if (pt_cmpR op_lt (pv 2) (pe_int) (nomark _)) (pss_one (ps_ret (pe_ix ix_list (pe_lst (pa_cons (pe_tup (pa_cons (pe_str) pa_nil)) (pa_cons (pe_tup (pa_cons (pe_str) (pa_cons (pv 3) pa_nil))) pa_nil))) (pv 2) (fun _ _ => rfl)))) pss_nil)
      (pss_cons (ps_if (pt_cmpR op_lt (pv 2) (pe_int) (nomark _)) (pss_cons (ps_set (i := 6) sc__law_request.nd rfl (by first | exact Or.inl rfl | exact Or.inr rfl) (pe_op op_add (pe_callB call_len_str' (by rfl) T.n_len (by decide +kernel) (pa_cons (pe_dget2 hu (pe_dget hu (pv 1) (pe_str) (fun _ _ => rfl)) (pv 4) (pe_str) ⟨rfl, by rfl, rfl, rfl⟩) pa_nil)) (pe_ix ix_list (pe_lst (pa_cons (pe_int) (pa_cons (pe_int) (pa_cons (pe_int) (pa_cons (pe_int) pa_nil))))) (pe_c c__law_take hr (by first | decide | omega) rfl (pa_cons (pv 0) (pa_cons (pe_int) pa_nil))) (fun _ _ => rfl))))
      (pss_one (ps_ret (pe_tup (pa_cons (pe_str) (pa_cons (pv 4) (pa_cons (pv 6) (pa_cons (pe_c c__law_text hr (by first | decide | omega) rfl (pa_cons (pv 0) (pa_cons (pe_int) pa_nil))) pa_nil)))))))) pss_nil)
      (pss_cons (ps_if (pt_cmpR op_lt (pv 2) (pe_int) (nomark _)) (pss_cons (ps_set (i := 7) sc__law_request.nd rfl (by first | exact Or.inl rfl | exact Or.inr rfl) (pe_c c__law_address hr (by first | decide | omega) rfl (pa_cons (pv 0) (pa_cons (pv 1) pa_nil))))
      (pss_cons (ps_if (pt_cmpR op_gt (pe_c c__law_take hr (by first | decide | omega) rfl (pa_cons (pv 0) (pa_cons (pe_int) pa_nil))) (pe_int) (nomark _)) (pss_one (ps_set (i := 7) sc__law_request.nd rfl (by first | exact Or.inl rfl | exact Or.inr rfl) (pe_c c_address_of hr (by first | decide | omega) rfl (pa_cons (pe_str) (pa_cons (pe_dget2 hu (pe_dget hu (pv 1) (pe_str) (fun _ _ => rfl)) (pv 4) (pe_str) ⟨rfl, by rfl, rfl, rfl⟩) pa_nil))))) pss_nil)
      (pss_one (ps_ret (pe_tup (pa_cons (pe_str) (pa_cons (pv 4) (pa_cons (pv 3) (pa_cons (pe_str) (pa_cons (pv 7) pa_nil)))))))))) pss_nil)
      (pss_cons (ps_if (pt_cmpR op_eq (pv 2) (pe_int) (nomark _)) (pss_one (ps_ret (pe_tup (pa_cons (pe_str) (pa_cons (pv 3) (pa_cons (pe_c c__law_address hr (by first | decide | omega) rfl (pa_cons (pv 0) (pa_cons (pv 1) pa_nil))) pa_nil)))))) pss_nil)
      (pss_cons (ps_if (pt_cmpR op_lt (pv 2) (pe_int) (nomark _)) (pss_cons (ps_set (i := 8) sc__law_request.nd rfl (by first | exact Or.inl rfl | exact Or.inr rfl) (pe_ix ix_list (pe_lst (pa_cons (pe_str) (pa_cons (pe_str) (pa_cons (pe_str) pa_nil)))) (pe_op op_sub (pv 2) (pe_int)) (fun _ _ => rfl)))
      (pss_one (ps_ret (pe_tup (pa_cons (pe_str) (pa_cons (pv 3) (pa_cons (pv 8) (pa_cons (pe_c c__law_text_of hr (by first | decide | omega) rfl (pa_cons (pv 0) (pa_cons (pv 1) (pa_cons (pv 8) pa_nil)))) pa_nil)))))))) pss_nil)
      (pss_cons (ps_if (pt_cmpR op_lt (pv 2) (pe_int) (nomark _)) (pss_one (ps_ret (pe_tup (pa_cons (pe_str) (pa_cons (pv 3) (pa_cons (pv 5) (pa_cons (pe_c c__law_address hr (by first | decide | omega) rfl (pa_cons (pv 0) (pa_cons (pv 1) pa_nil))) pa_nil))))))) pss_nil)
      (pss_cons (ps_if (pt_cmpR op_eq (pv 2) (pe_int) (nomark _)) (pss_one (ps_ret (pe_ix ix_list (pe_lst (pa_cons (pe_tup (pa_cons (pe_str) (pa_cons (pv 5) pa_nil))) (pa_cons (pe_tup (pa_cons (pe_str) (pa_cons (pv 5) pa_nil))) pa_nil))) (pe_op op_fdiv (pe_c c__law_take hr (by first | decide | omega) rfl (pa_cons (pv 0) (pa_cons (pe_int) pa_nil))) (pe_int)) (fun _ _ => rfl)))) pss_nil)
      (pss_cons (ps_if (pt_cmpR op_eq (pv 2) (pe_int) (nomark _)) (pss_one (ps_ret (pe_tup (pa_cons (pe_str) (pa_cons (pe_c c__law_address hr (by first | decide | omega) rfl (pa_cons (pv 0) (pa_cons (pv 1) pa_nil))) (pa_cons (pe_c c__law_take hr (by first | decide | omega) rfl (pa_cons (pv 0) (pa_cons (pe_int) pa_nil))) (pa_cons (pe_op op_add (pe_int) (pe_c c__law_take hr (by first | decide | omega) rfl (pa_cons (pv 0) (pa_cons (pe_int) pa_nil)))) pa_nil))))))) pss_nil)
      (pss_one (ps_ret (pe_ix ix_list (pe_lst (pa_cons (pe_tup (pa_cons (pe_str) (pa_cons (pv 3) pa_nil))) (pa_cons (pe_tup (pa_cons (pe_str) (pa_cons (pv 3) pa_nil))) pa_nil))) (pe_op op_fdiv (pe_c c__law_take hr (by first | decide | omega) rfl (pa_cons (pv 0) (pa_cons (pe_int) pa_nil))) (pe_int)) (fun _ _ => rfl)))))))))))))))), ?_⟩
    walk_at "lw"
    refine ⟨c, S, 16, rfl, S0, by decide, by decide, fun kd c1 H1 kd0 kd1 S1 st1 => ?_⟩
    obtain ⟨bd, nd, pd, td, A', X⟩ := X0.draw st1
    walk_at "lw"
    refine g_rdgetS (.of X.hm) mdl_opened ?_
    clear X
    walk_at "lw"
    refine g_klst (by show 5 ≤ 100; decide) fun q H2 nq s2 hq => ?_
    walk_at "lw"
    refine take_ix (n := 5) S1 nq s2 hq rfl (by decide) (by decide) fun j v c2 H2 hj S2 st2 => ?_
    obtain ⟨d1, rfl, d10, d11⟩ : ∃ d : Int, v = .int d ∧ 0 ≤ d ∧ d ≤ 2 := by
      have : ∀ x ∈ ([.int 0, .int 0, .int 0, .int 1, .int 2] : List V), ∃ d : Int, x = .int d ∧ 0 ≤ d ∧ d ≤ 2 := by simp
      exact this v (List.mem_of_getElem? hj)
    clear hj hq s2 nq
    have st2 := st1.trans st2
    clear st1 S1
    walk_at "lw"
    obtain ⟨bd, nd, pd, td, A', X⟩ := X0.draw st2
    refine g_rdgetS (.of X.hm) mdl_last ?_
    clear X
    walk_at "lw"
    refine g_klst (by show 5 ≤ 100; decide) fun q H3 nq s3 hq => ?_
    walk_at "lw"
    refine take_ix (n := 5) S2 nq s3 hq rfl (by decide) (by decide) fun j v c3 H3 hj S3 st3 => ?_
    obtain ⟨d2, rfl, d20, d21⟩ : ∃ d : Int, v = .int d ∧ 0 ≤ d ∧ d ≤ 2 := by
      have : ∀ x ∈ ([.int 0, .int 0, .int 0, .int 1, .int 2] : List V), ∃ d : Int, x = .int d ∧ 0 ≤ d ∧ d ≤ 2 := by simp
      exact this v (List.mem_of_getElem? hj)
    clear hj hq s3 nq
    have st3 := st2.trans st3
    clear st2 S2
    walk_at "lw"
    refine g_klst (by show 2 ≤ 100; decide) fun q H4 nq s4 hq => ?_
    walk_at "lw"
    refine take_ix (n := 2) S3 nq s4 hq rfl (by decide) (by decide) fun j v c4 H4 hj S4 st4 => ?_
    obtain ⟨nm, rfl, hnm⟩ : ∃ nm : Str, v = .str nm ∧ (PyData.strOk nm = true ∧ nm.length ≤ 10000) := by
      have : ∀ x ∈ ([.str "app", .str "web"] : List V), ∃ nm : Str, x = .str nm ∧ (PyData.strOk nm = true ∧ nm.length ≤ 10000) := by
        intro x hx
        rcases List.mem_cons.mp hx with z | z
        · exact ⟨_, z, by decide +kernel⟩
        · exact ⟨_, List.mem_singleton.mp z, by decide +kernel⟩
      exact this v (List.mem_of_getElem? hj)
    clear hj hq s4 nq
    have st := st3.trans st4
    clear st3 S3 st4
    have adr : ∀ (c5 : Addr → Nat) (H5 : Hp) (Q5 : VK), StateAt c5 H5 S → Stp (fun i => i = 0) c c5 H H5 → (∀ (a : List Nat) (c6 : Addr → Nat) (H6 : Hp), isAdr a = true → (PyData.strOk (SX.S a) = true ∧ (SX.S a).length ≤ 10000) → StateAt c6 H6 S → Stp (fun i => i = 0) c c6 H H6 → Q5 (.str (SX.S a)) H6) → spLAdr [.ref S, .ref M] H5 Q5 E0 := fun c5 H5 Q5 S5 st5 kk =>
      ⟨c5, S, M, s', rfl, S5, X0.draw st5, ko, hl, fun a c6 H6 ha S6 st6 => kk a c6 H6 ha (adr_S2 ha) S6 (st5.trans st6)⟩
    have hcl : (s'.n - d1).natAbs < 1000000000 := by omega
    have hup : (s'.un - d2).natAbs < 1000000000 := by omega
    generalize s'.n - d1 = cl at hcl ⊢
    generalize s'.un - d2 = up at hup ⊢
    walk_at "lw"
    refine if2 (fun h0 => ?_) (fun h0 => ?_)
    · walk_at "lw"
      refine g_ktup (by show 1 ≤ 100; decide) fun u0 H5 nu0 s5 hu0 => ?_
      walk_at "lw"
      refine g_ktup (by show 2 ≤ 100; decide) fun u1 H6 nu1 s6 hu1 => ?_
      walk_at "lw"
      refine g_klst (by show 2 ≤ 100; decide) fun q H7 nq s7 hq => ?_
      walk_at "lw"
      have sT := s5.trans (s6.trans s7)
      have hk : kd = 0 ∨ kd = 1 := by omega
      rcases hk with rfl | rfl
      · refine g_rix (SqL.of hq) (v := .ref u0) rfl ?_
        exact k .opn u0 c4 H7 trivial (rpsS (by decide +kernel) rps0) (S4.frame (I := fun _ => False) (Stp.same sT) (by decide)) (st.trans (Stp.same sT)) (s7.at (s6.at hu0))
      · refine g_rix (SqL.of hq) (v := .ref u1) rfl ?_
        exact k (.start cl) u1 c4 H7 trivial (rpsS (by decide +kernel) (rpsI (by omega) rps0)) (S4.frame (I := fun _ => False) (Stp.same sT) (by decide)) (st.trans (Stp.same sT)) (s7.at hu1)
    walk_at "lw"
    refine if2 (fun h1 => ?_) (fun h1 => ?_)
    · walk_at "lw"
      obtain ⟨bd, nd, pd, td, A', X⟩ := X0.draw st
      refine g_dget2 ?_
      walk_at "lw"
      refine g_rdgetS (.of X.hm) mdl_texts ?_
      refine ⟨td, rfl, .inl ⟨_, .of X.ht⟩, ?_⟩
      walk_at "lw"
      refine ⟨_, .inl ⟨_, kI up, .of X.ht, rfl, rfl⟩, ?_⟩
      obtain ⟨l, hll, e⟩ : ∃ l : List Nat, l.length ≤ 9000 ∧ (valV (mkD s'.ts fun i => V.str (SX.S (s'.X i))) (kI up)).getD (.str "") = .str (SX.S l) := by
        rw [valV_mkD]
        split
        · exact ⟨_, (wf.Xl up).1, rfl⟩
        · exact ⟨[], by decide, by rw [← empty_S]; rfl⟩
      rw [e]
      clear X e
      walk_at "lw"
      refine g_lenT (by rw [SX.S_len]; exact Nat.le_trans hll (by decide)) ?_
      rw [SX.S_len]
      walk_at "lw"
      refine g_klst (by show 4 ≤ 100; decide) fun q H5 nq s5 hq => ?_
      walk_at "lw"
      refine take_ix (n := 4) S4 nq s5 hq rfl (by decide) (by decide) fun j v c6 H6 hj S6 st6 => ?_
      obtain ⟨d3, rfl, d30, d31⟩ : ∃ d : Int, v = .int d ∧ 0 ≤ d ∧ d ≤ 2 := by
        have : ∀ x ∈ ([.int 0, .int 0, .int 0, .int 1] : List V), ∃ d : Int, x = .int d ∧ 0 ≤ d ∧ d ≤ 2 := by simp
        exact this v (List.mem_of_getElem? hj)
      have st := st.trans st6
      walk_at "lw"
      refine ⟨c6, S, 3, rfl, S6, by decide, by decide, fun p c7 H7 hpl hpx S7 st7 => ?_⟩
      walk_at "lw"
      refine g_ktup (by show 4 ≤ 100; decide) fun t H8 nt s8 ht => ?_
      walk_at "lw"
      have hpo := signs8_okC hpx
      exact k (.part up _ p) t c7 H8 ⟨hpo, by omega⟩ (rpsS (by decide +kernel) (rpsI (by omega) (rpsI (by omega) (rpsS ⟨okS hpo, by rw [SX.S_len]; omega⟩ rps0)))) (S7.frame (I := fun _ => False) (Stp.same s8) (by decide)) ((st.trans st7).trans (Stp.same s8)) ht
    walk_at "lw"
    refine if2 (fun h2 => ?_) (fun h2 => ?_)
    · walk_at "lw"
      refine adr c4 H4 _ S4 st fun a c5 H5 ha hao S5 st5 => ?_
      walk_at "lw"
      refine ⟨c5, S, 4, rfl, S5, by decide, by decide, fun r c6 H6 r0 r1 S6 st6 => ?_⟩
      have st6 := st5.trans st6
      walk_at "lw"
      refine if2 (fun h3 => ?_) (fun h3 => ?_)
      · walk_at "lw"
        obtain ⟨bd, nd, pd, td, A', X⟩ := X0.draw st6
        refine g_dget2 ?_
        walk_at "lw"
        refine g_rdgetS (.of X.hm) mdl_texts ?_
        refine ⟨td, rfl, .inl ⟨_, .of X.ht⟩, ?_⟩
        walk_at "lw"
        refine ⟨_, .inl ⟨_, kI up, .of X.ht, rfl, rfl⟩, ?_⟩
        obtain ⟨l, e⟩ : ∃ l : List Nat, (valV (mkD s'.ts fun i => V.str (SX.S (s'.X i))) (kI up)).getD (.str "a") = .str (SX.S l) := by
          rw [valV_mkD]
          split
          · exact ⟨_, rfl⟩
          · exact ⟨[97], by rw [show SX.S [97] = ("a" : Str) by decide +kernel]; rfl⟩
        rw [e]
        clear X e
        walk_at "lw"
        refine ⟨Kd.lay.s, l, rfl, Kd.s_kind _, ?_⟩
        walk_at "lw"
        refine g_ktup (by show 5 ≤ 100; decide) fun t H8 nt s8 ht => ?_
        walk_at "lw"
        exact k (.fin up cl (SX.S (adrL Kd.lay.s l))) t c6 H8 trivial (rpsS (by decide +kernel) (rpsI (by omega) (rpsI (by omega) (rpsS (by decide +kernel) (rpsS (adr_S2 (adr_is _ _)) rps0))))) (S6.frame (I := fun _ => False) (Stp.same s8) (by decide)) (st6.trans (Stp.same s8)) ht
      · walk_at "lw"
        refine g_ktup (by show 5 ≤ 100; decide) fun t H8 nt s8 ht => ?_
        walk_at "lw"
        exact k (.fin up cl (SX.S a)) t c6 H8 trivial (rpsS (by decide +kernel) (rpsI (by omega) (rpsI (by omega) (rpsS (by decide +kernel) (rpsS hao rps0))))) (S6.frame (I := fun _ => False) (Stp.same s8) (by decide)) (st6.trans (Stp.same s8)) ht
    walk_at "lw"
    refine if2 (fun h3 => ?_) (fun h3 => ?_)
    · walk_at "lw"
      refine adr c4 H4 _ S4 st fun a c5 H5 ha hao S5 st5 => ?_
      walk_at "lw"
      refine g_ktup (by show 3 ≤ 100; decide) fun t H8 nt s8 ht => ?_
      walk_at "lw"
      exact k (.has cl (SX.S a)) t c5 H8 trivial (rpsS (by decide +kernel) (rpsI (by omega) (rpsS hao rps0))) (S5.frame (I := fun _ => False) (Stp.same s8) (by decide)) (st5.trans (Stp.same s8)) ht
    have h3 : ¬ kd = 7 := fun z => h3 (by rw [z])
    walk_at "lw"
    refine if2 (fun h4 => ?_) (fun h4 => ?_)
    · walk_at "lw"
      refine g_klst (by show 3 ≤ 100; decide) fun q H5 nq s5 hq => ?_
      walk_at "lw"
      have hw : ∃ w : Kd, w ≠ .lay ∧ atI ([.str "image", .str "image", .str "bundle"] : List V) (kd - 8) = some (.str w.s) := by
        have hk : kd = 8 ∨ kd = 9 ∨ kd = 10 := by omega
        rcases hk with rfl | rfl | rfl
        · exact ⟨.img, by decide, rfl⟩
        · exact ⟨.img, by decide, rfl⟩
        · exact ⟨.bun, by decide, rfl⟩
      obtain ⟨w, hwl, hwa⟩ := hw
      refine g_rix (SqL.of hq) hwa ?_
      walk_at "lw"
      refine ⟨c4, S, M, s', w, rfl, S4.frame (I := fun _ => False) (Stp.same s5) (by decide), (X0.draw st).same s5, ko, hl, hwl, fun p c6 H6 hp S6 st6 => ?_⟩
      walk_at "lw"
      refine g_ktup (by show 4 ≤ 100; decide) fun t H8 nt s8 ht => ?_
      walk_at "lw"
      exact k (.put cl w p) t c6 H8 hp (rpsS (by decide +kernel) (rpsI (by omega) (rpsS w.s2 (rpsS ⟨okS hp.okc, by rw [SX.S_len]; exact hp.len⟩ rps0)))) (S6.frame (I := fun _ => False) (Stp.same s8) (by decide)) (((st.trans (Stp.same s5)).trans st6).trans (Stp.same s8)) ht
    walk_at "lw"
    refine if2 (fun h5 => ?_) (fun h5 => ?_)
    · walk_at "lw"
      refine adr c4 H4 _ S4 st fun a c5 H5 ha hao S5 st5 => ?_
      walk_at "lw"
      refine g_ktup (by show 4 ≤ 100; decide) fun t H8 nt s8 ht => ?_
      walk_at "lw"
      exact k (.name cl nm (SX.S a)) t c5 H8 trivial (rpsS (by decide +kernel) (rpsI (by omega) (rpsS hnm (rpsS hao rps0)))) (S5.frame (I := fun _ => False) (Stp.same s8) (by decide)) (st5.trans (Stp.same s8)) ht
    walk_at "lw"
    refine if2 (fun h6 => ?_) (fun h6 => ?_)
    · walk_at "lw"
      refine g_ktup (by show 2 ≤ 100; decide) fun u0 H5 nu0 s5 hu0 => ?_
      walk_at "lw"
      refine g_ktup (by show 2 ≤ 100; decide) fun u1 H6 nu1 s6 hu1 => ?_
      walk_at "lw"
      refine g_klst (by show 2 ≤ 100; decide) fun q H7 nq s7 hq => ?_
      walk_at "lw"
      have sT := s5.trans (s6.trans s7)
      have st7 : Stp (fun _ => False) c4 (Stp.paint c4 q 9) H4 H7 := (Stp.same (s5.trans s6)).trans (L2x_sameN s7 nq)
      refine ⟨Stp.paint c4 q 9, S, 4, rfl, S4.frame st7 (by decide), by decide, by decide, fun r c8 H8 r0 r1 S8 st8 => ?_⟩
      have hq8 := st8.keep _ _ hq (by rw [Stp.paint_same]; decide)
      have stT := (st.trans (st7.mono fun i z => z.elim)).trans st8
      walk_at "lw"
      have hk : r / 3 = 0 ∨ r / 3 = 1 := by omega
      rcases hk with e | e
      · refine g_rix (SqL.of hq8) (v := .ref u0) (by rw [e]; rfl) ?_
        exact k (.look nm) u0 c8 H8 trivial (rpsS (by decide +kernel) (rpsS hnm rps0)) S8 stT (st8.tup _ _ (s7.at (s6.at hu0)))
      · refine g_rix (SqL.of hq8) (v := .ref u1) (by rw [e]; rfl) ?_
        exact k (.drop nm) u1 c8 H8 trivial (rpsS (by decide +kernel) (rpsS hnm rps0)) S8 stT (st8.tup _ _ (s7.at hu1))
    have h6 : ¬ kd = 13 := fun z => h6 (by rw [z])
    walk_at "lw"
    refine if2 (fun h7 => ?_) (fun h7 => ?_)
    · walk_at "lw"
      refine adr c4 H4 _ S4 st fun a c5 H5 ha hao S5 st5 => ?_
      walk_at "lw"
      refine ⟨c5, S, 9, rfl, S5, by decide, by decide, fun i c6 H6 i0 i1 S6 st6 => ?_⟩
      walk_at "lw"
      refine ⟨c6, S, 9, rfl, S6, by decide, by decide, fun m c7 H7 m0 m1 S7 st7 => ?_⟩
      walk_at "lw"
      refine g_ktup (by show 4 ≤ 100; decide) fun t H8 nt s8 ht => ?_
      walk_at "lw"
      exact k (.get (SX.S a) i (1 + m)) t c7 H8 trivial (rpsS (by decide +kernel) (rpsS hao (rpsI (by omega) (rpsI (by omega) rps0)))) (S7.frame (I := fun _ => False) (Stp.same s8) (by decide)) (((st5.trans st6).trans st7).trans (Stp.same s8)) ht
    · walk_at "lw"
      refine g_ktup (by show 2 ≤ 100; decide) fun u0 H5 nu0 s5 hu0 => ?_
      walk_at "lw"
      refine g_ktup (by show 2 ≤ 100; decide) fun u1 H6 nu1 s6 hu1 => ?_
      walk_at "lw"
      refine g_klst (by show 2 ≤ 100; decide) fun q H7 nq s7 hq => ?_
      walk_at "lw"
      have st7 : Stp (fun _ => False) c4 (Stp.paint c4 q 9) H4 H7 := (Stp.same (s5.trans s6)).trans (L2x_sameN s7 nq)
      refine ⟨Stp.paint c4 q 9, S, 4, rfl, S4.frame st7 (by decide), by decide, by decide, fun r c8 H8 r0 r1 S8 st8 => ?_⟩
      have hq8 := st8.keep _ _ hq (by rw [Stp.paint_same]; decide)
      have stT := (st.trans (st7.mono fun i z => z.elim)).trans st8
      walk_at "lw"
      have hk : r / 3 = 0 ∨ r / 3 = 1 := by omega
      rcases hk with e | e
      · refine g_rix (SqL.of hq8) (v := .ref u0) (by rw [e]; rfl) ?_
        exact k (.start cl) u0 c8 H8 trivial (rpsS (by decide +kernel) (rpsI (by omega) rps0)) S8 stT (st8.tup _ _ (s7.at (s6.at hu0)))
      · refine g_rix (SqL.of hq8) (v := .ref u1) (by rw [e]; rfl) ?_
        exact k (.close cl) u1 c8 H8 trivial (rpsS (by decide +kernel) (rpsI (by omega) rps0)) S8 stT (st8.tup _ _ (s7.at hu1))
end
end Lw

/-! ## the law's roots -/
namespace Lw
open PySem L2
open PyProof.Rows (envOfC sortedS)
def spLRoots : Sp := fun vs H Q _ => ∃ (c : Addr → Nat) (M : Addr) (s : Rg) (D : List Str), vs = [.ref M] ∧ MoAt c H M s ∧ s.cs.length ≤ 55 ∧ (∀ i, (s.L i).length ≤ 55) ∧ s.nk.length ≤ 55 ∧ (∀ y, isRoot s y → y ∈ D) ∧ D.length < 64 ∧
  ∀ (r : Addr) (ys : List Str) H', ys.Nodup → sortedS ys = true → (∀ y, y ∈ ys ↔ isRoot s y) → Same H H' → H' r = some (.lst (ys.map V.str)) → Q (.ref r) H'
section
variable {P : Program} {w : World} {K : PySem.W.Frag} {mg : Str → Option Value} {base : Heap} {C_Claims C_Collector C_Store C_Uploads C_Registry C_Refused C_Malformed a_KINDS a_BELOW a_CLAIMED : Addr}
theorem ok__law_roots (T : Txt w K mg C_Claims C_Collector C_Store C_Uploads C_Registry C_Refused C_Malformed a_KINDS a_BELOW a_CLAIMED) : Cal P w K mg base 1 "_law_roots" spLRoots := by
  refine cal_mk T.d__law_roots sc__law_roots (fun vs H Q E h => ?_) (fun f cdv A outer s H vs Q E hr h => ?_)
  · obtain ⟨c, M, s, D, rfl, _⟩ := h
    rfl
  · obtain ⟨c, M, s', D, rfl, ⟨bd, nd, pd, td, A', X⟩, hcs, hL, hnk, hD, hDl, k⟩ := h
    have hu := hu_of hr
    refine ⟨_, (pss_cons (ps_lock (ps_setLc (i := 1) (own := [("_law_name", 3)]) (g := (gName 3)) (by rfl) sc__law_roots.nd rfl rfl (sw_true rfl rfl rfl (by decide +kernel)) (pi_keys (pe_dget hu (pv 0) (pe_str) (fun _ _ => rfl))) (blkOk_by (own := [("_law_name", 3)]) (N := n__law_roots) (sc := defScope s__law_roots) (by decide +kernel)) (fun _ _ _ _ _ => (pg_name (i := 3) sc__law_roots.nd rfl (by first | exact Or.inl rfl | exact Or.inr rfl))) (fun _ _ _ _ _ => pts_nil) (fun _ _ _ _ _ => (pe_dget hu (pe_dget hu (pv 0) (pe_str) (fun _ _ => rfl)) (pv 3) (fun _ _ => rfl)))))
      (pss_cons (ps_lock (ps_for PassesOwn.never rfl (pi_keys (pe_dget hu (pv 0) (pe_str) (fun _ _ => rfl))) (pg_name (i := 2) sc__law_roots.nd rfl (by first | exact Or.inl rfl | exact Or.inr rfl)) (pss_one (ps_set (i := 1) sc__law_roots.nd rfl (by first | exact Or.inl rfl | exact Or.inr rfl) (pe_op op_cat (pv 1) (pe_dget hu (pe_dget hu (pv 0) (pe_str) (fun _ _ => rfl)) (pv 2) (fun _ _ => rfl)))))))
      (pss_one (ps_ret (pe_callB (cr_sortedSS rfl) (by rfl) T.n_sorted (by decide +kernel) (pa_cons (pe_callTy (cr_setOfS rfl) (by rfl) T.n_set (by decide +kernel) (pa_cons (pv 1) pa_nil)) pa_nil)))))), ?_⟩
    walk_at "lw"
    refine g_lock X.hn fun od H1 n1 k1 => ?_
    have nMn : M ≠ nd := ne_of_col (c := c) (by rw [X.cm, X.cn]; decide)
    have m1 : H1 M = _ := (k1 M nMn).trans X.hm
    walk_at "lw"
    refine g_rdgetS (.of m1) mdl_names ?_
    walk_at "lw"
    refine g_ritK n1 ?_
    refine lc_map (G := fun H' => H' nd = some (.frz od (.dK (mkS s'.nk fun a => .str (s'.N a))))) walk_ks (fun H' s => s.at n1) (by rw [mkS_kV, List.length_map]; omega) (fun _ => true) (fun v => match v with | .str x => .str (s'.N x) | _ => v) ?_ ?_
    · intro x hx H' R s3 kk
      rw [mkS_kV] at hx
      obtain ⟨a, ha, rfl⟩ := List.mem_map.mp hx
      walk_at "lw"
      refine kk _ rfl (fun H'' R s2 r => ?_) (fun hp' H'' R s2 r => ?_)
      · walk_at "lw"
        exact r
      · walk_at "lw"
        refine g_rdgetS (.of (s2.at m1)) mdl_names ?_
        walk_at "lw"
        refine g_rdgetS (.inr ⟨od, s2.at n1⟩) (by rw [valV_mkS, if_pos ha]) ?_
        exact r _ (Same.refl _)
    intro q H2 nq s2 hq
    rw [List.filter_eq_self.mpr (fun _ _ => rfl), mkS_kV, List.map_map] at hq
    have hq : H2 q = some (.lst ((s'.nk.map s'.N).map V.str)) := by rw [hq, List.map_map]; rfl
    walk_at "lw"
    refine ⟨s2.at n1, ?_⟩
    have nqn : q ≠ nd := (ne_of_none n1 nq).symm
    have sm : Same H (upd H2 nd (.dK (mkS s'.nk fun a => .str (s'.N a)))) := fun b o e => by
      by_cases z : b = nd
      · subst z
        rw [X.hn] at e
        cases e
        exact upd_same
      · rw [upd_ne z]
        exact s2.at (by rw [k1 b z]; exact e)
    have hq3 : (upd H2 nd (.dK (mkS s'.nk fun a => .str (s'.N a)))) q = some (.lst ((s'.nk.map s'.N).map V.str)) := by rw [upd_ne nqn]; exact hq
    generalize upd H2 nd (.dK (mkS s'.nk fun a => .str (s'.N a))) = H3 at sm hq3
    clear hq nq s2 n1 k1 m1
    have X3 := X.same sm
    walk_at "lw"
    refine g_lock X3.hp fun op H4 p4 k4 => ?_
    have nMp : M ≠ pd := ne_of_col (c := c) (by rw [X.cm, X.cp]; decide)
    have m4 : H4 M = _ := (k4 M nMp).trans X3.hm
    have hq4 : H4 q = _ := (k4 q (ne_of hq3 X3.hp (by intro z; cases z))).trans hq3
    have a4 : ∀ i ∈ s'.cs, H4 (A' i) = some (.lst ((s'.L i).map V.str)) := fun i hi => (k4 _ (ne_of (X3.ca i hi).2 X3.hp (by intro z; cases z))).trans (X3.ca i hi).2
    walk_at "lw"
    refine g_rdgetS (.of m4) mdl_pins ?_
    refine g_ritK p4 ?_
    have hfl : ∀ i, (((s'.cs.take i).flatMap s'.L).length : Nat) ≤ i * 55 := fun i => by
      rw [List.length_flatMap]
      have : ∀ (l : List Int), (l.map fun x => (s'.L x).length).sum ≤ l.length * 55 := by
        intro l
        induction l with
        | nil => exact Nat.zero_le _
        | cons y r ih =>
          rw [List.map_cons, List.sum_cons, List.length_cons]
          have := hL y
          omega
      refine Nat.le_trans (this _) ?_
      have := List.length_take_le i s'.cs
      omega
    refine for_at walk_ks (fun i σ H' => Same H4 H' ∧ ∃ (q : Addr) (v2 v3 : Option V), H' q = some (.lst ((s'.nk.map s'.N ++ (s'.cs.take i).flatMap s'.L).map V.str)) ∧ σ = [some (.ref M), some (.ref q), v2, v3]) ⟨Same.refl _, q, none, none, by rw [hq4]; simp, rfl⟩ (fun i σ H' h => h.1.at p4) ?_ ?_
    · rintro i yy σ H5 hyy ⟨s5, q5, v2, v3, hq5, rfl⟩
      rw [mkD_kV] at hyy
      obtain ⟨y, hy, rfl⟩ := map_at hyy
      have hym := List.mem_of_getElem? hy
      have hi : i < s'.cs.length := (List.getElem?_eq_some_iff.mp hy).1
      walk_at "lw"
      refine g_rdgetS (.of (s5.at m4)) mdl_pins ?_
      walk_at "lw"
      refine g_rdgetI (.inr ⟨op, s5.at p4⟩) (by rw [valV_mkD, if_pos hym]) ?_
      walk_at "lw"
      refine g_cat hq5 (s5.at (a4 y hym)) (by rw [List.length_map, List.length_map, List.length_append, List.length_map]; have := hfl i; have := hL y; omega) fun q6 H6 nq6 s6 hq6 => ?_
      walk_at "lw"
      refine ⟨s5.trans s6, q6, _, _, ?_, rfl⟩
      rw [hq6, take_ok hy, List.flatMap_append, ← List.append_assoc, List.map_append]
      simp
    · rintro σ H5 ⟨s5, q5, v2, v3, hq5, rfl⟩
      rw [mkD_kV, List.length_map, List.take_length] at hq5
      refine ⟨s5.at p4, ?_⟩
      have npq : q5 ≠ pd := ne_of hq5 (s5.at p4) (by intro z; cases z)
      have sm2 : Same H (upd H5 pd (.dK (mkD s'.cs fun i => .ref (A' i)))) := fun b o e => by
        by_cases z : b = pd
        · subst z
          rw [X.hp] at e
          cases e
          exact upd_same
        · rw [upd_ne z]
          exact s5.at (by rw [k4 b z]; exact sm.at e)
      have hq6 : (upd H5 pd (.dK (mkD s'.cs fun i => .ref (A' i)))) q5 = some (.lst ((s'.nk.map s'.N ++ s'.cs.flatMap s'.L).map V.str)) := by rw [upd_ne npq]; exact hq5
      generalize upd H5 pd (.dK (mkD s'.cs fun i => .ref (A' i))) = H6 at sm2 hq6
      have hfl2 := hfl s'.cs.length
      rw [List.take_length] at hfl2
      have hmem : ∀ y, y ∈ s'.nk.map s'.N ++ s'.cs.flatMap s'.L ↔ isRoot s' y := fun y => by
        rw [List.mem_append, List.mem_map, List.mem_flatMap]
        exact Or.comm
      walk_at "lw"
      refine ⟨q5, _, rfl, SqL.of hq6, by rw [List.length_append, List.length_map]; omega, fun a n hn na => ?_⟩
      walk_at "lw"
      refine ⟨a, _, n, rfl, upd_same, ⟨D, hDl, fun y hy => hD y ((hmem y).mp (of_decide_eq_true hy))⟩, fun ys p hs hnd hm np => ?_⟩
      exact k p ys _ hnd hs (fun y => by rw [hm y, decide_eq_true_eq, hmem]) ((sm2.thenNew na).thenNew np) upd_same
end
end Lw

/-! ## a law that shows tuples: its top, where no guard stands -/
namespace Lw
open PySem PySem.Spec PyProof.Rows L2
/-- the law's def, entered where nothing is being shown -/
structure LawG (P : Program) (w : World) (K : PySem.W.Frag) (mg : Str → Option Value) (base : Heap) (k : Nat) (f : Addr) (fd : FuncData) (sp : Sp) : Prop where
  run : ∀ (A : Around) (s : Shared) (H : Hp) (u : Value) (v : V) (Q : VK) (E : XK), A.guards = some [] → Room k A → Env0 P w K mg base A [] s H → BindsTo s fd ⟨[u], []⟩ [("_law_script", u)] → RelV v u → sp [v] H Q E →
    codeAny (model P w) A (.call (.ref f) ⟨[u], []⟩) (CR CX0 [] P w H s Q E) s
section
variable {P : Program} {w : World} {K : PySem.W.Frag} {mg mb : Str → Option Value} {base : Heap} {k : Nat} {f a : Addr} {fd : FuncData} {sp : Sp}
theorem lawG_mk {x qual : Str} {st : Stmt} {N : List Str} (F : Fun K x qual st f fd) (S : FnScope N ["_law_script"] (defScope st))
    (hbody : ∀ (cdv : Value) (A : Around) (s : Shared) (H : Hp) (v : V) (Q : VK) (E : XK), A.guards = some [] → Room k (A.deeper (envOfC qual (defScope st) s.heap.objs.size f cdv)) → sp [v] H Q E →
      ∃ t, PSs (cxOf CX0 P w K mg base N qual (defScope st) f cdv A [] s H E).nox (defBody st) t ∧ t { nx := fun _ H' => Q .non H', rt := Q } (start N [v]) H) : LawG P w K mg base (k + 1) f fd sp := by
  obtain ⟨oc, od, kV, doc, pm, an, cdv, ct, osl, rfl, lk, hcd⟩ := F.ex
  refine ⟨fun A s H u v Q E hg hr e0 hb rv hsp => ?_⟩
  have KX : K.In s.heap := e0.mod.kin.keeps fun b o e => (e0.bs b o e).1
  refine codeAny_call_function hr.depth (KX _ _ lk) rfl S.co S.gen rfl (PySem.W.codeRec_of KX hcd) (hb _ _ _ _ ?_)
  refine wpAny_newFunctionEnv_cells S.kind (fun y hy => ?_) fun env he s1 x => ?_
  · obtain rfl := List.mem_singleton.mp hy
    exact (S.par "_law_script" List.mem_cons_self).imp id fun q => ⟨q, PySem.W.cellsFrom_some _ _ _ (.inl q)⟩
  · subst he
    refine ⟨(e0.mod.nolimit.keeps fun b o e => (e0.bs b o e).1).keeps x.toInCall.keep, codeAny_func ?_⟩
    obtain ⟨t, ht, hq⟩ := hbody cdv A s H v Q E hg (hr.deeper _) hsp
    have I := inv_start (CX := CX0) (ps := ["_law_script"]) (us := [u]) (vs := [v]) (E := E) S hr.hd e0 rfl (.cons rv .nil) x
    refine wpAny_mono (ht.nox.run [] s1 (start N [v]) H _ I hq) (fun fl s' hs => ?_) fun e s' hs => hs
    cases fl with
    | ret u' =>
      obtain ⟨v', σ', H', J, r', q'⟩ := hs
      exact ⟨v', H', J.os, J.bare, J.base, J.hok, r', q'⟩
    | next =>
      obtain ⟨σ', H', J, q'⟩ := hs
      exact ⟨.non, H', J.os, J.bare, J.base, J.hok, rfl, q'⟩
    | brk => exact hs.choose_spec.choose_spec.2.elim
    | cont => exact hs.choose_spec.choose_spec.2.elim
/-- the law called from outside, the script tracked or the module's own -/
theorem lawG_call {s₁ : Shared} {vs : List Value} {ns : List Int} (KX : K.In s₁.heap) (hns : s₁.heap.Ns mainGlobals mg) (hb : s₁.heap.Ns builtinsNs mb) (hbb : ∀ x : Str, x ≠ "__name__" → mb x = bootBuiltins x) (hlim : s₁.heap.NoLimit) (hg : s₁.gens = #[])
    (ha : s₁.heap.get? a = some { cls := .type "list", data := .seq vs.toArray }) (hi : IntsAre vs ns) (hl : ns.length ≤ sizeLine) (hr : Room k callerA)
    (F : ∀ base : Heap, K.In base → base.Ns mainGlobals mg → LawG P w K mg base k f fd sp) (hbind : ∀ (s : Shared) (u : Value), BindsTo s fd ⟨[u], []⟩ [("_law_script", u)])
    (hsp : ∀ H : Hp, SqL K H a (ns.map V.int) → sp [.ref a] H (fun v _ => v = .bl true) fun _ _ _ => False) :
    codeAny (model P w) callerA (.call (.ref f) ⟨[.ref a], []⟩) (fun r s' => r = .ok (.ret (.bool true)) ∧ OldK s₁.heap s'.heap ∧ s'.os = s₁.os ∧ AllBare s'.gens) s₁ := by
  let sc : Obj := { cls := .type "list", data := .seq vs.toArray }
  have hsc : s₁.heap.get? a = some sc := ha
  -- what is tracked: the script, or nothing
  obtain ⟨H, hH, hS, hF⟩ : ∃ H : Hp, (∀ b u, H b = some u → b = a ∧ u = .frz sc (.lst (ns.map V.int)) ∧ K.lookup a = none) ∧ SqL K H a (ns.map V.int) ∧ True := by
    cases hk : K.lookup a with
    | some o =>
      have e := KX a o hk
      rw [hsc] at e
      cases e
      exact ⟨fun _ => none, (fun b u z => nomatch z), .inr ⟨_, vs.toArray, _, hk, rfl, rfl, rfl, by rw [List.size_toArray, hi.length]; exact hl, by simpa using vals_ints hi⟩, trivial⟩
    | none =>
      refine ⟨fun b => if b = a then some (.frz sc (.lst (ns.map V.int))) else none, fun b u z => ?_, .inl (.inr ⟨sc, if_pos rfl⟩), trivial⟩
      dsimp only at z
      split at z
      · rename_i hb; cases z; exact ⟨hb, rfl, rfl⟩
      · cases z
  have free : ∀ b, b ≠ a → H b = none := fun b hb => by
    cases q : H b with
    | none => rfl
    | some u => exact absurd (hH b u q).1 hb
  have ok : HOk P w H s₁.heap := fun b u z => by
    obtain ⟨rfl, rfl, _⟩ := hH b u z
    exact ⟨hsc, by rw [List.length_map]; exact hl, vs, _, vals_ints hi, hsc⟩
  have nsT : ∀ {b : Addr} {m : Str → Option Value}, s₁.heap.Ns b m → (hidT s₁.heap H).Ns b m := fun {b m} ⟨o, es, ep, e, d, r⟩ => by
    refine ⟨o, es, ep, hidT_get e (free b fun z => ?_), d, r⟩
    subst z
    rw [hsc] at e
    cases e
    cases d
  have KT : K.In (hidT s₁.heap H) := fun b o e => hidT_get (KX b o e) (by
    cases q : H b with
    | none => rfl
    | some u =>
      obtain ⟨rfl, _, z⟩ := hH b u q
      rw [z] at e; cases e)
  obtain ⟨mc, c1, c2⟩ := hlim
  have e0 : Env0 P w K mg (hidT s₁.heap H) callerA [] s₁ H := ⟨rfl, ⟨KT, nsT hns, ⟨mb, nsT hb, hbb⟩, ⟨mc, nsT c1, c2⟩⟩, fun b o e => of_hidT e, Nat.le_of_eq (hidT_size _ _), trivial, fun b hb => absurd (show b ∈ ([] : List Addr) from hb) (by simp), ok, .of_eq hg⟩
  refine codeAny_mono ((F _ KT (nsT hns)).run callerA s₁ H (.ref a) (.ref a) _ _ rfl hr e0 (hbind s₁ (.ref a)) rfl (hsp H hS)) fun r s' h => ?_
  match r, h with
  | .error e, h => exact False.elim h
  | .ok .next, h => exact False.elim h
  | .ok .brk, h => exact False.elim h
  | .ok .cont, h => exact False.elim h
  | .ok (.ret u), ⟨v, H', os, bare, un, ok', r', q⟩ =>
    have q : v = .bl true := q
    subst q
    obtain rfl : u = Value.bool true := r'
    refine ⟨rfl, OldK.of_keep fun b o e => ?_, os, bare⟩
    cases q : H b with
    | none => exact un.keep b o e q (fun z => absurd (show b ∈ ([] : List Addr) from z) (by simp)) (by simp)
    | some u =>
      obtain ⟨rfl, rfl, _⟩ := hH b u q
      have e2 := (ok' _ _ (un.frzs _ _ _ q)).1
      rw [hsc] at e
      cases e
      exact e2
theorem walk_ofG {l : PySem.W.OpenLaw} {n : Nat} {q : Program} {loose : List Str} {XP : (Str → Option Value) → Heap → Prop} {YP : World → Heap → Prop} {d : DefRec} {K : Params → PySem.W.Frag} {sp : World → Sp}
    (hn : l.most = some n) (hn2 : n ≤ sizeLine) (hdf : d.params.defaults = []) (hr : Room k callerA) (hY : ∀ (w : World) (h : Heap), YP w h → (K w.params).In h)
    (F : ∀ (w : World) (mg : Str → Option Value) (fa : Addr) (h : Heap), (K w.params).In h → h.Ns mainGlobals mg → mg d.name = some (.ref fa) →
      ∃ fd : FuncData, (∀ (s : Shared) (u : Value), BindsTo s fd ⟨[u], []⟩ [("_law_script", u)]) ∧ ∀ base : Heap, (K w.params).In base → base.Ns mainGlobals mg → LawG l.prog w (K w.params) mg base k fa fd (sp w))
    (hsp : ∀ (w : World) (H : Hp) (a : Addr) (ns : List Int), ns.length ≤ n → SqL (K w.params) H a (ns.map V.int) → sp w [.ref a] H (fun v _ => v = .bl true) fun _ _ _ => False) :
    PySem.W.WalkO q loose XP YP l.row.toRowW d [] (fun f vs => PySem.call f vs) := by
  refine Att.attach_call hn hdf fun w s₀ s₁ mg mb fa o pm cd doc a vs ns G Y ho hd hcd hmg hobj hints hlen hg => ?_
  have KX := hY w _ Y
  obtain ⟨fd, hb, hF⟩ := F w mg fa _ KX G.T.g hmg
  exact lawG_call KX G.T.g G.T.b G.T.builtins G.T.nolimit hg hobj hints (Nat.le_trans hlen hn2) hr hF hb fun H hS => hsp w H a ns hlen hS
end
/-! ### repr of a tuple of ints and texts -/
def rReprK : List V → Hp → VK → Prop := fun xs H Q => ∃ (t : Addr) (b : List Key), xs = [.ref t] ∧ H t = some (.tup (b.map kV)) ∧ (PyData.tuple (b.map dK)).showable = true ∧ (PyData.tuple (b.map dK)).shown.length ≤ sizeLine ∧ Q (.str (PyData.tuple (b.map dK)).shown) H
theorem dK_noDict : ∀ b : List Key, PyData.hasDictAll (b.map dK) = false
  | [] => rfl
  | .inl i :: b => by simpa [PyData.hasDictAll, PyData.hasDict, dK] using dK_noDict b
  | .inr x :: b => by simpa [PyData.hasDictAll, PyData.hasDict, dK] using dK_noDict b
theorem dK_depth (b : List Key) : (PyData.tuple (b.map dK)).depth + 1 ≤ 64 := by
  have : ∀ b : List Key, PyData.depthAll (b.map dK) = 0 := by
    intro b
    induction b with
    | nil => rfl
    | cons k r ih => cases k <;> simpa [PyData.depthAll, PyData.depth, dK] using ih
  simp only [PyData.depth, this]
  decide
theorem call_repr_tup {X : Cx} (hg : X.A.guards = some []) (hu : X.A.units + 64 < cLine) : CallR X (.builtin "repr") rReprK := by
  intro pins s σ H xs us Q I r h
  obtain ⟨t, b, rfl, ht, hs, hz, q⟩ := h
  rw [Vals.ref1 r]
  obtain ⟨as, rd⟩ := Dp.reads I _ _ _ (dp_body ht) rfl
  exact repr_of_reads' rd hs (fun z => by simp [PyData.hasDict, dK_noDict] at z) hg (Nat.lt_of_le_of_lt (Nat.add_le_add_left (show (PyData.tuple (b.map dK)).depth + 1 ≤ 64 from dK_depth b) _) hu) (fun _ _ e => e) (fun h' tk n hk => ⟨.str _, H, I.kept hk, ⟨tk, rfl⟩, q⟩) hz
end Lw

/-! ## the law's bounds, no program in sight -/
namespace Lw
open PySem L2
open PyProof.Rows (envOfC sortedS)
structure TI (i : Nat) (s : Rg) (D : List Str) : Prop where
  sw : SWf s.ks s.B
  ko : KOk s.ks
  kl : s.ks.length ≤ i
  cle : ∀ k ∈ s.cs, k ≤ s.n
  cl : s.cs.length ≤ i
  cn : s.cs.Nodup
  n0 : 0 ≤ s.n ∧ s.n ≤ i
  Ll : ∀ j, (s.L j).length ≤ i
  ule : ∀ k ∈ s.ts, k ≤ s.un
  ul : s.ts.length ≤ i
  u0 : 0 ≤ s.un ∧ s.un ≤ i
  Xl : ∀ j, (s.X j).length ≤ 100 * i ∧ okC (s.X j)
  nl : s.nk.length ≤ i
  nn : s.nk.Nodup
  nv : ∀ a ∈ s.nk, PyData.strOk (s.N a) = true ∧ (s.N a).length ≤ 10000
  ph : s.ph = "idle"
  rt : ∀ y, isRoot s y → y ∈ D
  Dl : D.length ≤ i
  Do : ∀ y ∈ D, PyData.strOk y = true
theorem TI.zero : TI 0 Rg0 [] := by
  refine ⟨⟨List.nodup_nil, fun a ha => nomatch ha⟩, (fun a ha => nomatch ha), Nat.le_refl _, (fun a ha => nomatch ha), Nat.le_refl _, List.nodup_nil, ⟨Int.le_refl _, Int.le_refl _⟩, fun _ => Nat.le_refl _, (fun a ha => nomatch ha), Nat.le_refl _, ⟨Int.le_refl _, Int.le_refl _⟩, fun _ => ⟨Nat.le_refl _, fun c hc => nomatch hc⟩, Nat.le_refl _, List.nodup_nil, (fun a ha => nomatch ha), rfl, fun y hy => ?_, Nat.le_refl _, fun y hy => nomatch hy⟩
  rcases hy with ⟨j, hj, _⟩ | ⟨a, ha, _⟩
  · cases hj
  · cases ha
theorem TI.rwf {i : Nat} {s : Rg} {D : List Str} (h : TI i s D) (hi : i ≤ 60) : RWf s :=
  ⟨h.sw, by have := h.kl; omega, h.cle, by have := h.cl; omega, fun j => by have := h.Ll j; omega, h.ule, by have := h.ul; omega, fun j => ⟨by have := (h.Xl j).1; omega, (h.Xl j).2⟩, by have := h.nl; omega, h.cn, h.nn⟩
theorem TI.mono {i : Nat} {s : Rg} {D : List Str} (h : TI i s D) : TI (i + 1) s D :=
  ⟨h.sw, h.ko, by have := h.kl; omega, h.cle, by have := h.cl; omega, h.cn, by have := h.n0; omega, fun j => by have := h.Ll j; omega, h.ule, by have := h.ul; omega, by have := h.u0; omega, fun j => ⟨by have := (h.Xl j).1; omega, (h.Xl j).2⟩, by have := h.nl; omega, h.nn, h.nv, h.ph, h.rt, by have := h.Dl; omega, h.Do⟩
theorem ts_drop {i : Nat} {s : Rg} {D : List Str} (h : TI i s D) (u : Int) : TI i (unup s u) D :=
  ⟨h.sw, h.ko, h.kl, h.cle, h.cl, h.cn, h.n0, h.Ll, fun k hk => h.ule k (List.mem_filter.mp hk).1, Nat.le_trans (List.length_filter_le _ _) h.ul, h.u0, h.Xl, h.nl, h.nn, h.nv, h.ph, h.rt, h.Dl, h.Do⟩
theorem KOk.put {ks : List Str} (h : KOk ks) (b : Bl) : KOk (putS ks (adrB b)) := fun a ha => by
  rcases mem_putS.mp ha with z | z
  · exact h a z
  · exact ⟨_, z, adr_is _ _⟩
/-- a blob stored and an address pinned, in one turn -/
theorem TI.keep {i : Nat} {s : Rg} {D : List Str} (h : TI i s D) (c : Int) (a : Str) (ha : PyData.strOk a = true) : TI (i + 1) (keepR s c a).1 (a :: D) :=
  ⟨h.sw, h.ko, by have := h.kl; exact Nat.le_succ_of_le this, h.cle, Nat.le_succ_of_le h.cl, h.cn, by have := h.n0; exact ⟨this.1, by have := this.2; show s.n ≤ ((i + 1 : Nat) : Int); omega⟩, fun j => by
    show (if j = c then s.L c ++ [a] else s.L j).length ≤ i + 1
    split
    · rw [List.length_append]; have := h.Ll c; show (s.L c).length + 1 ≤ i + 1; omega
    · have := h.Ll j; omega, h.ule, Nat.le_succ_of_le h.ul, by have := h.u0; exact ⟨this.1, by have := this.2; show s.un ≤ ((i + 1 : Nat) : Int); omega⟩, fun j => ⟨by have := (h.Xl j).1; show (s.X j).length ≤ _; omega, (h.Xl j).2⟩, Nat.le_succ_of_le h.nl, h.nn, h.nv, h.ph, fun y hy => by
    rcases hy with ⟨j, hj, hy⟩ | hy
    · have hy : y ∈ (if j = c then s.L c ++ [a] else s.L j) := hy
      split at hy
      · rename_i e
        rcases List.mem_append.mp hy with z | z
        · exact List.mem_cons_of_mem _ (h.rt y (.inl ⟨j, hj, by rw [e]; exact z⟩))
        · rw [List.mem_singleton.mp z]; exact List.mem_cons_self
      · exact List.mem_cons_of_mem _ (h.rt y (.inl ⟨j, hj, hy⟩))
    · exact List.mem_cons_of_mem _ (h.rt y (.inr hy)), by have := h.Dl; show D.length + 1 ≤ i + 1; omega, fun y hy => by
    rcases List.mem_cons.mp hy with z | z
    · rw [z]; exact ha
    · exact h.Do y z⟩
theorem TI.sto {i : Nat} {s : Rg} {D : List Str} (h : TI i s D) {b : Bl} (hb : b.Ok) (c : Int) (a : Str) (ha : PyData.strOk a = true) : TI (i + 1) (keepR (sto s b) c a).1 (a :: D) :=
  have g := h.keep c a ha
  ⟨h.sw.put hb, h.ko.put b, by have := @putS_len s.ks (adrB b); have := h.kl; show (putS s.ks (adrB b)).length ≤ i + 1; omega, g.cle, g.cl, g.cn, g.n0, g.Ll, g.ule, g.ul, g.u0, g.Xl, g.nl, g.nn, g.nv, g.ph, g.rt, g.Dl, g.Do⟩
theorem adr_strOk (a : Str) (h : ∃ l, a = SX.S l ∧ isAdr l = true) : PyData.strOk a = true ∧ a.length ≤ 10000 := by
  obtain ⟨l, rfl, hl⟩ := h
  exact adr_S2 hl
theorem Ls_old {i : Nat} {n : Int} (h : n ≤ (i : Nat)) : n ≤ ((i + 1 : Nat) : Int) := by omega
theorem TI.ans {i : Nat} {s : Rg} {D : List Str} (h : TI i s D) (hi : i ≤ 60) {q : Rq} (hq : q.LOk) (hb : RpS q.b) : ∃ D', TI (i + 1) (ans s q).1 D' := by
  have g := h.mono
  cases q with
  | opn =>
    refine ⟨D, g.sw, g.ko, g.kl, fun k hk => ?_, ?_, ?_, ?_, fun j => ?_, g.ule, g.ul, g.u0, g.Xl, g.nl, g.nn, g.nv, g.ph, fun y hy => ?_, g.Dl, g.Do⟩
    · show k ≤ s.n + 1
      rcases List.mem_append.mp hk with z | z
      · have := h.cle k z; omega
      · rw [List.mem_singleton.mp z]; exact Int.le_refl _
    · show (s.cs ++ [s.n + 1]).length ≤ i + 1
      rw [List.length_append]; have := h.cl; show s.cs.length + 1 ≤ i + 1; omega
    · show (s.cs ++ [s.n + 1]).Nodup
      rw [List.nodup_append]
      refine ⟨h.cn, by simp, fun x hx y hy e => ?_⟩
      rw [List.mem_singleton.mp hy] at e
      have := h.cle x hx
      omega
    · have := h.n0
      refine ⟨by show 0 ≤ s.n + 1; omega, by show s.n + 1 ≤ ((i + 1 : Nat) : Int); omega⟩
    · show (if j = s.n + 1 then [] else s.L j).length ≤ i + 1
      split
      · exact Nat.zero_le _
      · exact g.Ll j
    · rcases hy with ⟨j, hj, hy⟩ | hy
      · have hy : y ∈ (if j = s.n + 1 then [] else s.L j) := hy
        split at hy
        · cases hy
        · rename_i e
          exact h.rt y (.inl ⟨j, (List.mem_append.mp hj).resolve_right fun z => e (List.mem_singleton.mp z), hy⟩)
      · exact h.rt y (.inr hy)
  | has c a =>
    show ∃ D', TI (i + 1) (if c ∈ s.cs then hasR s c a else (s, lapsedR c)).1 D'
    split
    · unfold hasR
      split
      · exact ⟨_, h.keep c a (hb (.inr a) (by simp [Rq.b])).1⟩
      · exact ⟨D, g⟩
    · exact ⟨D, g⟩
  | start c =>
    show ∃ D', TI (i + 1) (if c ∈ s.cs then _ else (s, lapsedR c)).1 D'
    split
    · refine ⟨D, g.sw, g.ko, g.kl, g.cle, g.cl, g.cn, g.n0, g.Ll, fun k hk => ?_, ?_, ?_, fun j => ?_, g.nl, g.nn, g.nv, g.ph, g.rt, g.Dl, g.Do⟩
      · show k ≤ s.un + 1
        rcases List.mem_append.mp hk with z | z
        · have := h.ule k z; omega
        · rw [List.mem_singleton.mp z]; exact Int.le_refl _
      · show (s.ts ++ [s.un + 1]).length ≤ i + 1
        rw [List.length_append]; have := h.ul; show s.ts.length + 1 ≤ i + 1; omega
      · have := h.u0
        refine ⟨by show 0 ≤ s.un + 1; omega, by show s.un + 1 ≤ ((i + 1 : Nat) : Int); omega⟩
      · show (if j = s.un + 1 then [] else s.X j).length ≤ _ ∧ okC (if j = s.un + 1 then [] else s.X j)
        split
        · exact ⟨Nat.zero_le _, fun c hc => nomatch hc⟩
        · exact g.Xl j
    · exact ⟨D, g⟩
  | part u j t =>
    show ∃ D', TI (i + 1) (partR s u j t).1 D'
    unfold partR
    split
    · split
      · refine ⟨D, g.sw, g.ko, g.kl, g.cle, g.cl, g.cn, g.n0, g.Ll, g.ule, g.ul, g.u0, fun m => ?_, g.nl, g.nn, g.nv, g.ph, g.rt, g.Dl, g.Do⟩
        show (if m = u then s.X u ++ t else s.X m).length ≤ _ ∧ okC (if m = u then s.X u ++ t else s.X m)
        split
        · have h1 := (h.Xl u).1
          have h2 := hq.2
          refine ⟨by rw [List.length_append]; omega, okC_app (h.Xl u).2 hq.1⟩
        · exact g.Xl m
      · exact ⟨D, g⟩
    · exact ⟨D, g⟩
  | fin u c a =>
    show ∃ D', TI (i + 1) (finR s u c a).1 D'
    unfold finR
    split
    · split
      · split
        · have hl := (h.Xl u).1
          exact ⟨_, (ts_drop h u).sto (b := ⟨.lay, s.X u⟩) ⟨fault_lay _, by show (s.X u).length ≤ 10000; omega, (h.Xl u).2⟩ c a (hb (.inr a) (by simp [Rq.b])).1⟩
        · exact ⟨D, ts_drop g u⟩
      · split
        · exact ⟨_, h.keep c a (hb (.inr a) (by simp [Rq.b])).1⟩
        · exact ⟨D, g⟩
    · exact ⟨D, g⟩
  | put c k t =>
    show ∃ D', TI (i + 1) (if c ∈ s.cs then putR s c k t else (s, lapsedR c)).1 D'
    split
    · unfold putR
      split
      · exact ⟨D, g⟩
      · rename_i hf
        split
        · exact ⟨D, g⟩
        · exact ⟨_, h.sto ⟨hf, hq.len, hq.okc⟩ c _ (adr_S2 (adr_is _ _)).1⟩
    · exact ⟨D, g⟩
  | name c nm a =>
    show ∃ D', TI (i + 1) (if c ∈ s.cs then nameR s c nm a else (s, lapsedR c)).1 D'
    split
    · unfold nameR
      split
      · have k := h.keep c a (hb (.inr a) (by simp [Rq.b])).1
        have ha : PyData.strOk a = true ∧ a.length ≤ 10000 := hb (.inr a) (by simp [Rq.b])
        refine ⟨a :: D, k.sw, k.ko, k.kl, k.cle, k.cl, k.cn, k.n0, k.Ll, k.ule, k.ul, k.u0, k.Xl, ?_, ?_, fun b hb => ?_, k.ph, fun y hy => ?_, k.Dl, k.Do⟩
        · have := @putS_len s.nk nm; have := h.nl; show (putS s.nk nm).length ≤ i + 1; omega
        · exact putS_nd h.nn
        · show PyData.strOk (if b = nm then a else s.N b) = true ∧ (if b = nm then a else s.N b).length ≤ 10000
          split
          · exact ha
          · rename_i e
            exact h.nv b ((mem_putS.mp hb).resolve_right e)
        · rcases hy with hy | ⟨b, hb, hy⟩
          · exact k.rt y (.inl hy)
          · have hy : (if b = nm then a else s.N b) = y := hy
            split at hy
            · rw [← hy]; exact List.mem_cons_self
            · rename_i e
              exact k.rt y (.inr ⟨b, (mem_putS.mp hb).resolve_right e, hy⟩)
      · exact ⟨D, g⟩
    · exact ⟨D, g⟩
  | close c => exact ⟨D, g.sw, g.ko, g.kl, fun k hk => g.cle k (List.mem_filter.mp hk).1, Nat.le_trans (List.length_filter_le _ _) g.cl, g.cn.filter _, g.n0, g.Ll, g.ule, g.ul, g.u0, g.Xl, g.nl, g.nn, g.nv, g.ph, fun y hy => g.rt y (hy.imp (fun ⟨j, hj, z⟩ => ⟨j, (List.mem_filter.mp hj).1, z⟩) id), g.Dl, g.Do⟩
  | look nm => exact ⟨D, g⟩
  | get a j m => exact ⟨D, g⟩
  | drop nm => exact ⟨D, g.sw, g.ko, g.kl, g.cle, g.cl, g.cn, g.n0, g.Ll, g.ule, g.ul, g.u0, g.Xl, Nat.le_trans (List.length_filter_le _ _) g.nl, g.nn.filter _, fun a ha => g.nv a (List.mem_filter.mp ha).1, g.ph, fun y hy => g.rt y (hy.imp id fun ⟨b, hb, z⟩ => ⟨b, (List.mem_filter.mp hb).1, z⟩), g.Dl, g.Do⟩
theorem TI.fall {i : Nat} {s : Rg} {D : List Str} (h : TI i s D) : TI (i + 1) { s with ts := [], ph := "idle", mr := [], td := [], dm := [] } D :=
  have g := h.mono
  ⟨g.sw, g.ko, g.kl, g.cle, g.cl, g.cn, g.n0, g.Ll, (fun k hk => nomatch hk), Nat.zero_le _, g.u0, g.Xl, g.nl, g.nn, g.nv, rfl, g.rt, g.Dl, g.Do⟩
theorem TI.lapse {i : Nat} {s : Rg} {D : List Str} (h : TI i s D) (c : Int) : TI (i + 1) { s with cs := s.cs.filter fun j => decide (j ≠ c) } D :=
  have g := h.mono
  ⟨g.sw, g.ko, g.kl, fun k hk => g.cle k (List.mem_filter.mp hk).1, Nat.le_trans (List.length_filter_le _ _) g.cl, g.cn.filter _, g.n0, g.Ll, g.ule, g.ul, g.u0, g.Xl, g.nl, g.nn, g.nv, g.ph, fun y hy => g.rt y (hy.imp (fun ⟨j, hj, z⟩ => ⟨j, (List.mem_filter.mp hj).1, z⟩) id), g.Dl, g.Do⟩
end Lw

/-! ## replies: their bounds, how they are shown -/
namespace Lw
open PySem L2
open PyProof.Rows (envOfC sortedS)
theorem fault_scan0 {b : Bool} {t : List Nat} (h : fault b t = none) : scan b [] 1 (mid (lnL t)) = none := by
  unfold fault at h
  split at h
  · cases h
  · split at h
    · cases h
    · exact h
theorem refs_adr {b : Bl} (h : b.Ok) : ∀ a ∈ b.refs, isAdr a = true := by
  intro a ha
  have hf := h.f
  unfold faultK at hf
  unfold Bl.refs refsL prs at ha
  by_cases n1 : b.k.s = "layer"
  · rw [if_pos n1] at ha; cases ha
  · rw [if_neg n1] at hf ha
    by_cases n2 : b.k.s = "image"
    · rw [if_pos n2] at ha
      rw [decide_eq_true n2] at hf
      obtain ⟨s', hs⟩ := scan_none (fault_scan0 hf) a ha
      exact hs
    · rw [if_neg n2, List.map_map] at ha
      rw [decide_eq_false n2] at hf
      obtain ⟨l, hl, rfl⟩ := List.mem_map.mp ha
      obtain ⟨s', hs⟩ := scan_none (fault_scan0 hf) l hl
      unfold okLine at hs
      rw [if_pos (show (!false) = true from rfl), Bool.and_eq_true, Bool.and_eq_true, Bool.and_eq_true] at hs
      exact hs.2.2.1
theorem slice_ok {x : Str} {lo hi : Option Int} (h : PyData.strOk x = true) : PyData.strOk (Txt.slice x lo hi) = true := by
  rw [← C8.cutS_slice]
  unfold PyData.strOk at h ⊢
  rw [← Array.all_toList, List.all_eq_true] at h ⊢
  intro c hc
  exact h c (List.mem_of_mem_drop (List.mem_of_mem_take hc))
/-- a reply's bounds -/
structure R6 (b : List Key) : Prop where
  s : RpS b
  l : b.length ≤ 6
theorem adrB_S2 (b : Bl) : PyData.strOk (adrB b) = true ∧ (adrB b).length ≤ 10000 := adr_S2 (adr_is _ _)
theorem r6_kept {a : Str} (h : PyData.strOk a = true ∧ a.length ≤ 10000) : R6 [.inr "kept", .inr a] := ⟨rpsS (by decide +kernel) (rpsS h rps0), by show 2 ≤ 6; decide⟩
theorem r6_lacks {a : Str} (h : PyData.strOk a = true ∧ a.length ≤ 10000) : R6 (lacksR a) := ⟨rpsS (by decide +kernel) (rpsS h rps0), by show 2 ≤ 6; decide⟩
theorem r6_lapsed {c : Int} (h : c.natAbs < 1000000000) : R6 (lapsedR c) := ⟨rpsS (by decide +kernel) (rpsI h rps0), by show 2 ≤ 6; decide⟩
theorem r6_gone {c : Int} (h : c.natAbs < 1000000000) : R6 [.inr "gone", .inl c] := ⟨rpsS (by decide +kernel) (rpsI h rps0), by show 2 ≤ 6; decide⟩
theorem ans_r6 {i : Nat} {s : Rg} {D : List Str} (h : TI i s D) (hi : i ≤ 60) {q : Rq} (hq : q.LOk) (hb : RpS q.b) : R6 (ans s q).2 := by
  have bI : ∀ c : Int, (Sum.inl c : Key) ∈ q.b → c.natAbs < 1000000000 := fun c hc => hb _ hc
  have bS : ∀ a : Str, (Sum.inr a : Key) ∈ q.b → PyData.strOk a = true ∧ a.length ≤ 10000 := fun a ha => hb _ ha
  cases q with
  | opn =>
    have := h.n0
    exact ⟨rpsS (by decide +kernel) (rpsI (by omega) rps0), by show 2 ≤ 6; decide⟩
  | has c a =>
    have ha := bS a (by simp [Rq.b])
    show R6 (if c ∈ s.cs then hasR s c a else (s, lapsedR c)).2
    split
    · unfold hasR
      split
      · exact r6_kept ha
      · exact r6_lacks ha
    · exact r6_lapsed (bI c (by simp [Rq.b]))
  | start c =>
    have := h.u0
    show R6 (if c ∈ s.cs then _ else (s, lapsedR c)).2
    split
    · exact ⟨rpsS (by decide +kernel) (rpsI (by omega) rps0), by show 2 ≤ 6; decide⟩
    · exact r6_lapsed (bI c (by simp [Rq.b]))
  | part u j t =>
    have hu := bI u (by simp [Rq.b])
    have h1 := (h.Xl u).1
    have h2 := hq.2
    show R6 (partR s u j t).2
    unfold partR
    split
    · split
      · exact ⟨rpsS (by decide +kernel) (rpsI hu (rpsI (by rw [List.length_append]; omega) rps0)), by show 3 ≤ 6; decide⟩
      · exact ⟨rpsS (by decide +kernel) (rpsI hu (rpsI (by omega) rps0)), by show 3 ≤ 6; decide⟩
    · exact r6_gone hu
  | fin u c a =>
    have hu := bI u (by simp [Rq.b])
    have ha := bS a (by simp [Rq.b])
    show R6 (finR s u c a).2
    unfold finR
    split
    · split
      · split
        · exact r6_kept ha
        · exact ⟨rpsS (by decide +kernel) (rpsS ha rps0), by show 2 ≤ 6; decide⟩
      · split
        · exact r6_kept ha
        · exact r6_gone hu
    · exact r6_lapsed (bI c (by simp [Rq.b]))
  | put c k t =>
    show R6 (if c ∈ s.cs then putR s c k t else (s, lapsedR c)).2
    split
    · unfold putR
      split
      · exact ⟨rpsS (by decide +kernel) rps0, by show 1 ≤ 6; decide⟩
      · rename_i hf
        split
        · rename_i r hr
          have ok : (⟨k, t⟩ : Bl).Ok := ⟨hf, hq.len, hq.okc⟩
          exact r6_lacks (adr_S2 (refs_adr ok r (List.mem_of_find?_eq_some hr)))
        · exact r6_kept (adrB_S2 _)
    · exact r6_lapsed (bI c (by simp [Rq.b]))
  | name c nm a =>
    have ha := bS a (by simp [Rq.b])
    have hn := bS nm (by simp [Rq.b])
    show R6 (if c ∈ s.cs then nameR s c nm a else (s, lapsedR c)).2
    split
    · unfold nameR
      split
      · exact ⟨rpsS (by decide +kernel) (rpsS hn (rpsS ha rps0)), by show 3 ≤ 6; decide⟩
      · exact r6_lacks ha
    · exact r6_lapsed (bI c (by simp [Rq.b]))
  | close c => exact ⟨rpsS (by decide +kernel) (rpsI (bI c (by simp [Rq.b])) rps0), by show 2 ≤ 6; decide⟩
  | look nm =>
    have hn := bS nm (by simp [Rq.b])
    show R6 (if nm ∈ s.nk then _ else _)
    split
    · rename_i hm
      exact ⟨rpsS (by decide +kernel) (rpsS hn (rpsS (h.nv nm hm) rps0)), by show 3 ≤ 6; decide⟩
    · exact ⟨rpsS (by decide +kernel) (rpsS hn rps0), by show 2 ≤ 6; decide⟩
  | get a j m =>
    have ha := bS a (by simp [Rq.b])
    show R6 (getR s a j m)
    unfold getR
    split
    · rename_i hm
      have ok := h.sw.ok a hm
      have hl := ok.l
      refine ⟨rpsS (by decide +kernel) (rpsS ha (rpsS (Kd.s2 _) (rpsI (bI j (by simp [Rq.b])) (rpsS ⟨slice_ok (okS ok.c), Nat.le_trans (Txt.slice_le _ _ _) (by rw [SX.S_len]; exact hl)⟩ (rpsI (by omega) rps0))))), by show 6 ≤ 6; decide⟩
    · exact r6_lacks ha
  | drop nm => exact ⟨rpsS (by decide +kernel) (rpsS (bS nm (by simp [Rq.b])) rps0), by show 2 ≤ 6; decide⟩
/-! ### shown -/
theorem log2_small {n : Nat} (h : n < 1000000000) : n.log2 < 1920 := by
  by_cases h0 : n = 0
  · subst h0; decide
  · exact (Nat.log2_lt h0).mpr (Nat.lt_of_lt_of_le h (Nat.le_trans (show 1000000000 ≤ 2 ^ 30 by decide) (Nat.pow_le_pow_right (by decide) (by decide))))
theorem shown_key {k : Key} (h : KS k) : (dK k).showable = true ∧ (dK k).shown.length ≤ 100002 := by
  cases k with
  | inl i =>
    have h : i.natAbs < 1000000000 := h
    have h2 := log2_small h
    refine ⟨by simp only [dK, PyData.showable, h2, decide_true], ?_⟩
    show (PyData.int i).shown.length ≤ _
    rw [PyData.shown_int]
    exact Nat.le_trans (PyProof.Rows.int_text_len_1921 h2) (by decide)
  | inr x =>
    obtain ⟨h1, h2⟩ := h
    refine ⟨rfl, ?_⟩
    show (PyData.str x).shown.length ≤ _
    rw [PyData.shown_str]
    refine Nat.le_trans (StrLaws.reprText_len x fun c hc => ?_) (by omega)
    have hc := okT' (l := x.cps.toList) (by rw [S_of]; exact h1) c hc
    exact Nat.lt_of_lt_of_le hc (by decide)
theorem join_le : ∀ ts : List Str, (Str.join ", " ts).length ≤ piled ts := fun ts => by
  by_cases h : ts = []
  · subst h; exact Nat.zero_le _
  · have := join_length_add ts h
    omega
theorem shown_keys : ∀ {b : List Key}, RpS b → PyData.showableAll (b.map dK) = true ∧ piled (PyData.shownAll (b.map dK)) ≤ b.length * 100004
  | [], _ => ⟨rfl, Nat.zero_le _⟩
  | k :: b, h => by
    obtain ⟨h1, h2⟩ := shown_keys (b := b) fun y hy => h y (List.mem_cons_of_mem _ hy)
    obtain ⟨h3, h4⟩ := shown_key (h k List.mem_cons_self)
    refine ⟨by simp only [List.map_cons, PyData.showableAll, h1, h3, Bool.and_self], ?_⟩
    rw [List.map_cons, PyData.shownAll_cons, piled_cons, List.length_cons]
    omega
theorem shown_body {b : List Key} (h : R6 b) : (PyData.tuple (b.map dK)).showable = true ∧ (PyData.tuple (b.map dK)).shown.length ≤ sizeLine := by
  obtain ⟨h1, h2⟩ := shown_keys h.s
  refine ⟨by simp only [PyData.showable, h1], ?_⟩
  rw [PyData.shown_tuple, strLen_append, strLen_append]
  have h3 := join_le (PyData.shownAll (b.map dK))
  have h4 := h.l
  have e1 : (("(" : String) : Str).length = 1 := rfl
  have e2 : (((if (b.map dK).length == 1 then ",)" else ")" : String) : Str)).length ≤ 2 := by split <;> decide
  rw [e1]
  exact Nat.le_trans (show _ ≤ 1000000 by omega) (by decide)
theorem okb_of {b : List Key} (h : R6 b) : OkB b := h.s.okb
theorem g_reprK {H : Hp} {Q : VK} {t : Addr} {b : List Key} (ht : H t = some (.tup (b.map kV))) (h : R6 b) (k : Q (.str (PyData.tuple (b.map dK)).shown) H) : rReprK [.ref t] H Q :=
  ⟨t, b, rfl, ht, (shown_body h).1, (shown_body h).2, k⟩
end Lw

/-! ## lists of ints and of texts compared -/
namespace Lw
open PySem L2
theorem shS : ∀ (ys : List Str), (∀ x ∈ ys, PyData.strOk x = true) → PyData.canLayAll0 (ys.map PyData.str) = true ∧ PyData.depthAll (ys.map PyData.str) = 0
  | [], _ => ⟨rfl, rfl⟩
  | x :: r, h => by
    obtain ⟨h1, h2⟩ := shS r fun y hy => h y (List.mem_cons_of_mem _ hy)
    have h3 := h x List.mem_cons_self
    refine ⟨?_, ?_⟩
    · simp only [List.map_cons, PyData.canLayAll0, PyData.canLay0, h1, h3, Bool.and_true]
    · simp only [List.map_cons, PyData.depthAll, PyData.depth, h2, Nat.max_self]
theorem shI : ∀ (ys : List Int), PyData.canLayAll0 (ys.map PyData.int) = true ∧ PyData.depthAll (ys.map PyData.int) = 0
  | [] => ⟨rfl, rfl⟩
  | x :: r => by
    obtain ⟨h1, h2⟩ := shI r
    refine ⟨?_, ?_⟩
    · simp only [List.map_cons, PyData.canLayAll0, PyData.canLay0, h1, Bool.and_true]
    · simp only [List.map_cons, PyData.depthAll, PyData.depth, h2, Nat.max_self]
theorem shaped0 {ds : List PyData} (h : PyData.canLayAll0 ds = true ∧ PyData.depthAll ds = 0) : SeqAt.shaped (.list ds) = true := by
  unfold SeqAt.shaped
  rw [show (PyData.list ds).canLay0 = true from h.1, Bool.true_and, decide_eq_true_eq]
  simp only [PyData.depth, h.2]
  decide
theorem eqv_list0 {ds : List PyData} (h : PyData.canLayAll0 ds = true ∧ PyData.depthAll ds = 0) : PyData.eqv (.list ds) (.list ds) = true := SeqAt.eqv_refl _ (show (PyData.list ds).canLay0 = true from h.1)
theorem dpS {K : PySem.W.Frag} {H : Hp} : ∀ (ys : List Str), DpAll K H (ys.map V.str) (ys.map PyData.str)
  | [] => .nil
  | _ :: r => .cons (.str _) (dpS r)
theorem dpI {K : PySem.W.Frag} {H : Hp} : ∀ (ys : List Int), DpAll K H (ys.map V.int) (ys.map PyData.int)
  | [] => .nil
  | _ :: r => .cons (.int _) (dpI r)
end Lw

/-! ## the law -/
namespace Lw
open PySem L2
open PyProof.Rows (envOfC sortedS)
theorem g_dneA {H : Hp} {Q : VK} {p q : Addr} {ks : List Str} {N : Str → Str} (hp : H p = some (.dK (mkS ks fun a => .str (N a)))) (hq : H q = some (.dK (mkS ks fun a => .str (N a)))) (k : Q (.bl false) H) : rNeDA (.ref p) (.ref q) H Q :=
  ⟨p, q, _, _, rfl, rfl, hp, hq, rfl, fun e he => by
    obtain ⟨a, ha, rfl⟩ := List.mem_map.mp he
    exact ⟨by rw [valV_mkS, if_pos ha], rfl⟩, k⟩
theorem g_rneS {K : PySem.W.Frag} {H : Hp} {Q : VK} {p q : Addr} {ys : List Str} (h1 : H p = some (.lst (ys.map V.str))) (h2 : H q = some (.lst (ys.map V.str))) (ok : ∀ x ∈ ys, PyData.strOk x = true) (k : Q (.bl false) H) : rNeD K (.ref p) (.ref q) H Q :=
  ⟨_, _, .lst (SqL.of h1) (dpS ys), .lst (SqL.of h2) (dpS ys), shaped0 (shS ys ok), shaped0 (shS ys ok), by rw [eqv_list0 (shS ys ok)]; exact k⟩
theorem g_reqS {K : PySem.W.Frag} {H : Hp} {Q : VK} {p q : Addr} {ys : List Str} (h1 : H p = some (.lst (ys.map V.str))) (h2 : H q = some (.lst (ys.map V.str))) (ok : ∀ x ∈ ys, PyData.strOk x = true) (k : Q (.bl true) H) : rEqD K (.ref p) (.ref q) H Q :=
  ⟨_, _, .lst (SqL.of h1) (dpS ys), .lst (SqL.of h2) (dpS ys), shaped0 (shS ys ok), shaped0 (shS ys ok), by rw [eqv_list0 (shS ys ok)]; exact k⟩
theorem g_rneI {K : PySem.W.Frag} {H : Hp} {Q : VK} {p q : Addr} {ys : List Int} (h1 : H p = some (.lst (ys.map V.int))) (h2 : H q = some (.lst (ys.map V.int))) (k : Q (.bl false) H) : rNeD K (.ref p) (.ref q) H Q :=
  ⟨_, _, .lst (SqL.of h1) (dpI ys), .lst (SqL.of h2) (dpI ys), shaped0 (shI ys), shaped0 (shI ys), by rw [eqv_list0 (shI ys)]; exact k⟩
theorem Rq.ok {q : Rq} (h : q.LOk) : q.Ok := by
  cases q <;> first | trivial | exact ⟨h.1, by have := h.2; omega⟩ | exact ⟨h.nl, h.okc, h.len⟩
theorem ansOk {s : Rg} (h : s.ph = "idle") (q : Rq) : AnsOk s q := by cases q <;> exact Or.inl h
def spLaw (K : PySem.W.Frag) : Sp := fun vs H Q _ => ∃ (a : Addr) (ns : List Int), vs = [.ref a] ∧ SqL K H a (ns.map V.int) ∧ ns.length ≤ 63 ∧ ∀ H', Q (.bl true) H'
section
variable {P : Program} {w : World} {K : PySem.W.Frag} {mg : Str → Option Value} {base : Heap} {C_Claims C_Collector C_Store C_Uploads C_Registry C_Refused C_Malformed a_KINDS a_BELOW a_CLAIMED : Addr}
theorem ok_law (T : Txt w K mg C_Claims C_Collector C_Store C_Uploads C_Registry C_Refused C_Malformed a_KINDS a_BELOW a_CLAIMED) {f : Addr} {fd : FuncData} (F : Fun K "law" "law" s_law f fd) : LawG P w K mg base 16 f fd (spLaw K) := by
  have c__law_state : Cal P w K mg base 1 "_law_state" (spState K) := ok__law_state T
  have c__law_take : Cal P w K mg base 1 "_law_take" spTake := ok__law_take T
  have c__law_request : Cal P w K mg base 5 "_law_request" spLReq := ok__law_request T
  have c__law_answer : Cal P w K mg base 7 "_law_answer" spLAns := ok__law_answer T
  have c__law_without : Cal P w K mg base 1 "_law_without" spLWo := ok__law_without T
  have c__law_roots : Cal P w K mg base 1 "_law_roots" spLRoots := ok__law_roots T
  have m_Registry : Mak P w K mg base 3 "Registry" C_Registry (spRInit C_Store C_Claims C_Uploads C_Collector C_Registry) := ok_Registry___init__ T
  have t_Registry_answer : Met P w K mg base 13 C_Registry "answer" (spAns C_Store C_Claims C_Uploads C_Collector C_Registry) := ok_Registry_answer T
  have t_Registry_roots : Met P w K mg base 2 C_Registry "roots" (spRoots C_Store C_Claims C_Uploads C_Collector C_Registry) := ok_Registry_roots T
  have t_Registry_lapse : Met P w K mg base 2 C_Registry "lapse" (spLapse C_Store C_Claims C_Uploads C_Collector C_Registry) := ok_Registry_lapse T
  have t_Registry_fall : Met P w K mg base 2 C_Registry "fall" (spFall C_Store C_Claims C_Uploads C_Collector C_Registry) := ok_Registry_fall T
  have t_Claims_numbers : Met P w K mg base 1 C_Claims "numbers" (spCNumbers C_Claims) := ok_Claims_numbers T
  have t_Store_addresses : Met P w K mg base 1 C_Store "addresses" (spAdrs C_Store) := ok_Store_addresses T
  refine lawG_mk F sc_law (fun cdv A s H v Q E hgd hr h => ?_)
  obtain ⟨sc, ns, hv, hS, hlen, k⟩ := h
  obtain rfl : v = .ref sc := List.head_eq_of_cons_eq hv
  have hu := hu_of hr
  refine ⟨_, (pss_cons (ps_set (i := 1) sc_law.nd rfl (by first | exact Or.inl rfl | exact Or.inr rfl) (pe_c c__law_state hr (by first | decide | omega) rfl (pa_cons (pv 0) pa_nil)))
      (pss_cons (ps_set (i := 2) sc_law.nd rfl (by first | exact Or.inl rfl | exact Or.inr rfl) (pe_mk0 m_Registry hr (by first | decide | omega) rfl))
      (pss_cons (ps_set (i := 3) sc_law.nd rfl (by first | exact Or.inl rfl | exact Or.inr rfl) (pe_disp (pps_cons (pe_str) (pe_dnewK) (pps_cons (pe_str) (pe_dnewK) (pps_cons (pe_str) (pe_dnewK) (pps_cons (pe_str) (pe_dnewK) (pps_cons (pe_str) (pe_int) (pps_cons (pe_str) (pe_int) pps_nil)))))) (by rfl) (by rfl) (fun z => by cases z) (by decide)))
      (pss_cons (ps_for PassesOwn.never rfl (pi_range1 (by rfl) T.n_range (pa_cons (pe_c c__law_take hr (by first | decide | omega) rfl (pa_cons (pv 1) (pa_cons (pe_int) pa_nil))) pa_nil)) (pg_name (i := 4) sc_law.nd rfl (by first | exact Or.inl rfl | exact Or.inr rfl)) (pss_cons (ps_set (i := 5) sc_law.nd rfl (by first | exact Or.inl rfl | exact Or.inr rfl) (pe_c c__law_take hr (by first | decide | omega) rfl (pa_cons (pv 1) (pa_cons (pe_int) pa_nil))))
      (C8.pss_cut (ps_if (pt_cmpR op_eq (pv 5) (pe_int) (nomark _)) (pss_cons (ps_expr (pe_mt0 t_Registry_fall hr (by first | decide | omega) (pv 2)))
      (pss_one (ps_dput hu (pv 3) (pe_str) (pe_dnewK) rfl))) (pss_one (ps_if (pt_cmpR op_eq (pv 5) (pe_int) (nomark _)) (pss_cons (ps_set (i := 6) sc_law.nd rfl (by first | exact Or.inl rfl | exact Or.inr rfl) (pe_op op_add (pe_int) (pe_c c__law_take hr (by first | decide | omega) rfl (pa_cons (pv 1) (pa_cons (pe_op op_add (pe_dget hu (pv 3) (pe_str) (fun _ _ => rfl)) (pe_int)) pa_nil)))))
      (pss_cons (ps_expr (pe_mt t_Registry_lapse hr (by first | decide | omega) (pv 2) (pa_cons (pv 6) pa_nil)))
      (pss_one (ps_dput hu (pv 3) (pe_str) (pe_c c__law_without hr (by first | decide | omega) rfl (pa_cons (pe_dget hu (pv 3) (pe_str) (fun _ _ => rfl)) (pa_cons (pv 6) pa_nil))) rfl)))) (pss_cons (ps_set (i := 7) sc_law.nd rfl (by first | exact Or.inl rfl | exact Or.inr rfl) (pe_c c__law_request hr (by first | decide | omega) rfl (pa_cons (pv 1) (pa_cons (pv 3) pa_nil))))
      (pss_cons (ps_set (i := 8) sc_law.nd rfl (by first | exact Or.inl rfl | exact Or.inr rfl) (pe_c c__law_answer hr (by first | decide | omega) rfl (pa_cons (pv 3) (pa_cons (pv 7) pa_nil))))
      (pss_cons (ps_set (i := 9) sc_law.nd rfl (by first | exact Or.inl rfl | exact Or.inr rfl) (pe_mt t_Registry_answer hr (by first | decide | omega) (pv 2) (pa_cons (pv 7) pa_nil)))
      (pss_one (ps_if (PW.pt (pw_or (pt_not (pt_val (pe_callB call_isi (by rfl) T.n_isinstance (by decide +kernel) (pa_cons (pv 9) (pa_cons (pe_bltn (v := .ty "tuple") (u := .type "tuple") (by rfl) T.n_tuple (by decide +kernel) rfl) pa_nil))))) (pw_or (pt_cmpR (op_neD hr.units) (pv 9) (pv 8) (nomark _)) (pw_or1 (pt_cmpR op_ne (pe_callB (call_repr_tup hgd hr.units) (by rfl) T.n_repr (by decide +kernel) (pa_cons (pv 9) pa_nil)) (pe_callB (call_repr_tup hgd hr.units) (by rfl) T.n_repr (by decide +kernel) (pa_cons (pv 8) pa_nil)) (nomark _)))))) (pss_one (ps_ret (pe_bl))) pss_nil))))))))
      (pss_cons (ps_if (PW.pt (pw_or (pt_cmpR (op_ne_dictA (Nat.lt_of_le_of_lt (Nat.le_add_right _ _) hr.units)) (pe_fld (pv 2) rfl) (pe_dget hu (pv 3) (pe_str) (fun _ _ => rfl)) (nomark _)) (pw_or1 (pt_cmpR (op_neD hr.units) (pe_mt0 t_Registry_roots hr (by first | decide | omega) (pv 2)) (pe_c c__law_roots hr (by first | decide | omega) rfl (pa_cons (pv 3) pa_nil)) (nomark _))))) (pss_one (ps_ret (pe_bl))) pss_nil)
      (pss_one (ps_if (pt_cmpR (op_neD hr.units) (pe_mt0 t_Claims_numbers hr (by first | decide | omega) (pe_fld (pv 2) rfl)) (pe_callB (call_sortedDI rfl) (by rfl) T.n_sorted (by decide +kernel) (pa_cons (pe_dget hu (pv 3) (pe_str) (fun _ _ => rfl)) pa_nil)) (nomark _)) (pss_one (ps_ret (pe_bl))) pss_nil))))))
      (pss_one (ps_ret (pe_cmpR (op_eqD hr.units) (pe_mt0 t_Store_addresses hr (by first | decide | omega) (pe_fld (pv 2) rfl)) (pe_callB (call_sortedD rfl) (by rfl) T.n_sorted (by decide +kernel) (pa_cons (pe_dget hu (pv 3) (pe_str) (fun _ _ => rfl)) pa_nil)) (nomark _)))))))), ?_⟩
  walk_at "lw"
  refine ⟨sc, ns, fun _ => 9, rfl, hS, hlen, fun S c1 H1 S1 st1 => ?_⟩
  clear st1 hS
  walk_at "lw"
  intro p dx np ndx nex
  refine ⟨c1, p, dx, rfl, upd_same, fun c2 H2 x hx W2 kp => ⟨rfl, ?_⟩⟩
  subst hx
  have s2 : Same H1 H2 := Same.made np ndx fun b o e hb => (kp b o e hb).1
  have st2 : Stp (fun _ => False) c1 c2 H1 H2 := Stp.sameC s2 fun b o e => (kp b o (by rw [upd_ne (ne_of_none e np), upd_ne (ne_of_none e ndx)]; exact e) (ne_of_none e np)).2
  have S2 := S1.frame st2 (by decide)
  clear kp s2 st2 S1 np ndx nex
  walk_at "lw"
  refine g_disp fun M H3 nM s3 hM => ?_
  walk_at "lw"
  refine g_dnew fun bd H4 nbd s4 hbd => ?_
  walk_at "lw"
  refine g_dnew fun nd H5 nnd s5 hnd => ?_
  walk_at "lw"
  refine g_dnew fun pd H6 npd s6 hpd => ?_
  walk_at "lw"
  refine g_dnew fun td H7 ntd s7 htd => ?_
  walk_at "lw"
  refine g_rdisp (kvs := mdl bd nd pd td 0 0) (s7.at (s6.at (s5.at (s4.at hM)))) rfl (by show 6 ≤ 15; decide) fun H8 hM8 k8 => ?_
  have hM8 : H8 M = some (.dK (mdl bd nd pd td 0 0)) := hM8
  have e1 : M ≠ bd := ne_of_none hM nbd
  have e2 : M ≠ nd := ne_of_none (s4.at hM) nnd
  have e3 : M ≠ pd := ne_of_none (s5.at (s4.at hM)) npd
  have e4 : M ≠ td := ne_of_none (s6.at (s5.at (s4.at hM))) ntd
  have e5 : bd ≠ nd := ne_of_none hbd nnd
  have e6 : bd ≠ pd := ne_of_none (s5.at hbd) npd
  have e7 : bd ≠ td := ne_of_none (s6.at (s5.at hbd)) ntd
  have e8 : nd ≠ pd := ne_of_none hnd npd
  have e9 : nd ≠ td := ne_of_none (s6.at hnd) ntd
  have e10 : pd ≠ td := ne_of_none hpd ntd
  have sT : Same H2 H8 := (s3.trans (s4.trans (s5.trans (s6.trans s7)))).chg nM k8
  have f1 : H2 bd = none := s3.free nbd
  have f2 : H2 nd = none := (s3.trans s4).free nnd
  have f3 : H2 pd = none := (s3.trans (s4.trans s5)).free npd
  have f4 : H2 td = none := (s3.trans (s4.trans (s5.trans s6))).free ntd
  obtain ⟨c8, g1, g2, g3, g4, g5, g6⟩ : ∃ c8 : Addr → Nat, c8 M = 7 ∧ c8 bd = 8 ∧ c8 nd = 10 ∧ c8 pd = 11 ∧ c8 td = 12 ∧ ∀ b o, H2 b = some o → c8 b = c2 b := by
    refine ⟨fun b => if b = M then 7 else if b = bd then 8 else if b = nd then 10 else if b = pd then 11 else if b = td then 12 else c2 b, if_pos rfl, ?_, ?_, ?_, ?_, fun b o e => ?_⟩
    · dsimp only; rw [if_neg e1.symm, if_pos rfl]
    · dsimp only; rw [if_neg e2.symm, if_neg e5.symm, if_pos rfl]
    · dsimp only; rw [if_neg e3.symm, if_neg e6.symm, if_neg e8.symm, if_pos rfl]
    · dsimp only; rw [if_neg e4.symm, if_neg e7.symm, if_neg e9.symm, if_neg e10.symm, if_pos rfl]
    · dsimp only; rw [if_neg (ne_of_none e nM), if_neg (ne_of_none e f1), if_neg (ne_of_none e f2), if_neg (ne_of_none e f3), if_neg (ne_of_none e f4)]
  have st8 : Stp (fun _ => False) c2 c8 H2 H8 := Stp.sameC sT g6
  have X8 : MoAt c8 H8 M Rg0 := ⟨bd, nd, pd, td, fun _ => M, g1, hM8, g2, ⟨fun _ => M, by rw [k8 bd e1.symm]; exact s7.at (s6.at (s5.at hbd)), fun a ha => nomatch ha⟩, g3, by rw [k8 nd e2.symm]; exact s7.at (s6.at hnd), g4, by rw [k8 pd e3.symm]; exact s7.at hpd, (fun i hi => nomatch hi), g5, by rw [k8 td e4.symm]; exact htd⟩
  have S8 := S2.frame st8 (by decide)
  have W8 := W2.frame st8 (fun i z => z.elim)
  clear S2 W2 st8 g1 g2 g3 g4 g5 g6 f1 f2 f3 f4 sT e1 e2 e3 e4 e5 e6 e7 e8 e9 e10 hM8 k8 htd s7 ntd hpd s6 npd hnd s5 nnd hbd s4 nbd hM s3 nM
  walk_at "lw"
  refine ⟨c8, S, 51, rfl, S8, by decide, by decide, fun r c9 H9 r0 r1 S9 st9 => ?_⟩
  have X9 := X8.draw st9
  have W9 := W8.frame st9 (fun i z => by rw [z]; rintro (e | e | e | e | e) <;> cases e)
  clear S8 X8 W8 st9
  walk_at "lw"
  refine g_for1 r0 (by omega) (fun i σ H => ∃ (c : Addr → Nat) (s : Rg) (D : List Str) (v4 v5 v6 v7 v8 v9 : Option V), σ = [some (.ref sc), some (.ref S), some (.ref x.R), some (.ref M), v4, v5, v6, v7, v8, v9] ∧ StateAt c H S ∧ RegAt C_Store C_Claims C_Uploads C_Collector C_Registry c H x s ∧ MoAt c H M s ∧ TI i s D)
    ⟨c9, Rg0, [], none, none, none, none, none, none, rfl, S9, W9, X9, TI.zero⟩ ?_ ?_
  · clear S9 W9 X9
    rintro i σ H10 hi ⟨c10, s', D, v4, v5, v6, v7, v8, v9, rfl, S10, W10, X10, I10⟩
    have hi50 : i < 51 := by omega
    walk_at "lw"
    refine ⟨c10, S, 40, rfl, S10, by decide, by decide, fun kd c11 H11 kd0 kd1 S11 st11 => ?_⟩
    have X11 := X10.draw st11
    have W11 := W10.frame st11 (fun i z => by rw [z]; rintro (e | e | e | e | e) <;> cases e)
    clear S10 X10 W10 st11
    walk_at "lw"
    refine g_cut (fun σ H => ∃ (c : Addr → Nat) (s2 : Rg) (D : List Str) (v4 v5 v6 v7 v8 v9 : Option V), σ = [some (.ref sc), some (.ref S), some (.ref x.R), some (.ref M), v4, v5, v6, v7, v8, v9] ∧ StateAt c H S ∧ RegAt C_Store C_Claims C_Uploads C_Collector C_Registry c H x s2 ∧ MoAt c H M s2 ∧ TI (i + 1) s2 D) ?_ ?_
    · have noR0 : ¬ IReg 0 := by rintro (z | z | z | z | z) <;> cases z
      have noR7 : ¬ IReg 7 := by rintro (z | z | z | z | z) <;> cases z
      have noR8 : ¬ IReg 8 := by rintro (z | z | z | z | z) <;> cases z
      have noR10 : ¬ IReg 10 := by rintro (z | z | z | z | z) <;> cases z
      have noR11 : ¬ IReg 11 := by rintro (z | z | z | z | z) <;> cases z
      have noR12 : ¬ IReg 12 := by rintro (z | z | z | z | z) <;> cases z
      have noR13 : ¬ IReg 13 := by rintro (z | z | z | z | z) <;> cases z
      have noM0 : ¬ IMo 0 := by rintro (z | z | z | z | z) <;> cases z
      have noM : ∀ i, IMo i → ¬ IReg i := by rintro i (rfl | rfl | rfl | rfl | rfl) <;> assumption
      walk_at "lw"
      refine if2 (fun e0 => ?_) (fun e0 => ?_)
      · walk_at "lw"
        obtain ⟨d1, _, _, _, _, _, _, _, _, _, _, _, _, hR, _⟩ := W11.hs
        refine g_rmeth hR rfl ?_
        walk_at "lw"
        refine ⟨c11, x, s', rfl, W11, fun c12 H12 W12 st12 => ?_⟩
        have S12 := S11.frame st12 noR0
        obtain ⟨bd, nd, pd, td, A', X12⟩ := X11.frame st12 noR7 noR8 noR10 noR11 noR12 noR13
        clear S11 W11 X11 st12 hR
        walk_at "lw"
        refine g_dnew fun t H13 nt s13 ht => ?_
        have nMt : M ≠ t := ne_of_none X12.hm nt
        have st13 : Stp (fun _ => False) c12 (Stp.paint c12 t 12) H12 H13 := L2x_sameN s13 nt
        have ct : Stp.paint c12 t 12 t = 12 := Stp.paint_same
        have X13 := X12.frame st13 id id id id id id
        have W13 := W12.frame st13 (fun i z => z.elim)
        have S13 := S12.frame st13 (by decide)
        generalize Stp.paint c12 t 12 = c13 at st13 ct X13 W13 S13
        clear S12 W12 X12 st13 s13 nt
        walk_at "lw"
        refine g_rdputS X13.hm mdl_len fun H14 h14 k14 => ?_
        rw [mdl_put_texts] at h14
        have st14 : Stp (fun i => i = 7) c13 c13 H13 H14 := Stp.ch X13.hm X13.cm (fun xs z => by cases z) h14 k14
        have X14 := X13.tnew h14 ct (by rw [k14 t nMt.symm]; exact ht) st14
        walk_at "lw"
        exact ⟨c13, _, D, _, _, _, _, _, _, rfl, S13.frame st14 (by decide), W13.frame st14 (fun i z => by rw [z]; exact noR7), X14.coll.at, I10.fall⟩
      · walk_at "lw"
        refine if2 (fun e1 => ?_) (fun e1 => ?_)
        · walk_at "lw"
          obtain ⟨bd, nd, pd, td, A', X⟩ := X11
          refine g_rdgetS (.of X.hm) mdl_opened ?_
          have n0 := I10.n0
          walk_at "lw"
          refine ⟨c11, S, s'.n + 1, rfl, S11, by omega, by omega, fun r2 c12 H12 r20 r21 S12 st12 => ?_⟩
          have X12 := X.frame st12 (by decide) (by decide) (by decide) (by decide) (by decide) (by decide)
          have W12 := W11.frame st12 (fun i z => by rw [z]; exact noR0)
          clear S11 W11 X st12
          obtain ⟨d1, _, _, _, _, _, _, _, _, _, _, _, _, hR, _⟩ := W12.hs
          walk_at "lw"
          refine ⟨c12, x, s', 1 + r2, rfl, W12, fun c13 H13 W13 st13 => ?_⟩
          have S13 := S12.frame st13 noR0
          have X13 := X12.frame st13 noR7 noR8 noR10 noR11 noR12 noR13
          clear S12 W12 X12 st13 hR
          walk_at "lw"
          refine g_rdgetS (.of X13.hm) mdl_pins ?_
          walk_at "lw"
          refine ⟨pd, .inl ⟨s'.cs, fun i => .ref (A' i), 1 + r2, rfl, X13.hp, by have := I10.cl; omega, I10.cn, fun t H14 nt s14 ht => ?_⟩⟩
          have nMt : M ≠ t := ne_of_none X13.hm nt
          have st14 : Stp (fun _ => False) c13 (Stp.paint c13 t 11) H13 H14 := L2x_sameN s14 nt
          have ct : Stp.paint c13 t 11 t = 11 := Stp.paint_same
          have X14 := X13.frame st14 id id id id id id
          have W14 := W13.frame st14 (fun i z => z.elim)
          have S14 := S13.frame st14 (by decide)
          generalize Stp.paint c13 t 11 = c14 at st14 ct X14 W14 S14
          clear S13 W13 X13 st14 s14 nt
          walk_at "lw"
          refine g_rdputS X14.hm mdl_len fun H15 h15 k15 => ?_
          rw [mdl_put_pins] at h15
          have st15 : Stp (fun i => i = 7) c14 c14 H14 H15 := Stp.ch X14.hm X14.cm (fun xs z => by cases z) h15 k15
          have X15 := X14.pnew (fun i hi => (List.mem_filter.mp hi).1) h15 ct (by rw [k15 t nMt.symm]; exact ht) st15
          walk_at "lw"
          exact ⟨c14, _, D, _, _, _, _, _, _, rfl, S14.frame st15 (by decide), W14.frame st15 (fun i z => by rw [z]; exact noR7), X15.at, I10.lapse _⟩
        · walk_at "lw"
          have n0 := I10.n0
          have u0 := I10.u0
          have wf := I10.rwf (by omega)
          refine ⟨c11, S, M, s', rfl, S11, X11, wf, I10.ko, by have := I10.kl; omega, by omega, by omega, by omega, by omega, fun q t c12 H12 hq hb S12 st12 ht => ?_⟩
          have X12 := X11.draw st12
          have W12 := W11.frame st12 (fun i z => by rw [z]; exact noR0)
          clear S11 W11 X11 st12
          walk_at "lw"
          refine ⟨c12, M, s', q, t, rfl, ht, X12, wf, hq, fun c13 H13 t2 X13 st13 ht2 => ?_⟩
          have S13 := S12.frame st13 noM0
          have W13 := W12.frame st13 noM
          have ht := st13.tup _ _ ht
          clear S12 W12 X12 st13
          obtain ⟨d1, _, _, _, _, _, _, _, _, _, _, _, _, hR, _⟩ := W13.hs
          walk_at "lw"
          refine ⟨c13, x, s', q, t, rfl, ht, W13, wf, Rq.ok hq, ansOk I10.ph q, fun c14 H14 t3 W14 st14 ht3 => ?_⟩
          have S14 := S13.frame st14 noR0
          have X14 := X13.frame st14 noR7 noR8 noR10 noR11 noR12 noR13
          have ht2 := st14.tup _ _ ht2
          have r6 := ans_r6 I10 (by omega) hq hb
          obtain ⟨D2, I14⟩ := I10.ans (by omega) hq hb
          clear S13 W13 X13 st14 hR ht
          walk_at "lw"
          refine ⟨.ref t3, .ty "tuple", .type "tuple", .type "tuple", true, rfl, .ty _, .base (.tup ht3), rfl, ?_⟩
          walk_at "lw"
          refine g_rneK ht3 ht2 r6.s.okb r6.s.okb ?_
          walk_at "lw"
          refine ifF (by rw [decide_eq_true rfl]; rfl) ?_
          walk_at "lw"
          refine g_reprK ht3 r6 ?_
          walk_at "lw"
          refine g_reprK ht2 r6 ?_
          walk_at "lw"
          refine ifF (by rw [decide_eq_true rfl]; rfl) ?_
          walk_at "lw"
          exact ⟨c14, _, D2, _, _, _, _, _, _, rfl, S14, W14, X14, I14⟩
    · clear S11 X11 W11 I10
      rintro σ H12 ⟨c12, s2, D, v4, v5, v6, v7, v8, v9, rfl, S12, W12, ⟨bd, nd, pd, td, A', X12⟩, I12⟩
      obtain ⟨d1, d2, d3, d4, d5, w1, w2, w3, w4, w5, w6, w7, w8, hR, hp, hcl, hup, hco, hnm⟩ := W12.hs
      have dom : ∀ y, isRoot s2 y → PyData.strOk y = true := fun y hy => I12.Do y (I12.rt y hy)
      walk_at "lw"
      refine g_rdgetS (.of X12.hm) mdl_names ?_
      walk_at "lw"
      refine g_dneA hnm X12.hn ?_
      walk_at "lw"
      have dl := I12.Dl
      have nl := I12.nl
      refine ⟨c12, x, s2, D, rfl, W12, I12.rt, by omega, by omega, fun p1 ys1 H13 nd1 so1 hm1 s13 hp1 => ?_⟩
      walk_at "lw"
      refine ⟨c12, M, s2, D, rfl, (X12.same s13).at, by have := I12.cl; omega, fun i => by have := I12.Ll i; omega, by omega, I12.rt, by omega, fun p2 ys2 H14 nd2 so2 hm2 s14 hp2 => ?_⟩
      have e12 : ys1 = ys2 := str_sorted_eq (perm_same nd1 nd2 fun y => by rw [hm1, hm2]) so1 so2
      subst e12
      refine g_rneS (s14.at hp1) hp2 (fun y hy => dom y ((hm1 y).mp hy)) ?_
      have s14 := s13.trans s14
      have S14 := S12.frame (I := fun _ => False) (Stp.same s14) (by decide)
      have W14 := W12.same s14
      have X14 := X12.same s14
      have hR := s14.at hR
      have hcl := s14.at hcl
      clear S12 W12 X12 s14 s13 hp1 hp2 hm1 hm2 so1 so2 nd1 nd2 hp hup hco hnm
      walk_at "lw"
      have cl := I12.cl
      refine ⟨c12, x.cp, s2.n, s2.cs, s2.L, rfl, W14.cl, by omega, fun p1 ys1 H15 pe1 so1 s15 hp1 => ?_⟩
      have X15 := X14.same s15
      walk_at "lw"
      refine g_rdgetS (.of X15.hm) mdl_pins ?_
      walk_at "lw"
      refine ⟨pd, _, s2.cs, rfl, .of X15.hp, by unfold mkD; rw [List.map_map]; rfl, by omega, fun ys2 p2 pe2 so2 np2 => ?_⟩
      have e12 : ys1 = ys2 := int_sorted_eq (pe1.trans pe2.symm) so1 so2
      subst e12
      refine g_rneI (by rw [upd_ne (ne_of_none hp1 np2)]; exact hp1) upd_same ?_
      have s16 := s15.thenNew (o := .lst (ys1.map V.int)) np2
      have S16 := S14.frame (I := fun _ => False) (Stp.same s16) (by decide)
      have W16 := W14.same s16
      have X16 := X14.same s16
      walk_at "lw"
      exact ⟨c12, s2, D, _, _, _, _, _, _, rfl, S16, W16, X16.at, I12⟩
  · rintro σ H10 ⟨c10, s', D, v4, v5, v6, v7, v8, v9, rfl, S10, W10, ⟨bd, nd, pd, td, A', X10⟩, I10⟩
    obtain ⟨d1, d2, d3, d4, d5, w1, w2, w3, w4, w5, w6, w7, w8, hR, hp, hcl, hup, hco, hnm⟩ := W10.hs
    have kl := I10.kl
    walk_at "lw"
    refine ⟨c10, x.p, s'.ks, s'.B, rfl, W10.st, by omega, fun ys1 p1 H11 pe1 so1 s11 hp1 => ?_⟩
    have X11 := X10.same s11
    walk_at "lw"
    refine g_rdgetS (.of X11.hm) mdl_blobs ?_
    walk_at "lw"
    obtain ⟨Ab, b1, b2⟩ := X11.hb
    refine ⟨bd, _, s'.ks, rfl, .of b1, by unfold mkS; rw [List.map_map]; rfl, by omega, fun ys2 p2 pe2 so2 np2 => ?_⟩
    have e12 : ys1 = ys2 := str_sorted_eq (pe1.trans pe2.symm) so1 so2
    subst e12
    refine g_reqS (by rw [upd_ne (ne_of_none hp1 np2)]; exact hp1) upd_same (fun y hy => (adr_strOk y (I10.ko y (pe1.subset hy))).1) ?_
    walk_at "lw"
    exact k _
end
end Lw

namespace Lw
open PySem L2
open PyProof.Rows (envOfC)
theorem all_mk {l : PySem.W.OpenLaw} {w : World} {K : PySem.W.Frag} {h : Heap} {mg : Str → Option Value} {fa C_Claims C_Collector C_Store C_Uploads C_Registry C_Refused C_Malformed a_KINDS a_BELOW a_CLAIMED f_Claims___init__ f_Claims_begin f_Claims_is_open f_Claims_pin f_Claims_end f_Claims_numbers f_Claims_pinned f_Collector___init__ f_Collector_stop f_Collector_shade f_Store___init__ f_Store_keep f_Store_blob f_Store_addresses f_Store_below f_Store_is_whole f_Store_closure f_Uploads___init__ f_Uploads_begin f_Uploads_add_part f_Uploads_finish f_Uploads_forget f_Registry___init__ f_Registry_answer f_Registry_answer_plain f_Registry_kept f_Registry_answer_has f_Registry_answer_part f_Registry_answer_finish f_Registry_answer_put f_Registry_answer_name f_Registry_answer_get f_Registry_drop_name f_Registry_lapse f_Registry_fall f_Registry_roots f_Malformed___init__ f__wall f_address_of f_is_address f_image_text f_bundle_text f_lines_of f_read_image f_is_platform f_read_bundle f_references f__law_state f__law_take f__law_text f__law_refs f__law_whole f__law_kept f__law_finish f__law_put f__law_claimed f__law_answer f__law_without f__law_address f__law_text_of f__law_request f__law_roots f_law : Addr} {od_Claims___init__ an_Claims___init__ : Option Addr} {sl_Claims___init__ : Array (Option Value)} {oc_Claims___init__ kV_Claims___init__ dc_Claims___init__ pm_Claims___init__ cd_Claims___init__ ct_Claims___init__ : Value} {od_Claims_begin an_Claims_begin : Option Addr} {sl_Claims_begin : Array (Option Value)} {oc_Claims_begin kV_Claims_begin dc_Claims_begin pm_Claims_begin cd_Claims_begin ct_Claims_begin : Value} {od_Claims_is_open an_Claims_is_open : Option Addr} {sl_Claims_is_open : Array (Option Value)} {oc_Claims_is_open kV_Claims_is_open dc_Claims_is_open pm_Claims_is_open cd_Claims_is_open ct_Claims_is_open : Value} {od_Claims_pin an_Claims_pin : Option Addr} {sl_Claims_pin : Array (Option Value)} {oc_Claims_pin kV_Claims_pin dc_Claims_pin pm_Claims_pin cd_Claims_pin ct_Claims_pin : Value} {od_Claims_end an_Claims_end : Option Addr} {sl_Claims_end : Array (Option Value)} {oc_Claims_end kV_Claims_end dc_Claims_end pm_Claims_end cd_Claims_end ct_Claims_end : Value} {od_Claims_numbers an_Claims_numbers : Option Addr} {sl_Claims_numbers : Array (Option Value)} {oc_Claims_numbers kV_Claims_numbers dc_Claims_numbers pm_Claims_numbers cd_Claims_numbers ct_Claims_numbers : Value} {od_Claims_pinned an_Claims_pinned : Option Addr} {sl_Claims_pinned : Array (Option Value)} {oc_Claims_pinned kV_Claims_pinned dc_Claims_pinned pm_Claims_pinned cd_Claims_pinned ct_Claims_pinned : Value} {od_Collector___init__ an_Collector___init__ : Option Addr} {sl_Collector___init__ : Array (Option Value)} {oc_Collector___init__ kV_Collector___init__ dc_Collector___init__ pm_Collector___init__ cd_Collector___init__ ct_Collector___init__ : Value} {od_Collector_stop an_Collector_stop : Option Addr} {sl_Collector_stop : Array (Option Value)} {oc_Collector_stop kV_Collector_stop dc_Collector_stop pm_Collector_stop cd_Collector_stop ct_Collector_stop : Value} {od_Collector_shade an_Collector_shade : Option Addr} {sl_Collector_shade : Array (Option Value)} {oc_Collector_shade kV_Collector_shade dc_Collector_shade pm_Collector_shade cd_Collector_shade ct_Collector_shade : Value} {od_Store___init__ an_Store___init__ : Option Addr} {sl_Store___init__ : Array (Option Value)} {oc_Store___init__ kV_Store___init__ dc_Store___init__ pm_Store___init__ cd_Store___init__ ct_Store___init__ : Value} {od_Store_keep an_Store_keep : Option Addr} {sl_Store_keep : Array (Option Value)} {oc_Store_keep kV_Store_keep dc_Store_keep pm_Store_keep cd_Store_keep ct_Store_keep : Value} {od_Store_blob an_Store_blob : Option Addr} {sl_Store_blob : Array (Option Value)} {oc_Store_blob kV_Store_blob dc_Store_blob pm_Store_blob cd_Store_blob ct_Store_blob : Value} {od_Store_addresses an_Store_addresses : Option Addr} {sl_Store_addresses : Array (Option Value)} {oc_Store_addresses kV_Store_addresses dc_Store_addresses pm_Store_addresses cd_Store_addresses ct_Store_addresses : Value} {od_Store_below an_Store_below : Option Addr} {sl_Store_below : Array (Option Value)} {oc_Store_below kV_Store_below dc_Store_below pm_Store_below cd_Store_below ct_Store_below : Value} {od_Store_is_whole an_Store_is_whole : Option Addr} {sl_Store_is_whole : Array (Option Value)} {oc_Store_is_whole kV_Store_is_whole dc_Store_is_whole pm_Store_is_whole cd_Store_is_whole ct_Store_is_whole : Value} {od_Store_closure an_Store_closure : Option Addr} {sl_Store_closure : Array (Option Value)} {oc_Store_closure kV_Store_closure dc_Store_closure pm_Store_closure cd_Store_closure ct_Store_closure : Value} {od_Uploads___init__ an_Uploads___init__ : Option Addr} {sl_Uploads___init__ : Array (Option Value)} {oc_Uploads___init__ kV_Uploads___init__ dc_Uploads___init__ pm_Uploads___init__ cd_Uploads___init__ ct_Uploads___init__ : Value} {od_Uploads_begin an_Uploads_begin : Option Addr} {sl_Uploads_begin : Array (Option Value)} {oc_Uploads_begin kV_Uploads_begin dc_Uploads_begin pm_Uploads_begin cd_Uploads_begin ct_Uploads_begin : Value} {od_Uploads_add_part an_Uploads_add_part : Option Addr} {sl_Uploads_add_part : Array (Option Value)} {oc_Uploads_add_part kV_Uploads_add_part dc_Uploads_add_part pm_Uploads_add_part cd_Uploads_add_part ct_Uploads_add_part : Value} {od_Uploads_finish an_Uploads_finish : Option Addr} {sl_Uploads_finish : Array (Option Value)} {oc_Uploads_finish kV_Uploads_finish dc_Uploads_finish pm_Uploads_finish cd_Uploads_finish ct_Uploads_finish : Value} {od_Uploads_forget an_Uploads_forget : Option Addr} {sl_Uploads_forget : Array (Option Value)} {oc_Uploads_forget kV_Uploads_forget dc_Uploads_forget pm_Uploads_forget cd_Uploads_forget ct_Uploads_forget : Value} {od_Registry___init__ an_Registry___init__ : Option Addr} {sl_Registry___init__ : Array (Option Value)} {oc_Registry___init__ kV_Registry___init__ dc_Registry___init__ pm_Registry___init__ cd_Registry___init__ ct_Registry___init__ : Value} {od_Registry_answer an_Registry_answer : Option Addr} {sl_Registry_answer : Array (Option Value)} {oc_Registry_answer kV_Registry_answer dc_Registry_answer pm_Registry_answer cd_Registry_answer ct_Registry_answer : Value} {od_Registry_answer_plain an_Registry_answer_plain : Option Addr} {sl_Registry_answer_plain : Array (Option Value)} {oc_Registry_answer_plain kV_Registry_answer_plain dc_Registry_answer_plain pm_Registry_answer_plain cd_Registry_answer_plain ct_Registry_answer_plain : Value} {od_Registry_kept an_Registry_kept : Option Addr} {sl_Registry_kept : Array (Option Value)} {oc_Registry_kept kV_Registry_kept dc_Registry_kept pm_Registry_kept cd_Registry_kept ct_Registry_kept : Value} {od_Registry_answer_has an_Registry_answer_has : Option Addr} {sl_Registry_answer_has : Array (Option Value)} {oc_Registry_answer_has kV_Registry_answer_has dc_Registry_answer_has pm_Registry_answer_has cd_Registry_answer_has ct_Registry_answer_has : Value} {od_Registry_answer_part an_Registry_answer_part : Option Addr} {sl_Registry_answer_part : Array (Option Value)} {oc_Registry_answer_part kV_Registry_answer_part dc_Registry_answer_part pm_Registry_answer_part cd_Registry_answer_part ct_Registry_answer_part : Value} {od_Registry_answer_finish an_Registry_answer_finish : Option Addr} {sl_Registry_answer_finish : Array (Option Value)} {oc_Registry_answer_finish kV_Registry_answer_finish dc_Registry_answer_finish pm_Registry_answer_finish cd_Registry_answer_finish ct_Registry_answer_finish : Value} {od_Registry_answer_put an_Registry_answer_put : Option Addr} {sl_Registry_answer_put : Array (Option Value)} {oc_Registry_answer_put kV_Registry_answer_put dc_Registry_answer_put pm_Registry_answer_put cd_Registry_answer_put ct_Registry_answer_put : Value} {od_Registry_answer_name an_Registry_answer_name : Option Addr} {sl_Registry_answer_name : Array (Option Value)} {oc_Registry_answer_name kV_Registry_answer_name dc_Registry_answer_name pm_Registry_answer_name cd_Registry_answer_name ct_Registry_answer_name : Value} {od_Registry_answer_get an_Registry_answer_get : Option Addr} {sl_Registry_answer_get : Array (Option Value)} {oc_Registry_answer_get kV_Registry_answer_get dc_Registry_answer_get pm_Registry_answer_get cd_Registry_answer_get ct_Registry_answer_get : Value} {od_Registry_drop_name an_Registry_drop_name : Option Addr} {sl_Registry_drop_name : Array (Option Value)} {oc_Registry_drop_name kV_Registry_drop_name dc_Registry_drop_name pm_Registry_drop_name cd_Registry_drop_name ct_Registry_drop_name : Value} {od_Registry_lapse an_Registry_lapse : Option Addr} {sl_Registry_lapse : Array (Option Value)} {oc_Registry_lapse kV_Registry_lapse dc_Registry_lapse pm_Registry_lapse cd_Registry_lapse ct_Registry_lapse : Value} {od_Registry_fall an_Registry_fall : Option Addr} {sl_Registry_fall : Array (Option Value)} {oc_Registry_fall kV_Registry_fall dc_Registry_fall pm_Registry_fall cd_Registry_fall ct_Registry_fall : Value} {od_Registry_roots an_Registry_roots : Option Addr} {sl_Registry_roots : Array (Option Value)} {oc_Registry_roots kV_Registry_roots dc_Registry_roots pm_Registry_roots cd_Registry_roots ct_Registry_roots : Value} {od_Malformed___init__ an_Malformed___init__ : Option Addr} {sl_Malformed___init__ : Array (Option Value)} {oc_Malformed___init__ kV_Malformed___init__ dc_Malformed___init__ pm_Malformed___init__ cd_Malformed___init__ ct_Malformed___init__ : Value} {od__wall an__wall : Option Addr} {sl__wall : Array (Option Value)} {oc__wall kV__wall dc__wall pm__wall cd__wall ct__wall : Value} {od_address_of an_address_of : Option Addr} {sl_address_of : Array (Option Value)} {oc_address_of kV_address_of dc_address_of pm_address_of cd_address_of ct_address_of : Value} {od_is_address an_is_address : Option Addr} {sl_is_address : Array (Option Value)} {oc_is_address kV_is_address dc_is_address pm_is_address cd_is_address ct_is_address : Value} {od_image_text an_image_text : Option Addr} {sl_image_text : Array (Option Value)} {oc_image_text kV_image_text dc_image_text pm_image_text cd_image_text ct_image_text : Value} {od_bundle_text an_bundle_text : Option Addr} {sl_bundle_text : Array (Option Value)} {oc_bundle_text kV_bundle_text dc_bundle_text pm_bundle_text cd_bundle_text ct_bundle_text : Value} {od_lines_of an_lines_of : Option Addr} {sl_lines_of : Array (Option Value)} {oc_lines_of kV_lines_of dc_lines_of pm_lines_of cd_lines_of ct_lines_of : Value} {od_read_image an_read_image : Option Addr} {sl_read_image : Array (Option Value)} {oc_read_image kV_read_image dc_read_image pm_read_image cd_read_image ct_read_image : Value} {od_is_platform an_is_platform : Option Addr} {sl_is_platform : Array (Option Value)} {oc_is_platform kV_is_platform dc_is_platform pm_is_platform cd_is_platform ct_is_platform : Value} {od_read_bundle an_read_bundle : Option Addr} {sl_read_bundle : Array (Option Value)} {oc_read_bundle kV_read_bundle dc_read_bundle pm_read_bundle cd_read_bundle ct_read_bundle : Value} {od_references an_references : Option Addr} {sl_references : Array (Option Value)} {oc_references kV_references dc_references pm_references cd_references ct_references : Value} {od__law_state an__law_state : Option Addr} {sl__law_state : Array (Option Value)} {oc__law_state kV__law_state dc__law_state pm__law_state cd__law_state ct__law_state : Value} {od__law_take an__law_take : Option Addr} {sl__law_take : Array (Option Value)} {oc__law_take kV__law_take dc__law_take pm__law_take cd__law_take ct__law_take : Value} {od__law_text an__law_text : Option Addr} {sl__law_text : Array (Option Value)} {oc__law_text kV__law_text dc__law_text pm__law_text cd__law_text ct__law_text : Value} {od__law_refs an__law_refs : Option Addr} {sl__law_refs : Array (Option Value)} {oc__law_refs kV__law_refs dc__law_refs pm__law_refs cd__law_refs ct__law_refs : Value} {od__law_whole an__law_whole : Option Addr} {sl__law_whole : Array (Option Value)} {oc__law_whole kV__law_whole dc__law_whole pm__law_whole cd__law_whole ct__law_whole : Value} {od__law_kept an__law_kept : Option Addr} {sl__law_kept : Array (Option Value)} {oc__law_kept kV__law_kept dc__law_kept pm__law_kept cd__law_kept ct__law_kept : Value} {od__law_finish an__law_finish : Option Addr} {sl__law_finish : Array (Option Value)} {oc__law_finish kV__law_finish dc__law_finish pm__law_finish cd__law_finish ct__law_finish : Value} {od__law_put an__law_put : Option Addr} {sl__law_put : Array (Option Value)} {oc__law_put kV__law_put dc__law_put pm__law_put cd__law_put ct__law_put : Value} {od__law_claimed an__law_claimed : Option Addr} {sl__law_claimed : Array (Option Value)} {oc__law_claimed kV__law_claimed dc__law_claimed pm__law_claimed cd__law_claimed ct__law_claimed : Value} {od__law_answer an__law_answer : Option Addr} {sl__law_answer : Array (Option Value)} {oc__law_answer kV__law_answer dc__law_answer pm__law_answer cd__law_answer ct__law_answer : Value} {od__law_without an__law_without : Option Addr} {sl__law_without : Array (Option Value)} {oc__law_without kV__law_without dc__law_without pm__law_without cd__law_without ct__law_without : Value} {od__law_address an__law_address : Option Addr} {sl__law_address : Array (Option Value)} {oc__law_address kV__law_address dc__law_address pm__law_address cd__law_address ct__law_address : Value} {od__law_text_of an__law_text_of : Option Addr} {sl__law_text_of : Array (Option Value)} {oc__law_text_of kV__law_text_of dc__law_text_of pm__law_text_of cd__law_text_of ct__law_text_of : Value} {od__law_request an__law_request : Option Addr} {sl__law_request : Array (Option Value)} {oc__law_request kV__law_request dc__law_request pm__law_request cd__law_request ct__law_request : Value} {od__law_roots an__law_roots : Option Addr} {sl__law_roots : Array (Option Value)} {oc__law_roots kV__law_roots dc__law_roots pm__law_roots cd__law_roots ct__law_roots : Value} {od_law an_law : Option Addr} {sl_law : Array (Option Value)} {oc_law kV_law dc_law pm_law cd_law ct_law : Value} {nm_Malformed q_Malformed : Str} {N_Malformed : Addr} {bs_Malformed sb_Malformed : List Value} {sn_Malformed : List Str} {ab_Malformed : Bool} {col_Malformed : Option Bool} {dd_Malformed : Option Addr} {m0_Malformed m1_Malformed m2_Malformed m3_Malformed m5_Malformed : Option Value} {t_DIGITS t_LETTERS t_MAX_LINES t_PRIME : Tok} {its_KINDS : Array Value} {n_KINDS : Nat} {sl_KINDS : Array (Option Value)} {es_BELOW : Array DictEntry} {n_BELOW : Nat} {t_below1 t_below2 : Tok} {its_CLAIMED : Array Value} {n_CLAIMED : Nat} {sl_CLAIMED : Array (Option Value)} (X : K.In h) (G : h.Ns mainGlobals mg) (hfa : mg "law" = some (.ref fa))
    (a_Claims : PySem.W.nsIn K mainGlobals "Claims" = some (some (.ref C_Claims)))
    (pg_Claims : PySem.W.plainGet K C_Claims Str.empty = true)
    (hd_Claims : PySem.W.hasDictIn K C_Claims = true)
    (po_Claims : PySem.W.plainOver K C_Claims = true)
    (sa_Claims : PySem.W.findIn K (.ref C_Claims) "__setattr__" = some (some (.builtin "object.__setattr__")))
    (mk_Claims : PySem.W.makesIn K C_Claims = true)
    (kc_Claims : PySem.W.keepIn K (.ref C_Claims) = true)
    (na_Claims_last : PySem.W.findIn K (.ref C_Claims) "last" = some none)
    (na_Claims_pins : PySem.W.findIn K (.ref C_Claims) "pins" = some none)
    (a_Claims___init__ : PySem.W.findIn K (.ref C_Claims) "__init__" = some (some (.ref f_Claims___init__)))
    (i_Claims___init__ : PySem.W.isFn K (.ref f_Claims___init__) = true)
    (l_Claims___init__ : K.lookup f_Claims___init__ = some ⟨oc_Claims___init__, od_Claims___init__, .func (PySem.W.fnOf "__init__" "Claims.__init__" (defArgs s_Claims___init__) (defBody s_Claims___init__) (defScope s_Claims___init__) .none kV_Claims___init__ dc_Claims___init__ pm_Claims___init__ an_Claims___init__ cd_Claims___init__ ct_Claims___init__), sl_Claims___init__⟩)
    (c_Claims___init__ : PySem.W.codeIn K cd_Claims___init__ "Claims.__init__" = true)
    (k_Claims___init__ : PySem.W.keepIn K (.ref f_Claims___init__) = true)
    (a_Claims_begin : PySem.W.findIn K (.ref C_Claims) "begin" = some (some (.ref f_Claims_begin)))
    (i_Claims_begin : PySem.W.isFn K (.ref f_Claims_begin) = true)
    (l_Claims_begin : K.lookup f_Claims_begin = some ⟨oc_Claims_begin, od_Claims_begin, .func (PySem.W.fnOf "begin" "Claims.begin" (defArgs s_Claims_begin) (defBody s_Claims_begin) (defScope s_Claims_begin) .none kV_Claims_begin dc_Claims_begin pm_Claims_begin an_Claims_begin cd_Claims_begin ct_Claims_begin), sl_Claims_begin⟩)
    (c_Claims_begin : PySem.W.codeIn K cd_Claims_begin "Claims.begin" = true)
    (k_Claims_begin : PySem.W.keepIn K (.ref f_Claims_begin) = true)
    (a_Claims_is_open : PySem.W.findIn K (.ref C_Claims) "is_open" = some (some (.ref f_Claims_is_open)))
    (i_Claims_is_open : PySem.W.isFn K (.ref f_Claims_is_open) = true)
    (l_Claims_is_open : K.lookup f_Claims_is_open = some ⟨oc_Claims_is_open, od_Claims_is_open, .func (PySem.W.fnOf "is_open" "Claims.is_open" (defArgs s_Claims_is_open) (defBody s_Claims_is_open) (defScope s_Claims_is_open) .none kV_Claims_is_open dc_Claims_is_open pm_Claims_is_open an_Claims_is_open cd_Claims_is_open ct_Claims_is_open), sl_Claims_is_open⟩)
    (c_Claims_is_open : PySem.W.codeIn K cd_Claims_is_open "Claims.is_open" = true)
    (k_Claims_is_open : PySem.W.keepIn K (.ref f_Claims_is_open) = true)
    (a_Claims_pin : PySem.W.findIn K (.ref C_Claims) "pin" = some (some (.ref f_Claims_pin)))
    (i_Claims_pin : PySem.W.isFn K (.ref f_Claims_pin) = true)
    (l_Claims_pin : K.lookup f_Claims_pin = some ⟨oc_Claims_pin, od_Claims_pin, .func (PySem.W.fnOf "pin" "Claims.pin" (defArgs s_Claims_pin) (defBody s_Claims_pin) (defScope s_Claims_pin) .none kV_Claims_pin dc_Claims_pin pm_Claims_pin an_Claims_pin cd_Claims_pin ct_Claims_pin), sl_Claims_pin⟩)
    (c_Claims_pin : PySem.W.codeIn K cd_Claims_pin "Claims.pin" = true)
    (k_Claims_pin : PySem.W.keepIn K (.ref f_Claims_pin) = true)
    (a_Claims_end : PySem.W.findIn K (.ref C_Claims) "end" = some (some (.ref f_Claims_end)))
    (i_Claims_end : PySem.W.isFn K (.ref f_Claims_end) = true)
    (l_Claims_end : K.lookup f_Claims_end = some ⟨oc_Claims_end, od_Claims_end, .func (PySem.W.fnOf "end" "Claims.end" (defArgs s_Claims_end) (defBody s_Claims_end) (defScope s_Claims_end) .none kV_Claims_end dc_Claims_end pm_Claims_end an_Claims_end cd_Claims_end ct_Claims_end), sl_Claims_end⟩)
    (c_Claims_end : PySem.W.codeIn K cd_Claims_end "Claims.end" = true)
    (k_Claims_end : PySem.W.keepIn K (.ref f_Claims_end) = true)
    (a_Claims_numbers : PySem.W.findIn K (.ref C_Claims) "numbers" = some (some (.ref f_Claims_numbers)))
    (i_Claims_numbers : PySem.W.isFn K (.ref f_Claims_numbers) = true)
    (l_Claims_numbers : K.lookup f_Claims_numbers = some ⟨oc_Claims_numbers, od_Claims_numbers, .func (PySem.W.fnOf "numbers" "Claims.numbers" (defArgs s_Claims_numbers) (defBody s_Claims_numbers) (defScope s_Claims_numbers) .none kV_Claims_numbers dc_Claims_numbers pm_Claims_numbers an_Claims_numbers cd_Claims_numbers ct_Claims_numbers), sl_Claims_numbers⟩)
    (c_Claims_numbers : PySem.W.codeIn K cd_Claims_numbers "Claims.numbers" = true)
    (k_Claims_numbers : PySem.W.keepIn K (.ref f_Claims_numbers) = true)
    (a_Claims_pinned : PySem.W.findIn K (.ref C_Claims) "pinned" = some (some (.ref f_Claims_pinned)))
    (i_Claims_pinned : PySem.W.isFn K (.ref f_Claims_pinned) = true)
    (l_Claims_pinned : K.lookup f_Claims_pinned = some ⟨oc_Claims_pinned, od_Claims_pinned, .func (PySem.W.fnOf "pinned" "Claims.pinned" (defArgs s_Claims_pinned) (defBody s_Claims_pinned) (defScope s_Claims_pinned) .none kV_Claims_pinned dc_Claims_pinned pm_Claims_pinned an_Claims_pinned cd_Claims_pinned ct_Claims_pinned), sl_Claims_pinned⟩)
    (c_Claims_pinned : PySem.W.codeIn K cd_Claims_pinned "Claims.pinned" = true)
    (k_Claims_pinned : PySem.W.keepIn K (.ref f_Claims_pinned) = true)
    (a_Collector : PySem.W.nsIn K mainGlobals "Collector" = some (some (.ref C_Collector)))
    (pg_Collector : PySem.W.plainGet K C_Collector Str.empty = true)
    (hd_Collector : PySem.W.hasDictIn K C_Collector = true)
    (po_Collector : PySem.W.plainOver K C_Collector = true)
    (sa_Collector : PySem.W.findIn K (.ref C_Collector) "__setattr__" = some (some (.builtin "object.__setattr__")))
    (mk_Collector : PySem.W.makesIn K C_Collector = true)
    (kc_Collector : PySem.W.keepIn K (.ref C_Collector) = true)
    (na_Collector_store : PySem.W.findIn K (.ref C_Collector) "store" = some none)
    (na_Collector_phase : PySem.W.findIn K (.ref C_Collector) "phase" = some none)
    (na_Collector_marked : PySem.W.findIn K (.ref C_Collector) "marked" = some none)
    (na_Collector_todo : PySem.W.findIn K (.ref C_Collector) "todo" = some none)
    (na_Collector_doomed : PySem.W.findIn K (.ref C_Collector) "doomed" = some none)
    (a_Collector___init__ : PySem.W.findIn K (.ref C_Collector) "__init__" = some (some (.ref f_Collector___init__)))
    (i_Collector___init__ : PySem.W.isFn K (.ref f_Collector___init__) = true)
    (l_Collector___init__ : K.lookup f_Collector___init__ = some ⟨oc_Collector___init__, od_Collector___init__, .func (PySem.W.fnOf "__init__" "Collector.__init__" (defArgs s_Collector___init__) (defBody s_Collector___init__) (defScope s_Collector___init__) .none kV_Collector___init__ dc_Collector___init__ pm_Collector___init__ an_Collector___init__ cd_Collector___init__ ct_Collector___init__), sl_Collector___init__⟩)
    (c_Collector___init__ : PySem.W.codeIn K cd_Collector___init__ "Collector.__init__" = true)
    (k_Collector___init__ : PySem.W.keepIn K (.ref f_Collector___init__) = true)
    (a_Collector_stop : PySem.W.findIn K (.ref C_Collector) "stop" = some (some (.ref f_Collector_stop)))
    (i_Collector_stop : PySem.W.isFn K (.ref f_Collector_stop) = true)
    (l_Collector_stop : K.lookup f_Collector_stop = some ⟨oc_Collector_stop, od_Collector_stop, .func (PySem.W.fnOf "stop" "Collector.stop" (defArgs s_Collector_stop) (defBody s_Collector_stop) (defScope s_Collector_stop) .none kV_Collector_stop dc_Collector_stop pm_Collector_stop an_Collector_stop cd_Collector_stop ct_Collector_stop), sl_Collector_stop⟩)
    (c_Collector_stop : PySem.W.codeIn K cd_Collector_stop "Collector.stop" = true)
    (k_Collector_stop : PySem.W.keepIn K (.ref f_Collector_stop) = true)
    (a_Collector_shade : PySem.W.findIn K (.ref C_Collector) "shade" = some (some (.ref f_Collector_shade)))
    (i_Collector_shade : PySem.W.isFn K (.ref f_Collector_shade) = true)
    (l_Collector_shade : K.lookup f_Collector_shade = some ⟨oc_Collector_shade, od_Collector_shade, .func (PySem.W.fnOf "shade" "Collector.shade" (defArgs s_Collector_shade) (defBody s_Collector_shade) (defScope s_Collector_shade) .none kV_Collector_shade dc_Collector_shade pm_Collector_shade an_Collector_shade cd_Collector_shade ct_Collector_shade), sl_Collector_shade⟩)
    (c_Collector_shade : PySem.W.codeIn K cd_Collector_shade "Collector.shade" = true)
    (k_Collector_shade : PySem.W.keepIn K (.ref f_Collector_shade) = true)
    (a_Store : PySem.W.nsIn K mainGlobals "Store" = some (some (.ref C_Store)))
    (pg_Store : PySem.W.plainGet K C_Store Str.empty = true)
    (hd_Store : PySem.W.hasDictIn K C_Store = true)
    (po_Store : PySem.W.plainOver K C_Store = true)
    (sa_Store : PySem.W.findIn K (.ref C_Store) "__setattr__" = some (some (.builtin "object.__setattr__")))
    (mk_Store : PySem.W.makesIn K C_Store = true)
    (kc_Store : PySem.W.keepIn K (.ref C_Store) = true)
    (na_Store_blobs : PySem.W.findIn K (.ref C_Store) "blobs" = some none)
    (a_Store___init__ : PySem.W.findIn K (.ref C_Store) "__init__" = some (some (.ref f_Store___init__)))
    (i_Store___init__ : PySem.W.isFn K (.ref f_Store___init__) = true)
    (l_Store___init__ : K.lookup f_Store___init__ = some ⟨oc_Store___init__, od_Store___init__, .func (PySem.W.fnOf "__init__" "Store.__init__" (defArgs s_Store___init__) (defBody s_Store___init__) (defScope s_Store___init__) .none kV_Store___init__ dc_Store___init__ pm_Store___init__ an_Store___init__ cd_Store___init__ ct_Store___init__), sl_Store___init__⟩)
    (c_Store___init__ : PySem.W.codeIn K cd_Store___init__ "Store.__init__" = true)
    (k_Store___init__ : PySem.W.keepIn K (.ref f_Store___init__) = true)
    (a_Store_keep : PySem.W.findIn K (.ref C_Store) "keep" = some (some (.ref f_Store_keep)))
    (i_Store_keep : PySem.W.isFn K (.ref f_Store_keep) = true)
    (l_Store_keep : K.lookup f_Store_keep = some ⟨oc_Store_keep, od_Store_keep, .func (PySem.W.fnOf "keep" "Store.keep" (defArgs s_Store_keep) (defBody s_Store_keep) (defScope s_Store_keep) .none kV_Store_keep dc_Store_keep pm_Store_keep an_Store_keep cd_Store_keep ct_Store_keep), sl_Store_keep⟩)
    (c_Store_keep : PySem.W.codeIn K cd_Store_keep "Store.keep" = true)
    (k_Store_keep : PySem.W.keepIn K (.ref f_Store_keep) = true)
    (a_Store_blob : PySem.W.findIn K (.ref C_Store) "blob" = some (some (.ref f_Store_blob)))
    (i_Store_blob : PySem.W.isFn K (.ref f_Store_blob) = true)
    (l_Store_blob : K.lookup f_Store_blob = some ⟨oc_Store_blob, od_Store_blob, .func (PySem.W.fnOf "blob" "Store.blob" (defArgs s_Store_blob) (defBody s_Store_blob) (defScope s_Store_blob) .none kV_Store_blob dc_Store_blob pm_Store_blob an_Store_blob cd_Store_blob ct_Store_blob), sl_Store_blob⟩)
    (c_Store_blob : PySem.W.codeIn K cd_Store_blob "Store.blob" = true)
    (k_Store_blob : PySem.W.keepIn K (.ref f_Store_blob) = true)
    (a_Store_addresses : PySem.W.findIn K (.ref C_Store) "addresses" = some (some (.ref f_Store_addresses)))
    (i_Store_addresses : PySem.W.isFn K (.ref f_Store_addresses) = true)
    (l_Store_addresses : K.lookup f_Store_addresses = some ⟨oc_Store_addresses, od_Store_addresses, .func (PySem.W.fnOf "addresses" "Store.addresses" (defArgs s_Store_addresses) (defBody s_Store_addresses) (defScope s_Store_addresses) .none kV_Store_addresses dc_Store_addresses pm_Store_addresses an_Store_addresses cd_Store_addresses ct_Store_addresses), sl_Store_addresses⟩)
    (c_Store_addresses : PySem.W.codeIn K cd_Store_addresses "Store.addresses" = true)
    (k_Store_addresses : PySem.W.keepIn K (.ref f_Store_addresses) = true)
    (a_Store_below : PySem.W.findIn K (.ref C_Store) "below" = some (some (.ref f_Store_below)))
    (i_Store_below : PySem.W.isFn K (.ref f_Store_below) = true)
    (l_Store_below : K.lookup f_Store_below = some ⟨oc_Store_below, od_Store_below, .func (PySem.W.fnOf "below" "Store.below" (defArgs s_Store_below) (defBody s_Store_below) (defScope s_Store_below) .none kV_Store_below dc_Store_below pm_Store_below an_Store_below cd_Store_below ct_Store_below), sl_Store_below⟩)
    (c_Store_below : PySem.W.codeIn K cd_Store_below "Store.below" = true)
    (k_Store_below : PySem.W.keepIn K (.ref f_Store_below) = true)
    (a_Store_is_whole : PySem.W.findIn K (.ref C_Store) "is_whole" = some (some (.ref f_Store_is_whole)))
    (i_Store_is_whole : PySem.W.isFn K (.ref f_Store_is_whole) = true)
    (l_Store_is_whole : K.lookup f_Store_is_whole = some ⟨oc_Store_is_whole, od_Store_is_whole, .func (PySem.W.fnOf "is_whole" "Store.is_whole" (defArgs s_Store_is_whole) (defBody s_Store_is_whole) (defScope s_Store_is_whole) .none kV_Store_is_whole dc_Store_is_whole pm_Store_is_whole an_Store_is_whole cd_Store_is_whole ct_Store_is_whole), sl_Store_is_whole⟩)
    (c_Store_is_whole : PySem.W.codeIn K cd_Store_is_whole "Store.is_whole" = true)
    (k_Store_is_whole : PySem.W.keepIn K (.ref f_Store_is_whole) = true)
    (a_Store_closure : PySem.W.findIn K (.ref C_Store) "closure" = some (some (.ref f_Store_closure)))
    (i_Store_closure : PySem.W.isFn K (.ref f_Store_closure) = true)
    (l_Store_closure : K.lookup f_Store_closure = some ⟨oc_Store_closure, od_Store_closure, .func (PySem.W.fnOf "closure" "Store.closure" (defArgs s_Store_closure) (defBody s_Store_closure) (defScope s_Store_closure) .none kV_Store_closure dc_Store_closure pm_Store_closure an_Store_closure cd_Store_closure ct_Store_closure), sl_Store_closure⟩)
    (c_Store_closure : PySem.W.codeIn K cd_Store_closure "Store.closure" = true)
    (k_Store_closure : PySem.W.keepIn K (.ref f_Store_closure) = true)
    (a_Uploads : PySem.W.nsIn K mainGlobals "Uploads" = some (some (.ref C_Uploads)))
    (pg_Uploads : PySem.W.plainGet K C_Uploads Str.empty = true)
    (hd_Uploads : PySem.W.hasDictIn K C_Uploads = true)
    (po_Uploads : PySem.W.plainOver K C_Uploads = true)
    (sa_Uploads : PySem.W.findIn K (.ref C_Uploads) "__setattr__" = some (some (.builtin "object.__setattr__")))
    (mk_Uploads : PySem.W.makesIn K C_Uploads = true)
    (kc_Uploads : PySem.W.keepIn K (.ref C_Uploads) = true)
    (na_Uploads_last : PySem.W.findIn K (.ref C_Uploads) "last" = some none)
    (na_Uploads_texts : PySem.W.findIn K (.ref C_Uploads) "texts" = some none)
    (a_Uploads___init__ : PySem.W.findIn K (.ref C_Uploads) "__init__" = some (some (.ref f_Uploads___init__)))
    (i_Uploads___init__ : PySem.W.isFn K (.ref f_Uploads___init__) = true)
    (l_Uploads___init__ : K.lookup f_Uploads___init__ = some ⟨oc_Uploads___init__, od_Uploads___init__, .func (PySem.W.fnOf "__init__" "Uploads.__init__" (defArgs s_Uploads___init__) (defBody s_Uploads___init__) (defScope s_Uploads___init__) .none kV_Uploads___init__ dc_Uploads___init__ pm_Uploads___init__ an_Uploads___init__ cd_Uploads___init__ ct_Uploads___init__), sl_Uploads___init__⟩)
    (c_Uploads___init__ : PySem.W.codeIn K cd_Uploads___init__ "Uploads.__init__" = true)
    (k_Uploads___init__ : PySem.W.keepIn K (.ref f_Uploads___init__) = true)
    (a_Uploads_begin : PySem.W.findIn K (.ref C_Uploads) "begin" = some (some (.ref f_Uploads_begin)))
    (i_Uploads_begin : PySem.W.isFn K (.ref f_Uploads_begin) = true)
    (l_Uploads_begin : K.lookup f_Uploads_begin = some ⟨oc_Uploads_begin, od_Uploads_begin, .func (PySem.W.fnOf "begin" "Uploads.begin" (defArgs s_Uploads_begin) (defBody s_Uploads_begin) (defScope s_Uploads_begin) .none kV_Uploads_begin dc_Uploads_begin pm_Uploads_begin an_Uploads_begin cd_Uploads_begin ct_Uploads_begin), sl_Uploads_begin⟩)
    (c_Uploads_begin : PySem.W.codeIn K cd_Uploads_begin "Uploads.begin" = true)
    (k_Uploads_begin : PySem.W.keepIn K (.ref f_Uploads_begin) = true)
    (a_Uploads_add_part : PySem.W.findIn K (.ref C_Uploads) "add_part" = some (some (.ref f_Uploads_add_part)))
    (i_Uploads_add_part : PySem.W.isFn K (.ref f_Uploads_add_part) = true)
    (l_Uploads_add_part : K.lookup f_Uploads_add_part = some ⟨oc_Uploads_add_part, od_Uploads_add_part, .func (PySem.W.fnOf "add_part" "Uploads.add_part" (defArgs s_Uploads_add_part) (defBody s_Uploads_add_part) (defScope s_Uploads_add_part) .none kV_Uploads_add_part dc_Uploads_add_part pm_Uploads_add_part an_Uploads_add_part cd_Uploads_add_part ct_Uploads_add_part), sl_Uploads_add_part⟩)
    (c_Uploads_add_part : PySem.W.codeIn K cd_Uploads_add_part "Uploads.add_part" = true)
    (k_Uploads_add_part : PySem.W.keepIn K (.ref f_Uploads_add_part) = true)
    (a_Uploads_finish : PySem.W.findIn K (.ref C_Uploads) "finish" = some (some (.ref f_Uploads_finish)))
    (i_Uploads_finish : PySem.W.isFn K (.ref f_Uploads_finish) = true)
    (l_Uploads_finish : K.lookup f_Uploads_finish = some ⟨oc_Uploads_finish, od_Uploads_finish, .func (PySem.W.fnOf "finish" "Uploads.finish" (defArgs s_Uploads_finish) (defBody s_Uploads_finish) (defScope s_Uploads_finish) .none kV_Uploads_finish dc_Uploads_finish pm_Uploads_finish an_Uploads_finish cd_Uploads_finish ct_Uploads_finish), sl_Uploads_finish⟩)
    (c_Uploads_finish : PySem.W.codeIn K cd_Uploads_finish "Uploads.finish" = true)
    (k_Uploads_finish : PySem.W.keepIn K (.ref f_Uploads_finish) = true)
    (a_Uploads_forget : PySem.W.findIn K (.ref C_Uploads) "forget" = some (some (.ref f_Uploads_forget)))
    (i_Uploads_forget : PySem.W.isFn K (.ref f_Uploads_forget) = true)
    (l_Uploads_forget : K.lookup f_Uploads_forget = some ⟨oc_Uploads_forget, od_Uploads_forget, .func (PySem.W.fnOf "forget" "Uploads.forget" (defArgs s_Uploads_forget) (defBody s_Uploads_forget) (defScope s_Uploads_forget) .none kV_Uploads_forget dc_Uploads_forget pm_Uploads_forget an_Uploads_forget cd_Uploads_forget ct_Uploads_forget), sl_Uploads_forget⟩)
    (c_Uploads_forget : PySem.W.codeIn K cd_Uploads_forget "Uploads.forget" = true)
    (k_Uploads_forget : PySem.W.keepIn K (.ref f_Uploads_forget) = true)
    (a_Registry : PySem.W.nsIn K mainGlobals "Registry" = some (some (.ref C_Registry)))
    (pg_Registry : PySem.W.plainGet K C_Registry Str.empty = true)
    (hd_Registry : PySem.W.hasDictIn K C_Registry = true)
    (po_Registry : PySem.W.plainOver K C_Registry = true)
    (sa_Registry : PySem.W.findIn K (.ref C_Registry) "__setattr__" = some (some (.builtin "object.__setattr__")))
    (mk_Registry : PySem.W.makesIn K C_Registry = true)
    (kc_Registry : PySem.W.keepIn K (.ref C_Registry) = true)
    (na_Registry_store : PySem.W.findIn K (.ref C_Registry) "store" = some none)
    (na_Registry_names : PySem.W.findIn K (.ref C_Registry) "names" = some none)
    (na_Registry_claims : PySem.W.findIn K (.ref C_Registry) "claims" = some none)
    (na_Registry_uploads : PySem.W.findIn K (.ref C_Registry) "uploads" = some none)
    (na_Registry_collector : PySem.W.findIn K (.ref C_Registry) "collector" = some none)
    (a_Registry___init__ : PySem.W.findIn K (.ref C_Registry) "__init__" = some (some (.ref f_Registry___init__)))
    (i_Registry___init__ : PySem.W.isFn K (.ref f_Registry___init__) = true)
    (l_Registry___init__ : K.lookup f_Registry___init__ = some ⟨oc_Registry___init__, od_Registry___init__, .func (PySem.W.fnOf "__init__" "Registry.__init__" (defArgs s_Registry___init__) (defBody s_Registry___init__) (defScope s_Registry___init__) .none kV_Registry___init__ dc_Registry___init__ pm_Registry___init__ an_Registry___init__ cd_Registry___init__ ct_Registry___init__), sl_Registry___init__⟩)
    (c_Registry___init__ : PySem.W.codeIn K cd_Registry___init__ "Registry.__init__" = true)
    (k_Registry___init__ : PySem.W.keepIn K (.ref f_Registry___init__) = true)
    (a_Registry_answer : PySem.W.findIn K (.ref C_Registry) "answer" = some (some (.ref f_Registry_answer)))
    (i_Registry_answer : PySem.W.isFn K (.ref f_Registry_answer) = true)
    (l_Registry_answer : K.lookup f_Registry_answer = some ⟨oc_Registry_answer, od_Registry_answer, .func (PySem.W.fnOf "answer" "Registry.answer" (defArgs s_Registry_answer) (defBody s_Registry_answer) (defScope s_Registry_answer) .none kV_Registry_answer dc_Registry_answer pm_Registry_answer an_Registry_answer cd_Registry_answer ct_Registry_answer), sl_Registry_answer⟩)
    (c_Registry_answer : PySem.W.codeIn K cd_Registry_answer "Registry.answer" = true)
    (k_Registry_answer : PySem.W.keepIn K (.ref f_Registry_answer) = true)
    (a_Registry_answer_plain : PySem.W.findIn K (.ref C_Registry) "answer_plain" = some (some (.ref f_Registry_answer_plain)))
    (i_Registry_answer_plain : PySem.W.isFn K (.ref f_Registry_answer_plain) = true)
    (l_Registry_answer_plain : K.lookup f_Registry_answer_plain = some ⟨oc_Registry_answer_plain, od_Registry_answer_plain, .func (PySem.W.fnOf "answer_plain" "Registry.answer_plain" (defArgs s_Registry_answer_plain) (defBody s_Registry_answer_plain) (defScope s_Registry_answer_plain) .none kV_Registry_answer_plain dc_Registry_answer_plain pm_Registry_answer_plain an_Registry_answer_plain cd_Registry_answer_plain ct_Registry_answer_plain), sl_Registry_answer_plain⟩)
    (c_Registry_answer_plain : PySem.W.codeIn K cd_Registry_answer_plain "Registry.answer_plain" = true)
    (k_Registry_answer_plain : PySem.W.keepIn K (.ref f_Registry_answer_plain) = true)
    (a_Registry_kept : PySem.W.findIn K (.ref C_Registry) "kept" = some (some (.ref f_Registry_kept)))
    (i_Registry_kept : PySem.W.isFn K (.ref f_Registry_kept) = true)
    (l_Registry_kept : K.lookup f_Registry_kept = some ⟨oc_Registry_kept, od_Registry_kept, .func (PySem.W.fnOf "kept" "Registry.kept" (defArgs s_Registry_kept) (defBody s_Registry_kept) (defScope s_Registry_kept) .none kV_Registry_kept dc_Registry_kept pm_Registry_kept an_Registry_kept cd_Registry_kept ct_Registry_kept), sl_Registry_kept⟩)
    (c_Registry_kept : PySem.W.codeIn K cd_Registry_kept "Registry.kept" = true)
    (k_Registry_kept : PySem.W.keepIn K (.ref f_Registry_kept) = true)
    (a_Registry_answer_has : PySem.W.findIn K (.ref C_Registry) "answer_has" = some (some (.ref f_Registry_answer_has)))
    (i_Registry_answer_has : PySem.W.isFn K (.ref f_Registry_answer_has) = true)
    (l_Registry_answer_has : K.lookup f_Registry_answer_has = some ⟨oc_Registry_answer_has, od_Registry_answer_has, .func (PySem.W.fnOf "answer_has" "Registry.answer_has" (defArgs s_Registry_answer_has) (defBody s_Registry_answer_has) (defScope s_Registry_answer_has) .none kV_Registry_answer_has dc_Registry_answer_has pm_Registry_answer_has an_Registry_answer_has cd_Registry_answer_has ct_Registry_answer_has), sl_Registry_answer_has⟩)
    (c_Registry_answer_has : PySem.W.codeIn K cd_Registry_answer_has "Registry.answer_has" = true)
    (k_Registry_answer_has : PySem.W.keepIn K (.ref f_Registry_answer_has) = true)
    (a_Registry_answer_part : PySem.W.findIn K (.ref C_Registry) "answer_part" = some (some (.ref f_Registry_answer_part)))
    (i_Registry_answer_part : PySem.W.isFn K (.ref f_Registry_answer_part) = true)
    (l_Registry_answer_part : K.lookup f_Registry_answer_part = some ⟨oc_Registry_answer_part, od_Registry_answer_part, .func (PySem.W.fnOf "answer_part" "Registry.answer_part" (defArgs s_Registry_answer_part) (defBody s_Registry_answer_part) (defScope s_Registry_answer_part) .none kV_Registry_answer_part dc_Registry_answer_part pm_Registry_answer_part an_Registry_answer_part cd_Registry_answer_part ct_Registry_answer_part), sl_Registry_answer_part⟩)
    (c_Registry_answer_part : PySem.W.codeIn K cd_Registry_answer_part "Registry.answer_part" = true)
    (k_Registry_answer_part : PySem.W.keepIn K (.ref f_Registry_answer_part) = true)
    (a_Registry_answer_finish : PySem.W.findIn K (.ref C_Registry) "answer_finish" = some (some (.ref f_Registry_answer_finish)))
    (i_Registry_answer_finish : PySem.W.isFn K (.ref f_Registry_answer_finish) = true)
    (l_Registry_answer_finish : K.lookup f_Registry_answer_finish = some ⟨oc_Registry_answer_finish, od_Registry_answer_finish, .func (PySem.W.fnOf "answer_finish" "Registry.answer_finish" (defArgs s_Registry_answer_finish) (defBody s_Registry_answer_finish) (defScope s_Registry_answer_finish) .none kV_Registry_answer_finish dc_Registry_answer_finish pm_Registry_answer_finish an_Registry_answer_finish cd_Registry_answer_finish ct_Registry_answer_finish), sl_Registry_answer_finish⟩)
    (c_Registry_answer_finish : PySem.W.codeIn K cd_Registry_answer_finish "Registry.answer_finish" = true)
    (k_Registry_answer_finish : PySem.W.keepIn K (.ref f_Registry_answer_finish) = true)
    (a_Registry_answer_put : PySem.W.findIn K (.ref C_Registry) "answer_put" = some (some (.ref f_Registry_answer_put)))
    (i_Registry_answer_put : PySem.W.isFn K (.ref f_Registry_answer_put) = true)
    (l_Registry_answer_put : K.lookup f_Registry_answer_put = some ⟨oc_Registry_answer_put, od_Registry_answer_put, .func (PySem.W.fnOf "answer_put" "Registry.answer_put" (defArgs s_Registry_answer_put) (defBody s_Registry_answer_put) (defScope s_Registry_answer_put) .none kV_Registry_answer_put dc_Registry_answer_put pm_Registry_answer_put an_Registry_answer_put cd_Registry_answer_put ct_Registry_answer_put), sl_Registry_answer_put⟩)
    (c_Registry_answer_put : PySem.W.codeIn K cd_Registry_answer_put "Registry.answer_put" = true)
    (k_Registry_answer_put : PySem.W.keepIn K (.ref f_Registry_answer_put) = true)
    (a_Registry_answer_name : PySem.W.findIn K (.ref C_Registry) "answer_name" = some (some (.ref f_Registry_answer_name)))
    (i_Registry_answer_name : PySem.W.isFn K (.ref f_Registry_answer_name) = true)
    (l_Registry_answer_name : K.lookup f_Registry_answer_name = some ⟨oc_Registry_answer_name, od_Registry_answer_name, .func (PySem.W.fnOf "answer_name" "Registry.answer_name" (defArgs s_Registry_answer_name) (defBody s_Registry_answer_name) (defScope s_Registry_answer_name) .none kV_Registry_answer_name dc_Registry_answer_name pm_Registry_answer_name an_Registry_answer_name cd_Registry_answer_name ct_Registry_answer_name), sl_Registry_answer_name⟩)
    (c_Registry_answer_name : PySem.W.codeIn K cd_Registry_answer_name "Registry.answer_name" = true)
    (k_Registry_answer_name : PySem.W.keepIn K (.ref f_Registry_answer_name) = true)
    (a_Registry_answer_get : PySem.W.findIn K (.ref C_Registry) "answer_get" = some (some (.ref f_Registry_answer_get)))
    (i_Registry_answer_get : PySem.W.isFn K (.ref f_Registry_answer_get) = true)
    (l_Registry_answer_get : K.lookup f_Registry_answer_get = some ⟨oc_Registry_answer_get, od_Registry_answer_get, .func (PySem.W.fnOf "answer_get" "Registry.answer_get" (defArgs s_Registry_answer_get) (defBody s_Registry_answer_get) (defScope s_Registry_answer_get) .none kV_Registry_answer_get dc_Registry_answer_get pm_Registry_answer_get an_Registry_answer_get cd_Registry_answer_get ct_Registry_answer_get), sl_Registry_answer_get⟩)
    (c_Registry_answer_get : PySem.W.codeIn K cd_Registry_answer_get "Registry.answer_get" = true)
    (k_Registry_answer_get : PySem.W.keepIn K (.ref f_Registry_answer_get) = true)
    (a_Registry_drop_name : PySem.W.findIn K (.ref C_Registry) "drop_name" = some (some (.ref f_Registry_drop_name)))
    (i_Registry_drop_name : PySem.W.isFn K (.ref f_Registry_drop_name) = true)
    (l_Registry_drop_name : K.lookup f_Registry_drop_name = some ⟨oc_Registry_drop_name, od_Registry_drop_name, .func (PySem.W.fnOf "drop_name" "Registry.drop_name" (defArgs s_Registry_drop_name) (defBody s_Registry_drop_name) (defScope s_Registry_drop_name) .none kV_Registry_drop_name dc_Registry_drop_name pm_Registry_drop_name an_Registry_drop_name cd_Registry_drop_name ct_Registry_drop_name), sl_Registry_drop_name⟩)
    (c_Registry_drop_name : PySem.W.codeIn K cd_Registry_drop_name "Registry.drop_name" = true)
    (k_Registry_drop_name : PySem.W.keepIn K (.ref f_Registry_drop_name) = true)
    (a_Registry_lapse : PySem.W.findIn K (.ref C_Registry) "lapse" = some (some (.ref f_Registry_lapse)))
    (i_Registry_lapse : PySem.W.isFn K (.ref f_Registry_lapse) = true)
    (l_Registry_lapse : K.lookup f_Registry_lapse = some ⟨oc_Registry_lapse, od_Registry_lapse, .func (PySem.W.fnOf "lapse" "Registry.lapse" (defArgs s_Registry_lapse) (defBody s_Registry_lapse) (defScope s_Registry_lapse) .none kV_Registry_lapse dc_Registry_lapse pm_Registry_lapse an_Registry_lapse cd_Registry_lapse ct_Registry_lapse), sl_Registry_lapse⟩)
    (c_Registry_lapse : PySem.W.codeIn K cd_Registry_lapse "Registry.lapse" = true)
    (k_Registry_lapse : PySem.W.keepIn K (.ref f_Registry_lapse) = true)
    (a_Registry_fall : PySem.W.findIn K (.ref C_Registry) "fall" = some (some (.ref f_Registry_fall)))
    (i_Registry_fall : PySem.W.isFn K (.ref f_Registry_fall) = true)
    (l_Registry_fall : K.lookup f_Registry_fall = some ⟨oc_Registry_fall, od_Registry_fall, .func (PySem.W.fnOf "fall" "Registry.fall" (defArgs s_Registry_fall) (defBody s_Registry_fall) (defScope s_Registry_fall) .none kV_Registry_fall dc_Registry_fall pm_Registry_fall an_Registry_fall cd_Registry_fall ct_Registry_fall), sl_Registry_fall⟩)
    (c_Registry_fall : PySem.W.codeIn K cd_Registry_fall "Registry.fall" = true)
    (k_Registry_fall : PySem.W.keepIn K (.ref f_Registry_fall) = true)
    (a_Registry_roots : PySem.W.findIn K (.ref C_Registry) "roots" = some (some (.ref f_Registry_roots)))
    (i_Registry_roots : PySem.W.isFn K (.ref f_Registry_roots) = true)
    (l_Registry_roots : K.lookup f_Registry_roots = some ⟨oc_Registry_roots, od_Registry_roots, .func (PySem.W.fnOf "roots" "Registry.roots" (defArgs s_Registry_roots) (defBody s_Registry_roots) (defScope s_Registry_roots) .none kV_Registry_roots dc_Registry_roots pm_Registry_roots an_Registry_roots cd_Registry_roots ct_Registry_roots), sl_Registry_roots⟩)
    (c_Registry_roots : PySem.W.codeIn K cd_Registry_roots "Registry.roots" = true)
    (k_Registry_roots : PySem.W.keepIn K (.ref f_Registry_roots) = true)
    (a_Refused : PySem.W.nsIn K mainGlobals "Refused" = some (some (.ref C_Refused)))
    (a_Malformed : PySem.W.nsIn K mainGlobals "Malformed" = some (some (.ref C_Malformed)))
    (xL_Malformed : K.lookup C_Malformed = some (excClassObj nm_Malformed q_Malformed C_Malformed N_Malformed bs_Malformed [.ref C_Refused, .type "ValueError", .type "Exception", .type "BaseException", .type "object"] true sn_Malformed sb_Malformed ab_Malformed col_Malformed dd_Malformed m0_Malformed m1_Malformed m2_Malformed m3_Malformed m5_Malformed "ValueError.__new__"))
    (sa_Malformed : PySem.W.findIn K (.ref C_Malformed) "__setattr__" = some (some (.builtin "object.__setattr__")))
    (ga_Malformed : PySem.W.findIn K (.ref C_Malformed) "__getattribute__" = some (some (.builtin "BaseException.__getattribute__")))
    (gg_Malformed : PySem.W.findIn K (.ref C_Malformed) "__getattr__" = some none)
    (kC_Malformed : PySem.W.keepIn K (.ref C_Malformed) = true)
    (eC_Malformed : PySem.W.subIn K (.ref C_Malformed) (.type "BaseException") = some true)
    (tC_Malformed : PySem.W.typeIn K (.ref C_Malformed) = some (.type "type"))
    (hC_Malformed : PySem.W.hasDictIn K C_Malformed = true)
    (iC_Malformed : PySem.W.isClsIn K C_Malformed = true)
    (sC_Malformed : PySem.W.subIn K (.ref C_Malformed) (.ref C_Malformed) = some true)
    (hk_Malformed : PySem.W.findIn K (.ref C_Malformed) "__class__" = some (some (.builtin "object.__class__")))
    (hm_Malformed : PySem.W.mroIn K C_Malformed (.type "object") = some true)
    (na_Malformed_line : PySem.W.findIn K (.ref C_Malformed) "line" = some none)
    (a_Malformed___init__ : PySem.W.findIn K (.ref C_Malformed) "__init__" = some (some (.ref f_Malformed___init__)))
    (t_Malformed___init__ : PySem.W.typeIn K (.ref f_Malformed___init__) = some (.type "function"))
    (l_Malformed___init__ : K.lookup f_Malformed___init__ = some ⟨oc_Malformed___init__, od_Malformed___init__, .func (PySem.W.fnOf "__init__" "Malformed.__init__" (defArgs s_Malformed___init__) (defBody s_Malformed___init__) (defScope s_Malformed___init__) .none kV_Malformed___init__ dc_Malformed___init__ pm_Malformed___init__ an_Malformed___init__ cd_Malformed___init__ ct_Malformed___init__), sl_Malformed___init__⟩)
    (c_Malformed___init__ : PySem.W.codeIn K cd_Malformed___init__ "Malformed.__init__" = true)
    (k_Malformed___init__ : PySem.W.keepIn K (.ref f_Malformed___init__) = true)
    (hn_obj : PySem.W.specialIn K (.builtin "object.__class__") "__get__" = some (some (.builtin "getset_descriptor.__get__")))
    (ht_obj : PySem.W.takesIn K (.builtin "object.__class__") = some true)
    (a__wall : PySem.W.nsIn K mainGlobals "_wall" = some (some (.ref f__wall)))
    (l__wall : K.lookup f__wall = some ⟨oc__wall, od__wall, .func (PySem.W.fnOf "_wall" "_wall" (defArgs s__wall) (defBody s__wall) (defScope s__wall) .none kV__wall dc__wall pm__wall an__wall cd__wall ct__wall), sl__wall⟩)
    (c__wall : PySem.W.codeIn K cd__wall "_wall" = true)
    (k__wall : PySem.W.keepIn K (.ref f__wall) = true)
    (a_address_of : PySem.W.nsIn K mainGlobals "address_of" = some (some (.ref f_address_of)))
    (l_address_of : K.lookup f_address_of = some ⟨oc_address_of, od_address_of, .func (PySem.W.fnOf "address_of" "address_of" (defArgs s_address_of) (defBody s_address_of) (defScope s_address_of) .none kV_address_of dc_address_of pm_address_of an_address_of cd_address_of ct_address_of), sl_address_of⟩)
    (c_address_of : PySem.W.codeIn K cd_address_of "address_of" = true)
    (k_address_of : PySem.W.keepIn K (.ref f_address_of) = true)
    (a_is_address : PySem.W.nsIn K mainGlobals "is_address" = some (some (.ref f_is_address)))
    (l_is_address : K.lookup f_is_address = some ⟨oc_is_address, od_is_address, .func (PySem.W.fnOf "is_address" "is_address" (defArgs s_is_address) (defBody s_is_address) (defScope s_is_address) .none kV_is_address dc_is_address pm_is_address an_is_address cd_is_address ct_is_address), sl_is_address⟩)
    (c_is_address : PySem.W.codeIn K cd_is_address "is_address" = true)
    (k_is_address : PySem.W.keepIn K (.ref f_is_address) = true)
    (a_image_text : PySem.W.nsIn K mainGlobals "image_text" = some (some (.ref f_image_text)))
    (l_image_text : K.lookup f_image_text = some ⟨oc_image_text, od_image_text, .func (PySem.W.fnOf "image_text" "image_text" (defArgs s_image_text) (defBody s_image_text) (defScope s_image_text) .none kV_image_text dc_image_text pm_image_text an_image_text cd_image_text ct_image_text), sl_image_text⟩)
    (c_image_text : PySem.W.codeIn K cd_image_text "image_text" = true)
    (k_image_text : PySem.W.keepIn K (.ref f_image_text) = true)
    (a_bundle_text : PySem.W.nsIn K mainGlobals "bundle_text" = some (some (.ref f_bundle_text)))
    (l_bundle_text : K.lookup f_bundle_text = some ⟨oc_bundle_text, od_bundle_text, .func (PySem.W.fnOf "bundle_text" "bundle_text" (defArgs s_bundle_text) (defBody s_bundle_text) (defScope s_bundle_text) .none kV_bundle_text dc_bundle_text pm_bundle_text an_bundle_text cd_bundle_text ct_bundle_text), sl_bundle_text⟩)
    (c_bundle_text : PySem.W.codeIn K cd_bundle_text "bundle_text" = true)
    (k_bundle_text : PySem.W.keepIn K (.ref f_bundle_text) = true)
    (a_lines_of : PySem.W.nsIn K mainGlobals "lines_of" = some (some (.ref f_lines_of)))
    (l_lines_of : K.lookup f_lines_of = some ⟨oc_lines_of, od_lines_of, .func (PySem.W.fnOf "lines_of" "lines_of" (defArgs s_lines_of) (defBody s_lines_of) (defScope s_lines_of) .none kV_lines_of dc_lines_of pm_lines_of an_lines_of cd_lines_of ct_lines_of), sl_lines_of⟩)
    (c_lines_of : PySem.W.codeIn K cd_lines_of "lines_of" = true)
    (k_lines_of : PySem.W.keepIn K (.ref f_lines_of) = true)
    (a_read_image : PySem.W.nsIn K mainGlobals "read_image" = some (some (.ref f_read_image)))
    (l_read_image : K.lookup f_read_image = some ⟨oc_read_image, od_read_image, .func (PySem.W.fnOf "read_image" "read_image" (defArgs s_read_image) (defBody s_read_image) (defScope s_read_image) .none kV_read_image dc_read_image pm_read_image an_read_image cd_read_image ct_read_image), sl_read_image⟩)
    (c_read_image : PySem.W.codeIn K cd_read_image "read_image" = true)
    (k_read_image : PySem.W.keepIn K (.ref f_read_image) = true)
    (a_is_platform : PySem.W.nsIn K mainGlobals "is_platform" = some (some (.ref f_is_platform)))
    (l_is_platform : K.lookup f_is_platform = some ⟨oc_is_platform, od_is_platform, .func (PySem.W.fnOf "is_platform" "is_platform" (defArgs s_is_platform) (defBody s_is_platform) (defScope s_is_platform) .none kV_is_platform dc_is_platform pm_is_platform an_is_platform cd_is_platform ct_is_platform), sl_is_platform⟩)
    (c_is_platform : PySem.W.codeIn K cd_is_platform "is_platform" = true)
    (k_is_platform : PySem.W.keepIn K (.ref f_is_platform) = true)
    (a_read_bundle : PySem.W.nsIn K mainGlobals "read_bundle" = some (some (.ref f_read_bundle)))
    (l_read_bundle : K.lookup f_read_bundle = some ⟨oc_read_bundle, od_read_bundle, .func (PySem.W.fnOf "read_bundle" "read_bundle" (defArgs s_read_bundle) (defBody s_read_bundle) (defScope s_read_bundle) .none kV_read_bundle dc_read_bundle pm_read_bundle an_read_bundle cd_read_bundle ct_read_bundle), sl_read_bundle⟩)
    (c_read_bundle : PySem.W.codeIn K cd_read_bundle "read_bundle" = true)
    (k_read_bundle : PySem.W.keepIn K (.ref f_read_bundle) = true)
    (a_references : PySem.W.nsIn K mainGlobals "references" = some (some (.ref f_references)))
    (l_references : K.lookup f_references = some ⟨oc_references, od_references, .func (PySem.W.fnOf "references" "references" (defArgs s_references) (defBody s_references) (defScope s_references) .none kV_references dc_references pm_references an_references cd_references ct_references), sl_references⟩)
    (c_references : PySem.W.codeIn K cd_references "references" = true)
    (k_references : PySem.W.keepIn K (.ref f_references) = true)
    (a__law_state : PySem.W.nsIn K mainGlobals "_law_state" = some (some (.ref f__law_state)))
    (l__law_state : K.lookup f__law_state = some ⟨oc__law_state, od__law_state, .func (PySem.W.fnOf "_law_state" "_law_state" (defArgs s__law_state) (defBody s__law_state) (defScope s__law_state) .none kV__law_state dc__law_state pm__law_state an__law_state cd__law_state ct__law_state), sl__law_state⟩)
    (c__law_state : PySem.W.codeIn K cd__law_state "_law_state" = true)
    (k__law_state : PySem.W.keepIn K (.ref f__law_state) = true)
    (a__law_take : PySem.W.nsIn K mainGlobals "_law_take" = some (some (.ref f__law_take)))
    (l__law_take : K.lookup f__law_take = some ⟨oc__law_take, od__law_take, .func (PySem.W.fnOf "_law_take" "_law_take" (defArgs s__law_take) (defBody s__law_take) (defScope s__law_take) .none kV__law_take dc__law_take pm__law_take an__law_take cd__law_take ct__law_take), sl__law_take⟩)
    (c__law_take : PySem.W.codeIn K cd__law_take "_law_take" = true)
    (k__law_take : PySem.W.keepIn K (.ref f__law_take) = true)
    (a__law_text : PySem.W.nsIn K mainGlobals "_law_text" = some (some (.ref f__law_text)))
    (l__law_text : K.lookup f__law_text = some ⟨oc__law_text, od__law_text, .func (PySem.W.fnOf "_law_text" "_law_text" (defArgs s__law_text) (defBody s__law_text) (defScope s__law_text) .none kV__law_text dc__law_text pm__law_text an__law_text cd__law_text ct__law_text), sl__law_text⟩)
    (c__law_text : PySem.W.codeIn K cd__law_text "_law_text" = true)
    (k__law_text : PySem.W.keepIn K (.ref f__law_text) = true)
    (a__law_refs : PySem.W.nsIn K mainGlobals "_law_refs" = some (some (.ref f__law_refs)))
    (l__law_refs : K.lookup f__law_refs = some ⟨oc__law_refs, od__law_refs, .func (PySem.W.fnOf "_law_refs" "_law_refs" (defArgs s__law_refs) (defBody s__law_refs) (defScope s__law_refs) .none kV__law_refs dc__law_refs pm__law_refs an__law_refs cd__law_refs ct__law_refs), sl__law_refs⟩)
    (c__law_refs : PySem.W.codeIn K cd__law_refs "_law_refs" = true)
    (k__law_refs : PySem.W.keepIn K (.ref f__law_refs) = true)
    (a__law_whole : PySem.W.nsIn K mainGlobals "_law_whole" = some (some (.ref f__law_whole)))
    (l__law_whole : K.lookup f__law_whole = some ⟨oc__law_whole, od__law_whole, .func (PySem.W.fnOf "_law_whole" "_law_whole" (defArgs s__law_whole) (defBody s__law_whole) (defScope s__law_whole) .none kV__law_whole dc__law_whole pm__law_whole an__law_whole cd__law_whole ct__law_whole), sl__law_whole⟩)
    (c__law_whole : PySem.W.codeIn K cd__law_whole "_law_whole" = true)
    (k__law_whole : PySem.W.keepIn K (.ref f__law_whole) = true)
    (a__law_kept : PySem.W.nsIn K mainGlobals "_law_kept" = some (some (.ref f__law_kept)))
    (l__law_kept : K.lookup f__law_kept = some ⟨oc__law_kept, od__law_kept, .func (PySem.W.fnOf "_law_kept" "_law_kept" (defArgs s__law_kept) (defBody s__law_kept) (defScope s__law_kept) .none kV__law_kept dc__law_kept pm__law_kept an__law_kept cd__law_kept ct__law_kept), sl__law_kept⟩)
    (c__law_kept : PySem.W.codeIn K cd__law_kept "_law_kept" = true)
    (k__law_kept : PySem.W.keepIn K (.ref f__law_kept) = true)
    (a__law_finish : PySem.W.nsIn K mainGlobals "_law_finish" = some (some (.ref f__law_finish)))
    (l__law_finish : K.lookup f__law_finish = some ⟨oc__law_finish, od__law_finish, .func (PySem.W.fnOf "_law_finish" "_law_finish" (defArgs s__law_finish) (defBody s__law_finish) (defScope s__law_finish) .none kV__law_finish dc__law_finish pm__law_finish an__law_finish cd__law_finish ct__law_finish), sl__law_finish⟩)
    (c__law_finish : PySem.W.codeIn K cd__law_finish "_law_finish" = true)
    (k__law_finish : PySem.W.keepIn K (.ref f__law_finish) = true)
    (a__law_put : PySem.W.nsIn K mainGlobals "_law_put" = some (some (.ref f__law_put)))
    (l__law_put : K.lookup f__law_put = some ⟨oc__law_put, od__law_put, .func (PySem.W.fnOf "_law_put" "_law_put" (defArgs s__law_put) (defBody s__law_put) (defScope s__law_put) .none kV__law_put dc__law_put pm__law_put an__law_put cd__law_put ct__law_put), sl__law_put⟩)
    (c__law_put : PySem.W.codeIn K cd__law_put "_law_put" = true)
    (k__law_put : PySem.W.keepIn K (.ref f__law_put) = true)
    (a__law_claimed : PySem.W.nsIn K mainGlobals "_law_claimed" = some (some (.ref f__law_claimed)))
    (l__law_claimed : K.lookup f__law_claimed = some ⟨oc__law_claimed, od__law_claimed, .func (PySem.W.fnOf "_law_claimed" "_law_claimed" (defArgs s__law_claimed) (defBody s__law_claimed) (defScope s__law_claimed) .none kV__law_claimed dc__law_claimed pm__law_claimed an__law_claimed cd__law_claimed ct__law_claimed), sl__law_claimed⟩)
    (c__law_claimed : PySem.W.codeIn K cd__law_claimed "_law_claimed" = true)
    (k__law_claimed : PySem.W.keepIn K (.ref f__law_claimed) = true)
    (a__law_answer : PySem.W.nsIn K mainGlobals "_law_answer" = some (some (.ref f__law_answer)))
    (l__law_answer : K.lookup f__law_answer = some ⟨oc__law_answer, od__law_answer, .func (PySem.W.fnOf "_law_answer" "_law_answer" (defArgs s__law_answer) (defBody s__law_answer) (defScope s__law_answer) .none kV__law_answer dc__law_answer pm__law_answer an__law_answer cd__law_answer ct__law_answer), sl__law_answer⟩)
    (c__law_answer : PySem.W.codeIn K cd__law_answer "_law_answer" = true)
    (k__law_answer : PySem.W.keepIn K (.ref f__law_answer) = true)
    (a__law_without : PySem.W.nsIn K mainGlobals "_law_without" = some (some (.ref f__law_without)))
    (l__law_without : K.lookup f__law_without = some ⟨oc__law_without, od__law_without, .func (PySem.W.fnOf "_law_without" "_law_without" (defArgs s__law_without) (defBody s__law_without) (defScope s__law_without) .none kV__law_without dc__law_without pm__law_without an__law_without cd__law_without ct__law_without), sl__law_without⟩)
    (c__law_without : PySem.W.codeIn K cd__law_without "_law_without" = true)
    (k__law_without : PySem.W.keepIn K (.ref f__law_without) = true)
    (a__law_address : PySem.W.nsIn K mainGlobals "_law_address" = some (some (.ref f__law_address)))
    (l__law_address : K.lookup f__law_address = some ⟨oc__law_address, od__law_address, .func (PySem.W.fnOf "_law_address" "_law_address" (defArgs s__law_address) (defBody s__law_address) (defScope s__law_address) .none kV__law_address dc__law_address pm__law_address an__law_address cd__law_address ct__law_address), sl__law_address⟩)
    (c__law_address : PySem.W.codeIn K cd__law_address "_law_address" = true)
    (k__law_address : PySem.W.keepIn K (.ref f__law_address) = true)
    (a__law_text_of : PySem.W.nsIn K mainGlobals "_law_text_of" = some (some (.ref f__law_text_of)))
    (l__law_text_of : K.lookup f__law_text_of = some ⟨oc__law_text_of, od__law_text_of, .func (PySem.W.fnOf "_law_text_of" "_law_text_of" (defArgs s__law_text_of) (defBody s__law_text_of) (defScope s__law_text_of) .none kV__law_text_of dc__law_text_of pm__law_text_of an__law_text_of cd__law_text_of ct__law_text_of), sl__law_text_of⟩)
    (c__law_text_of : PySem.W.codeIn K cd__law_text_of "_law_text_of" = true)
    (k__law_text_of : PySem.W.keepIn K (.ref f__law_text_of) = true)
    (a__law_request : PySem.W.nsIn K mainGlobals "_law_request" = some (some (.ref f__law_request)))
    (l__law_request : K.lookup f__law_request = some ⟨oc__law_request, od__law_request, .func (PySem.W.fnOf "_law_request" "_law_request" (defArgs s__law_request) (defBody s__law_request) (defScope s__law_request) .none kV__law_request dc__law_request pm__law_request an__law_request cd__law_request ct__law_request), sl__law_request⟩)
    (c__law_request : PySem.W.codeIn K cd__law_request "_law_request" = true)
    (k__law_request : PySem.W.keepIn K (.ref f__law_request) = true)
    (a__law_roots : PySem.W.nsIn K mainGlobals "_law_roots" = some (some (.ref f__law_roots)))
    (l__law_roots : K.lookup f__law_roots = some ⟨oc__law_roots, od__law_roots, .func (PySem.W.fnOf "_law_roots" "_law_roots" (defArgs s__law_roots) (defBody s__law_roots) (defScope s__law_roots) .none kV__law_roots dc__law_roots pm__law_roots an__law_roots cd__law_roots ct__law_roots), sl__law_roots⟩)
    (c__law_roots : PySem.W.codeIn K cd__law_roots "_law_roots" = true)
    (k__law_roots : PySem.W.keepIn K (.ref f__law_roots) = true)
    (a_law : PySem.W.nsIn K mainGlobals "law" = some (some (.ref f_law)))
    (l_law : K.lookup f_law = some ⟨oc_law, od_law, .func (PySem.W.fnOf "law" "law" (defArgs s_law) (defBody s_law) (defScope s_law) .none kV_law dc_law pm_law an_law cd_law ct_law), sl_law⟩)
    (c_law : PySem.W.codeIn K cd_law "law" = true)
    (k_law : PySem.W.keepIn K (.ref f_law) = true)
    (z_abs : PySem.W.nsIn K mainGlobals "abs" = some none)
    (z_int : PySem.W.nsIn K mainGlobals "int" = some none)
    (z_isinstance : PySem.W.nsIn K mainGlobals "isinstance" = some none)
    (z_len : PySem.W.nsIn K mainGlobals "len" = some none)
    (z_list : PySem.W.nsIn K mainGlobals "list" = some none)
    (z_ord : PySem.W.nsIn K mainGlobals "ord" = some none)
    (z_range : PySem.W.nsIn K mainGlobals "range" = some none)
    (z_repr : PySem.W.nsIn K mainGlobals "repr" = some none)
    (z_set : PySem.W.nsIn K mainGlobals "set" = some none)
    (z_sorted : PySem.W.nsIn K mainGlobals "sorted" = some none)
    (z_tuple : PySem.W.nsIn K mainGlobals "tuple" = some none)
    (v_DIGITS : PySem.W.nsIn K mainGlobals "DIGITS" = some (some (Value.str "0123456789abcdef" t_DIGITS)))
    (v_LETTERS : PySem.W.nsIn K mainGlobals "LETTERS" = some (some (Value.str "abcdefghijklmnopqrstuvwxyz" t_LETTERS)))
    (v_MAX_LINES : PySem.W.nsIn K mainGlobals "MAX_LINES" = some (some (Value.int 50 t_MAX_LINES)))
    (v_PRIME : PySem.W.nsIn K mainGlobals "PRIME" = some (some (Value.int 2305843009213693951 t_PRIME)))
    (v_KINDS : PySem.W.nsIn K mainGlobals "KINDS" = some (some (.ref a_KINDS)))
    (at_KINDS : K.lookup a_KINDS = some ⟨.type "tuple", none, .seq its_KINDS n_KINDS, sl_KINDS⟩)
    (vl_KINDS : Vals (kinds3.map V.str) its_KINDS.toList)
    (sz_KINDS : its_KINDS.size ≤ sizeLine)
    (v_BELOW : PySem.W.nsIn K mainGlobals "BELOW" = some (some (.ref a_BELOW)))
    (at_BELOW : K.lookup a_BELOW = some ⟨.type "dict", none, .dict es_BELOW n_BELOW, #[]⟩)
    (p_below1 : PySem.W.nsIn K a_BELOW "image" = some (some (.str "layer" t_below1)))
    (p_below2 : PySem.W.nsIn K a_BELOW "bundle" = some (some (.str "image" t_below2)))
    (lit_BELOW : PySem.W.KeysLit w.params es_BELOW.toList)
    (v_CLAIMED : PySem.W.nsIn K mainGlobals "CLAIMED" = some (some (.ref a_CLAIMED)))
    (at_CLAIMED : K.lookup a_CLAIMED = some ⟨.type "tuple", none, .seq its_CLAIMED n_CLAIMED, sl_CLAIMED⟩)
    (vl_CLAIMED : Vals (claimed4.map V.str) its_CLAIMED.toList)
    (sz_CLAIMED : its_CLAIMED.size ≤ sizeLine)
    : ∃ fd : FuncData, (∀ (s : Shared) (v : Value), BindsTo s fd ⟨[v], []⟩ [("_law_script", v)]) ∧ ∀ base : Heap, K.In base → base.Ns mainGlobals mg → LawG l.prog w K mg base 16 fa fd (spLaw K) := by
  have e := hfa.symm.trans (PySem.W.mg_of X G a_law)
  cases e
  have F_Claims___init__ := fun_mk (st := s_Claims___init__) l_Claims___init__ c_Claims___init__ k_Claims___init__
  have b_Claims___init__ := F_Claims___init__.binds (ps := ["self"]) fun _ _ _ _ _ _ us hl => match us, hl with | [_], _ => rfl
  have F_Claims_begin := fun_mk (st := s_Claims_begin) l_Claims_begin c_Claims_begin k_Claims_begin
  have b_Claims_begin := F_Claims_begin.binds (ps := ["self"]) fun _ _ _ _ _ _ us hl => match us, hl with | [_], _ => rfl
  have F_Claims_is_open := fun_mk (st := s_Claims_is_open) l_Claims_is_open c_Claims_is_open k_Claims_is_open
  have b_Claims_is_open := F_Claims_is_open.binds (ps := ["self", "claim"]) fun _ _ _ _ _ _ us hl => match us, hl with | [_, _], _ => rfl
  have F_Claims_pin := fun_mk (st := s_Claims_pin) l_Claims_pin c_Claims_pin k_Claims_pin
  have b_Claims_pin := F_Claims_pin.binds (ps := ["self", "claim", "address"]) fun _ _ _ _ _ _ us hl => match us, hl with | [_, _, _], _ => rfl
  have F_Claims_end := fun_mk (st := s_Claims_end) l_Claims_end c_Claims_end k_Claims_end
  have b_Claims_end := F_Claims_end.binds (ps := ["self", "claim"]) fun _ _ _ _ _ _ us hl => match us, hl with | [_, _], _ => rfl
  have F_Claims_numbers := fun_mk (st := s_Claims_numbers) l_Claims_numbers c_Claims_numbers k_Claims_numbers
  have b_Claims_numbers := F_Claims_numbers.binds (ps := ["self"]) fun _ _ _ _ _ _ us hl => match us, hl with | [_], _ => rfl
  have F_Claims_pinned := fun_mk (st := s_Claims_pinned) l_Claims_pinned c_Claims_pinned k_Claims_pinned
  have b_Claims_pinned := F_Claims_pinned.binds (ps := ["self"]) fun _ _ _ _ _ _ us hl => match us, hl with | [_], _ => rfl
  have F_Collector___init__ := fun_mk (st := s_Collector___init__) l_Collector___init__ c_Collector___init__ k_Collector___init__
  have b_Collector___init__ := F_Collector___init__.binds (ps := ["self", "store"]) fun _ _ _ _ _ _ us hl => match us, hl with | [_, _], _ => rfl
  have F_Collector_stop := fun_mk (st := s_Collector_stop) l_Collector_stop c_Collector_stop k_Collector_stop
  have b_Collector_stop := F_Collector_stop.binds (ps := ["self"]) fun _ _ _ _ _ _ us hl => match us, hl with | [_], _ => rfl
  have F_Collector_shade := fun_mk (st := s_Collector_shade) l_Collector_shade c_Collector_shade k_Collector_shade
  have b_Collector_shade := F_Collector_shade.binds (ps := ["self", "address"]) fun _ _ _ _ _ _ us hl => match us, hl with | [_, _], _ => rfl
  have F_Store___init__ := fun_mk (st := s_Store___init__) l_Store___init__ c_Store___init__ k_Store___init__
  have b_Store___init__ := F_Store___init__.binds (ps := ["self"]) fun _ _ _ _ _ _ us hl => match us, hl with | [_], _ => rfl
  have F_Store_keep := fun_mk (st := s_Store_keep) l_Store_keep c_Store_keep k_Store_keep
  have b_Store_keep := F_Store_keep.binds (ps := ["self", "kind", "text"]) fun _ _ _ _ _ _ us hl => match us, hl with | [_, _, _], _ => rfl
  have F_Store_blob := fun_mk (st := s_Store_blob) l_Store_blob c_Store_blob k_Store_blob
  have b_Store_blob := F_Store_blob.binds (ps := ["self", "address"]) fun _ _ _ _ _ _ us hl => match us, hl with | [_, _], _ => rfl
  have F_Store_addresses := fun_mk (st := s_Store_addresses) l_Store_addresses c_Store_addresses k_Store_addresses
  have b_Store_addresses := F_Store_addresses.binds (ps := ["self"]) fun _ _ _ _ _ _ us hl => match us, hl with | [_], _ => rfl
  have F_Store_below := fun_mk (st := s_Store_below) l_Store_below c_Store_below k_Store_below
  have b_Store_below := F_Store_below.binds (ps := ["self", "address"]) fun _ _ _ _ _ _ us hl => match us, hl with | [_, _], _ => rfl
  have F_Store_is_whole := fun_mk (st := s_Store_is_whole) l_Store_is_whole c_Store_is_whole k_Store_is_whole
  have b_Store_is_whole := F_Store_is_whole.binds (ps := ["self", "address"]) fun _ _ _ _ _ _ us hl => match us, hl with | [_, _], _ => rfl
  have F_Store_closure := fun_mk (st := s_Store_closure) l_Store_closure c_Store_closure k_Store_closure
  have b_Store_closure := F_Store_closure.binds (ps := ["self", "address"]) fun _ _ _ _ _ _ us hl => match us, hl with | [_, _], _ => rfl
  have F_Uploads___init__ := fun_mk (st := s_Uploads___init__) l_Uploads___init__ c_Uploads___init__ k_Uploads___init__
  have b_Uploads___init__ := F_Uploads___init__.binds (ps := ["self"]) fun _ _ _ _ _ _ us hl => match us, hl with | [_], _ => rfl
  have F_Uploads_begin := fun_mk (st := s_Uploads_begin) l_Uploads_begin c_Uploads_begin k_Uploads_begin
  have b_Uploads_begin := F_Uploads_begin.binds (ps := ["self"]) fun _ _ _ _ _ _ us hl => match us, hl with | [_], _ => rfl
  have F_Uploads_add_part := fun_mk (st := s_Uploads_add_part) l_Uploads_add_part c_Uploads_add_part k_Uploads_add_part
  have b_Uploads_add_part := F_Uploads_add_part.binds (ps := ["self", "upload", "at", "part"]) fun _ _ _ _ _ _ us hl => match us, hl with | [_, _, _, _], _ => rfl
  have F_Uploads_finish := fun_mk (st := s_Uploads_finish) l_Uploads_finish c_Uploads_finish k_Uploads_finish
  have b_Uploads_finish := F_Uploads_finish.binds (ps := ["self", "upload"]) fun _ _ _ _ _ _ us hl => match us, hl with | [_, _], _ => rfl
  have F_Uploads_forget := fun_mk (st := s_Uploads_forget) l_Uploads_forget c_Uploads_forget k_Uploads_forget
  have b_Uploads_forget := F_Uploads_forget.binds (ps := ["self"]) fun _ _ _ _ _ _ us hl => match us, hl with | [_], _ => rfl
  have F_Registry___init__ := fun_mk (st := s_Registry___init__) l_Registry___init__ c_Registry___init__ k_Registry___init__
  have b_Registry___init__ := F_Registry___init__.binds (ps := ["self"]) fun _ _ _ _ _ _ us hl => match us, hl with | [_], _ => rfl
  have F_Registry_answer := fun_mk (st := s_Registry_answer) l_Registry_answer c_Registry_answer k_Registry_answer
  have b_Registry_answer := F_Registry_answer.binds (ps := ["self", "request"]) fun _ _ _ _ _ _ us hl => match us, hl with | [_, _], _ => rfl
  have F_Registry_answer_plain := fun_mk (st := s_Registry_answer_plain) l_Registry_answer_plain c_Registry_answer_plain k_Registry_answer_plain
  have b_Registry_answer_plain := F_Registry_answer_plain.binds (ps := ["self", "request"]) fun _ _ _ _ _ _ us hl => match us, hl with | [_, _], _ => rfl
  have F_Registry_kept := fun_mk (st := s_Registry_kept) l_Registry_kept c_Registry_kept k_Registry_kept
  have b_Registry_kept := F_Registry_kept.binds (ps := ["self", "claim", "address"]) fun _ _ _ _ _ _ us hl => match us, hl with | [_, _, _], _ => rfl
  have F_Registry_answer_has := fun_mk (st := s_Registry_answer_has) l_Registry_answer_has c_Registry_answer_has k_Registry_answer_has
  have b_Registry_answer_has := F_Registry_answer_has.binds (ps := ["self", "claim", "address"]) fun _ _ _ _ _ _ us hl => match us, hl with | [_, _, _], _ => rfl
  have F_Registry_answer_part := fun_mk (st := s_Registry_answer_part) l_Registry_answer_part c_Registry_answer_part k_Registry_answer_part
  have b_Registry_answer_part := F_Registry_answer_part.binds (ps := ["self", "upload", "at", "part"]) fun _ _ _ _ _ _ us hl => match us, hl with | [_, _, _, _], _ => rfl
  have F_Registry_answer_finish := fun_mk (st := s_Registry_answer_finish) l_Registry_answer_finish c_Registry_answer_finish k_Registry_answer_finish
  have b_Registry_answer_finish := F_Registry_answer_finish.binds (ps := ["self", "upload", "claim", "address"]) fun _ _ _ _ _ _ us hl => match us, hl with | [_, _, _, _], _ => rfl
  have F_Registry_answer_put := fun_mk (st := s_Registry_answer_put) l_Registry_answer_put c_Registry_answer_put k_Registry_answer_put
  have b_Registry_answer_put := F_Registry_answer_put.binds (ps := ["self", "claim", "kind", "text"]) fun _ _ _ _ _ _ us hl => match us, hl with | [_, _, _, _], _ => rfl
  have F_Registry_answer_name := fun_mk (st := s_Registry_answer_name) l_Registry_answer_name c_Registry_answer_name k_Registry_answer_name
  have b_Registry_answer_name := F_Registry_answer_name.binds (ps := ["self", "claim", "name", "address"]) fun _ _ _ _ _ _ us hl => match us, hl with | [_, _, _, _], _ => rfl
  have F_Registry_answer_get := fun_mk (st := s_Registry_answer_get) l_Registry_answer_get c_Registry_answer_get k_Registry_answer_get
  have b_Registry_answer_get := F_Registry_answer_get.binds (ps := ["self", "address", "at", "count"]) fun _ _ _ _ _ _ us hl => match us, hl with | [_, _, _, _], _ => rfl
  have F_Registry_drop_name := fun_mk (st := s_Registry_drop_name) l_Registry_drop_name c_Registry_drop_name k_Registry_drop_name
  have b_Registry_drop_name := F_Registry_drop_name.binds (ps := ["self", "name"]) fun _ _ _ _ _ _ us hl => match us, hl with | [_, _], _ => rfl
  have F_Registry_lapse := fun_mk (st := s_Registry_lapse) l_Registry_lapse c_Registry_lapse k_Registry_lapse
  have b_Registry_lapse := F_Registry_lapse.binds (ps := ["self", "claim"]) fun _ _ _ _ _ _ us hl => match us, hl with | [_, _], _ => rfl
  have F_Registry_fall := fun_mk (st := s_Registry_fall) l_Registry_fall c_Registry_fall k_Registry_fall
  have b_Registry_fall := F_Registry_fall.binds (ps := ["self"]) fun _ _ _ _ _ _ us hl => match us, hl with | [_], _ => rfl
  have F_Registry_roots := fun_mk (st := s_Registry_roots) l_Registry_roots c_Registry_roots k_Registry_roots
  have b_Registry_roots := F_Registry_roots.binds (ps := ["self"]) fun _ _ _ _ _ _ us hl => match us, hl with | [_], _ => rfl
  have F_Malformed___init__ := fun_mk (st := s_Malformed___init__) l_Malformed___init__ c_Malformed___init__ k_Malformed___init__
  have b_Malformed___init__ := F_Malformed___init__.binds (ps := ["self", "line"]) fun _ _ _ _ _ _ us hl => match us, hl with | [_, _], _ => rfl
  have F__wall := fun_mk (st := s__wall) l__wall c__wall k__wall
  have b__wall := F__wall.binds (ps := ["k"]) fun _ _ _ _ _ _ us hl => match us, hl with | [_], _ => rfl
  have F_address_of := fun_mk (st := s_address_of) l_address_of c_address_of k_address_of
  have b_address_of := F_address_of.binds (ps := ["kind", "text"]) fun _ _ _ _ _ _ us hl => match us, hl with | [_, _], _ => rfl
  have F_is_address := fun_mk (st := s_is_address) l_is_address c_is_address k_is_address
  have b_is_address := F_is_address.binds (ps := ["text"]) fun _ _ _ _ _ _ us hl => match us, hl with | [_], _ => rfl
  have F_image_text := fun_mk (st := s_image_text) l_image_text c_image_text k_image_text
  have b_image_text := F_image_text.binds (ps := ["layers"]) fun _ _ _ _ _ _ us hl => match us, hl with | [_], _ => rfl
  have F_bundle_text := fun_mk (st := s_bundle_text) l_bundle_text c_bundle_text k_bundle_text
  have b_bundle_text := F_bundle_text.binds (ps := ["entries"]) fun _ _ _ _ _ _ us hl => match us, hl with | [_], _ => rfl
  have F_lines_of := fun_mk (st := s_lines_of) l_lines_of c_lines_of k_lines_of
  have b_lines_of := F_lines_of.binds (ps := ["text", "head"]) fun _ _ _ _ _ _ us hl => match us, hl with | [_, _], _ => rfl
  have F_read_image := fun_mk (st := s_read_image) l_read_image c_read_image k_read_image
  have b_read_image := F_read_image.binds (ps := ["text"]) fun _ _ _ _ _ _ us hl => match us, hl with | [_], _ => rfl
  have F_is_platform := fun_mk (st := s_is_platform) l_is_platform c_is_platform k_is_platform
  have b_is_platform := F_is_platform.binds (ps := ["word"]) fun _ _ _ _ _ _ us hl => match us, hl with | [_], _ => rfl
  have F_read_bundle := fun_mk (st := s_read_bundle) l_read_bundle c_read_bundle k_read_bundle
  have b_read_bundle := F_read_bundle.binds (ps := ["text"]) fun _ _ _ _ _ _ us hl => match us, hl with | [_], _ => rfl
  have F_references := fun_mk (st := s_references) l_references c_references k_references
  have b_references := F_references.binds (ps := ["kind", "text"]) fun _ _ _ _ _ _ us hl => match us, hl with | [_, _], _ => rfl
  have F__law_state := fun_mk (st := s__law_state) l__law_state c__law_state k__law_state
  have b__law_state := F__law_state.binds (ps := ["_law_script"]) fun _ _ _ _ _ _ us hl => match us, hl with | [_], _ => rfl
  have F__law_take := fun_mk (st := s__law_take) l__law_take c__law_take k__law_take
  have b__law_take := F__law_take.binds (ps := ["_law_state_here", "_law_most"]) fun _ _ _ _ _ _ us hl => match us, hl with | [_, _], _ => rfl
  have F__law_text := fun_mk (st := s__law_text) l__law_text c__law_text k__law_text
  have b__law_text := F__law_text.binds (ps := ["_law_state_here", "_law_most"]) fun _ _ _ _ _ _ us hl => match us, hl with | [_, _], _ => rfl
  have F__law_refs := fun_mk (st := s__law_refs) l__law_refs c__law_refs k__law_refs
  have b__law_refs := F__law_refs.binds (ps := ["_law_kind", "_law_text_here"]) fun _ _ _ _ _ _ us hl => match us, hl with | [_, _], _ => rfl
  have F__law_whole := fun_mk (st := s__law_whole) l__law_whole c__law_whole k__law_whole
  have b__law_whole := F__law_whole.binds (ps := ["_law_model", "_law_address_here"]) fun _ _ _ _ _ _ us hl => match us, hl with | [_, _], _ => rfl
  have F__law_kept := fun_mk (st := s__law_kept) l__law_kept c__law_kept k__law_kept
  have b__law_kept := F__law_kept.binds (ps := ["_law_model", "_law_claim", "_law_address_here"]) fun _ _ _ _ _ _ us hl => match us, hl with | [_, _, _], _ => rfl
  have F__law_finish := fun_mk (st := s__law_finish) l__law_finish c__law_finish k__law_finish
  have b__law_finish := F__law_finish.binds (ps := ["_law_model", "_law_upload", "_law_claim", "_law_address_here"]) fun _ _ _ _ _ _ us hl => match us, hl with | [_, _, _, _], _ => rfl
  have F__law_put := fun_mk (st := s__law_put) l__law_put c__law_put k__law_put
  have b__law_put := F__law_put.binds (ps := ["_law_model", "_law_claim", "_law_kind", "_law_text_here"]) fun _ _ _ _ _ _ us hl => match us, hl with | [_, _, _, _], _ => rfl
  have F__law_claimed := fun_mk (st := s__law_claimed) l__law_claimed c__law_claimed k__law_claimed
  have b__law_claimed := F__law_claimed.binds (ps := ["_law_model", "_law_request_here"]) fun _ _ _ _ _ _ us hl => match us, hl with | [_, _], _ => rfl
  have F__law_answer := fun_mk (st := s__law_answer) l__law_answer c__law_answer k__law_answer
  have b__law_answer := F__law_answer.binds (ps := ["_law_model", "_law_request_here"]) fun _ _ _ _ _ _ us hl => match us, hl with | [_, _], _ => rfl
  have F__law_without := fun_mk (st := s__law_without) l__law_without c__law_without k__law_without
  have b__law_without := F__law_without.binds (ps := ["_law_things", "_law_key"]) fun _ _ _ _ _ _ us hl => match us, hl with | [_, _], _ => rfl
  have F__law_address := fun_mk (st := s__law_address) l__law_address c__law_address k__law_address
  have b__law_address := F__law_address.binds (ps := ["_law_state_here", "_law_model"]) fun _ _ _ _ _ _ us hl => match us, hl with | [_, _], _ => rfl
  have F__law_text_of := fun_mk (st := s__law_text_of) l__law_text_of c__law_text_of k__law_text_of
  have b__law_text_of := F__law_text_of.binds (ps := ["_law_state_here", "_law_model", "_law_kind"]) fun _ _ _ _ _ _ us hl => match us, hl with | [_, _, _], _ => rfl
  have F__law_request := fun_mk (st := s__law_request) l__law_request c__law_request k__law_request
  have b__law_request := F__law_request.binds (ps := ["_law_state_here", "_law_model"]) fun _ _ _ _ _ _ us hl => match us, hl with | [_, _], _ => rfl
  have F__law_roots := fun_mk (st := s__law_roots) l__law_roots c__law_roots k__law_roots
  have b__law_roots := F__law_roots.binds (ps := ["_law_model"]) fun _ _ _ _ _ _ us hl => match us, hl with | [_], _ => rfl
  have F_law := fun_mk (st := s_law) l_law c_law k_law
  have T : Txt w K mg C_Claims C_Collector C_Store C_Uploads C_Registry C_Refused C_Malformed a_KINDS a_BELOW a_CLAIMED := ⟨⟨pg_Claims, hd_Claims, po_Claims, sa_Claims⟩,
    na_Claims_last,
    na_Claims_pins,
    ⟨_, _, F_Claims___init__, ⟨mk_Claims, a_Claims___init__, i_Claims___init__, kc_Claims⟩, PySem.W.mg_of X G a_Claims, b_Claims___init__⟩,
    ⟨_, _, F_Claims_begin, ⟨a_Claims_begin, i_Claims_begin, k_Claims_begin⟩, b_Claims_begin⟩,
    ⟨_, _, F_Claims_is_open, ⟨a_Claims_is_open, i_Claims_is_open, k_Claims_is_open⟩, b_Claims_is_open⟩,
    ⟨_, _, F_Claims_pin, ⟨a_Claims_pin, i_Claims_pin, k_Claims_pin⟩, b_Claims_pin⟩,
    ⟨_, _, F_Claims_end, ⟨a_Claims_end, i_Claims_end, k_Claims_end⟩, b_Claims_end⟩,
    ⟨_, _, F_Claims_numbers, ⟨a_Claims_numbers, i_Claims_numbers, k_Claims_numbers⟩, b_Claims_numbers⟩,
    ⟨_, _, F_Claims_pinned, ⟨a_Claims_pinned, i_Claims_pinned, k_Claims_pinned⟩, b_Claims_pinned⟩,
    ⟨pg_Collector, hd_Collector, po_Collector, sa_Collector⟩,
    na_Collector_store,
    na_Collector_phase,
    na_Collector_marked,
    na_Collector_todo,
    na_Collector_doomed,
    ⟨_, _, F_Collector___init__, ⟨mk_Collector, a_Collector___init__, i_Collector___init__, kc_Collector⟩, PySem.W.mg_of X G a_Collector, b_Collector___init__⟩,
    ⟨_, _, F_Collector_stop, ⟨a_Collector_stop, i_Collector_stop, k_Collector_stop⟩, b_Collector_stop⟩,
    ⟨_, _, F_Collector_shade, ⟨a_Collector_shade, i_Collector_shade, k_Collector_shade⟩, b_Collector_shade⟩,
    ⟨pg_Store, hd_Store, po_Store, sa_Store⟩,
    na_Store_blobs,
    ⟨_, _, F_Store___init__, ⟨mk_Store, a_Store___init__, i_Store___init__, kc_Store⟩, PySem.W.mg_of X G a_Store, b_Store___init__⟩,
    ⟨_, _, F_Store_keep, ⟨a_Store_keep, i_Store_keep, k_Store_keep⟩, b_Store_keep⟩,
    ⟨_, _, F_Store_blob, ⟨a_Store_blob, i_Store_blob, k_Store_blob⟩, b_Store_blob⟩,
    ⟨_, _, F_Store_addresses, ⟨a_Store_addresses, i_Store_addresses, k_Store_addresses⟩, b_Store_addresses⟩,
    ⟨_, _, F_Store_below, ⟨a_Store_below, i_Store_below, k_Store_below⟩, b_Store_below⟩,
    ⟨_, _, F_Store_is_whole, ⟨a_Store_is_whole, i_Store_is_whole, k_Store_is_whole⟩, b_Store_is_whole⟩,
    ⟨_, _, F_Store_closure, ⟨a_Store_closure, i_Store_closure, k_Store_closure⟩, b_Store_closure⟩,
    ⟨pg_Uploads, hd_Uploads, po_Uploads, sa_Uploads⟩,
    na_Uploads_last,
    na_Uploads_texts,
    ⟨_, _, F_Uploads___init__, ⟨mk_Uploads, a_Uploads___init__, i_Uploads___init__, kc_Uploads⟩, PySem.W.mg_of X G a_Uploads, b_Uploads___init__⟩,
    ⟨_, _, F_Uploads_begin, ⟨a_Uploads_begin, i_Uploads_begin, k_Uploads_begin⟩, b_Uploads_begin⟩,
    ⟨_, _, F_Uploads_add_part, ⟨a_Uploads_add_part, i_Uploads_add_part, k_Uploads_add_part⟩, b_Uploads_add_part⟩,
    ⟨_, _, F_Uploads_finish, ⟨a_Uploads_finish, i_Uploads_finish, k_Uploads_finish⟩, b_Uploads_finish⟩,
    ⟨_, _, F_Uploads_forget, ⟨a_Uploads_forget, i_Uploads_forget, k_Uploads_forget⟩, b_Uploads_forget⟩,
    ⟨pg_Registry, hd_Registry, po_Registry, sa_Registry⟩,
    na_Registry_store,
    na_Registry_names,
    na_Registry_claims,
    na_Registry_uploads,
    na_Registry_collector,
    ⟨_, _, F_Registry___init__, ⟨mk_Registry, a_Registry___init__, i_Registry___init__, kc_Registry⟩, PySem.W.mg_of X G a_Registry, b_Registry___init__⟩,
    ⟨_, _, F_Registry_answer, ⟨a_Registry_answer, i_Registry_answer, k_Registry_answer⟩, b_Registry_answer⟩,
    ⟨_, _, F_Registry_answer_plain, ⟨a_Registry_answer_plain, i_Registry_answer_plain, k_Registry_answer_plain⟩, b_Registry_answer_plain⟩,
    ⟨_, _, F_Registry_kept, ⟨a_Registry_kept, i_Registry_kept, k_Registry_kept⟩, b_Registry_kept⟩,
    ⟨_, _, F_Registry_answer_has, ⟨a_Registry_answer_has, i_Registry_answer_has, k_Registry_answer_has⟩, b_Registry_answer_has⟩,
    ⟨_, _, F_Registry_answer_part, ⟨a_Registry_answer_part, i_Registry_answer_part, k_Registry_answer_part⟩, b_Registry_answer_part⟩,
    ⟨_, _, F_Registry_answer_finish, ⟨a_Registry_answer_finish, i_Registry_answer_finish, k_Registry_answer_finish⟩, b_Registry_answer_finish⟩,
    ⟨_, _, F_Registry_answer_put, ⟨a_Registry_answer_put, i_Registry_answer_put, k_Registry_answer_put⟩, b_Registry_answer_put⟩,
    ⟨_, _, F_Registry_answer_name, ⟨a_Registry_answer_name, i_Registry_answer_name, k_Registry_answer_name⟩, b_Registry_answer_name⟩,
    ⟨_, _, F_Registry_answer_get, ⟨a_Registry_answer_get, i_Registry_answer_get, k_Registry_answer_get⟩, b_Registry_answer_get⟩,
    ⟨_, _, F_Registry_drop_name, ⟨a_Registry_drop_name, i_Registry_drop_name, k_Registry_drop_name⟩, b_Registry_drop_name⟩,
    ⟨_, _, F_Registry_lapse, ⟨a_Registry_lapse, i_Registry_lapse, k_Registry_lapse⟩, b_Registry_lapse⟩,
    ⟨_, _, F_Registry_fall, ⟨a_Registry_fall, i_Registry_fall, k_Registry_fall⟩, b_Registry_fall⟩,
    ⟨_, _, F_Registry_roots, ⟨a_Registry_roots, i_Registry_roots, k_Registry_roots⟩, b_Registry_roots⟩,
    PySem.W.mg_of X G a_Refused,
    PySem.W.mg_of X G a_Malformed,
    ⟨⟨_, _, _, _, _, _, _, _, _, _, _, _, _, _, _, xL_Malformed, by first | decide +kernel | rfl | (unfold PySem.HandSPX.refsVE; decide +kernel) | (simp only [PySem.HandSPX.refsVE]; decide +kernel)⟩, sa_Malformed, eC_Malformed, tC_Malformed, kC_Malformed⟩,
    ⟨ga_Malformed, gg_Malformed, eC_Malformed, hC_Malformed⟩,
    ⟨iC_Malformed, ga_Malformed, gg_Malformed, eC_Malformed, hk_Malformed, hn_obj, ht_obj, hm_Malformed⟩,
    exm_self eC_Malformed iC_Malformed tC_Malformed sC_Malformed,
    na_Malformed_line,
    ⟨_, _, F_Malformed___init__, a_Malformed___init__, t_Malformed___init__, PySem.W.mg_of X G a_Malformed, b_Malformed___init__⟩,
    ⟨_, _, F__wall, PySem.W.mg_of X G a__wall, b__wall⟩,
    ⟨_, _, F_address_of, PySem.W.mg_of X G a_address_of, b_address_of⟩,
    ⟨_, _, F_is_address, PySem.W.mg_of X G a_is_address, b_is_address⟩,
    ⟨_, _, F_image_text, PySem.W.mg_of X G a_image_text, b_image_text⟩,
    ⟨_, _, F_bundle_text, PySem.W.mg_of X G a_bundle_text, b_bundle_text⟩,
    ⟨_, _, F_lines_of, PySem.W.mg_of X G a_lines_of, b_lines_of⟩,
    ⟨_, _, F_read_image, PySem.W.mg_of X G a_read_image, b_read_image⟩,
    ⟨_, _, F_is_platform, PySem.W.mg_of X G a_is_platform, b_is_platform⟩,
    ⟨_, _, F_read_bundle, PySem.W.mg_of X G a_read_bundle, b_read_bundle⟩,
    ⟨_, _, F_references, PySem.W.mg_of X G a_references, b_references⟩,
    ⟨_, _, F__law_state, PySem.W.mg_of X G a__law_state, b__law_state⟩,
    ⟨_, _, F__law_take, PySem.W.mg_of X G a__law_take, b__law_take⟩,
    ⟨_, _, F__law_text, PySem.W.mg_of X G a__law_text, b__law_text⟩,
    ⟨_, _, F__law_refs, PySem.W.mg_of X G a__law_refs, b__law_refs⟩,
    ⟨_, _, F__law_whole, PySem.W.mg_of X G a__law_whole, b__law_whole⟩,
    ⟨_, _, F__law_kept, PySem.W.mg_of X G a__law_kept, b__law_kept⟩,
    ⟨_, _, F__law_finish, PySem.W.mg_of X G a__law_finish, b__law_finish⟩,
    ⟨_, _, F__law_put, PySem.W.mg_of X G a__law_put, b__law_put⟩,
    ⟨_, _, F__law_claimed, PySem.W.mg_of X G a__law_claimed, b__law_claimed⟩,
    ⟨_, _, F__law_answer, PySem.W.mg_of X G a__law_answer, b__law_answer⟩,
    ⟨_, _, F__law_without, PySem.W.mg_of X G a__law_without, b__law_without⟩,
    ⟨_, _, F__law_address, PySem.W.mg_of X G a__law_address, b__law_address⟩,
    ⟨_, _, F__law_text_of, PySem.W.mg_of X G a__law_text_of, b__law_text_of⟩,
    ⟨_, _, F__law_request, PySem.W.mg_of X G a__law_request, b__law_request⟩,
    ⟨_, _, F__law_roots, PySem.W.mg_of X G a__law_roots, b__law_roots⟩,
    PySem.W.mg_none_of X G z_abs,
    PySem.W.mg_none_of X G z_int,
    PySem.W.mg_none_of X G z_isinstance,
    PySem.W.mg_none_of X G z_len,
    PySem.W.mg_none_of X G z_list,
    PySem.W.mg_none_of X G z_ord,
    PySem.W.mg_none_of X G z_range,
    PySem.W.mg_none_of X G z_repr,
    PySem.W.mg_none_of X G z_set,
    PySem.W.mg_none_of X G z_sorted,
    PySem.W.mg_none_of X G z_tuple,
    ⟨_, PySem.W.mg_of X G v_DIGITS, ⟨_, rfl⟩⟩,
    ⟨_, PySem.W.mg_of X G v_LETTERS, ⟨_, rfl⟩⟩,
    ⟨_, PySem.W.mg_of X G v_MAX_LINES, ⟨_, rfl⟩⟩,
    ⟨_, PySem.W.mg_of X G v_PRIME, ⟨_, rfl⟩⟩,
    ⟨_, PySem.W.mg_of X G v_KINDS, rfl⟩,
    ⟨_, _, _, at_KINDS, rfl, rfl, rfl, sz_KINDS, vl_KINDS⟩,
    ⟨_, PySem.W.mg_of X G v_BELOW, rfl⟩,
    ⟨_, _, _, at_BELOW, lit_BELOW, p_below1, ⟨_, rfl⟩⟩,
    ⟨_, _, _, at_BELOW, lit_BELOW, p_below2, ⟨_, rfl⟩⟩,
    ⟨_, PySem.W.mg_of X G v_CLAIMED, rfl⟩,
    ⟨_, _, _, at_CLAIMED, rfl, rfl, rfl, sz_CLAIMED, vl_CLAIMED⟩⟩
  exact ⟨PySem.W.fnOf "law" "law" (defArgs s_law) (defBody s_law) (defScope s_law) .none kV_law dc_law pm_law an_law cd_law ct_law, fun s v => .of_eq rfl, fun base _ _ => ok_law T F_law⟩
theorem walk {l : PySem.W.OpenLaw} {q : Program} {loose : List Str} {XP : (Str → Option Value) → Heap → Prop} {YP : World → Heap → Prop} {d : DefRec} {K : Params → PySem.W.Frag} (hn : l.most = some 63) (hdf : d.params.defaults = [])
    (hY : ∀ (w : World) (h : Heap), YP w h → (K w.params).In h)
    (F : ∀ (w : World) (mg : Str → Option Value) (fa : Addr) (h : Heap), (K w.params).In h → h.Ns mainGlobals mg → mg d.name = some (.ref fa) →
      ∃ fd : FuncData, (∀ (s : Shared) (u : Value), BindsTo s fd ⟨[u], []⟩ [("_law_script", u)]) ∧ ∀ base : Heap, (K w.params).In base → base.Ns mainGlobals mg → LawG l.prog w (K w.params) mg base 16 fa fd (spLaw (K w.params))) :
    PySem.W.WalkO q loose XP YP l.row.toRowW d [] (fun f vs => PySem.call f vs) :=
  walk_ofG (n := 63) (k := 16) (sp := fun w => spLaw (K w.params)) hn (by decide) hdf ⟨rfl, by decide, by decide⟩ hY F (fun _ _ a ns hl hS => ⟨a, ns, rfl, hS, hl, fun _ => rfl⟩)
end Lw
open PySem PySem.W PyProof.Rows
set_option maxRecDepth 100000 in
set_option maxHeartbeats 0 in
theorem PySem.Challenge.cw_layerwharf_k06_registry_answers_holds : PySem.Challenge.rw_layerwharf_k06_registry_answers.Holds := by
  w_on; o_law; k_head; (case hw => w_witness2)
  k_fill
  refine Lw.walk (l := PySem.Challenge.rw_layerwharf_k06_registry_answers) rfl rfl (fun w h Y => PySem.W.kIn_of Y) ?F
  case F =>
    intro w mg fa h KX G hmg
    refine' Lw.all_mk KX G hmg ?a_Claims ?pg_Claims ?hd_Claims ?po_Claims ?sa_Claims ?mk_Claims ?kc_Claims ?na_Claims_last ?na_Claims_pins ?a_Claims___init__ ?i_Claims___init__ ?l_Claims___init__ ?c_Claims___init__ ?k_Claims___init__ ?a_Claims_begin ?i_Claims_begin ?l_Claims_begin ?c_Claims_begin ?k_Claims_begin ?a_Claims_is_open ?i_Claims_is_open ?l_Claims_is_open ?c_Claims_is_open ?k_Claims_is_open ?a_Claims_pin ?i_Claims_pin ?l_Claims_pin ?c_Claims_pin ?k_Claims_pin ?a_Claims_end ?i_Claims_end ?l_Claims_end ?c_Claims_end ?k_Claims_end ?a_Claims_numbers ?i_Claims_numbers ?l_Claims_numbers ?c_Claims_numbers ?k_Claims_numbers ?a_Claims_pinned ?i_Claims_pinned ?l_Claims_pinned ?c_Claims_pinned ?k_Claims_pinned ?a_Collector ?pg_Collector ?hd_Collector ?po_Collector ?sa_Collector ?mk_Collector ?kc_Collector ?na_Collector_store ?na_Collector_phase ?na_Collector_marked ?na_Collector_todo ?na_Collector_doomed ?a_Collector___init__ ?i_Collector___init__ ?l_Collector___init__ ?c_Collector___init__ ?k_Collector___init__ ?a_Collector_stop ?i_Collector_stop ?l_Collector_stop ?c_Collector_stop ?k_Collector_stop ?a_Collector_shade ?i_Collector_shade ?l_Collector_shade ?c_Collector_shade ?k_Collector_shade ?a_Store ?pg_Store ?hd_Store ?po_Store ?sa_Store ?mk_Store ?kc_Store ?na_Store_blobs ?a_Store___init__ ?i_Store___init__ ?l_Store___init__ ?c_Store___init__ ?k_Store___init__ ?a_Store_keep ?i_Store_keep ?l_Store_keep ?c_Store_keep ?k_Store_keep ?a_Store_blob ?i_Store_blob ?l_Store_blob ?c_Store_blob ?k_Store_blob ?a_Store_addresses ?i_Store_addresses ?l_Store_addresses ?c_Store_addresses ?k_Store_addresses ?a_Store_below ?i_Store_below ?l_Store_below ?c_Store_below ?k_Store_below ?a_Store_is_whole ?i_Store_is_whole ?l_Store_is_whole ?c_Store_is_whole ?k_Store_is_whole ?a_Store_closure ?i_Store_closure ?l_Store_closure ?c_Store_closure ?k_Store_closure ?a_Uploads ?pg_Uploads ?hd_Uploads ?po_Uploads ?sa_Uploads ?mk_Uploads ?kc_Uploads ?na_Uploads_last ?na_Uploads_texts ?a_Uploads___init__ ?i_Uploads___init__ ?l_Uploads___init__ ?c_Uploads___init__ ?k_Uploads___init__ ?a_Uploads_begin ?i_Uploads_begin ?l_Uploads_begin ?c_Uploads_begin ?k_Uploads_begin ?a_Uploads_add_part ?i_Uploads_add_part ?l_Uploads_add_part ?c_Uploads_add_part ?k_Uploads_add_part ?a_Uploads_finish ?i_Uploads_finish ?l_Uploads_finish ?c_Uploads_finish ?k_Uploads_finish ?a_Uploads_forget ?i_Uploads_forget ?l_Uploads_forget ?c_Uploads_forget ?k_Uploads_forget ?a_Registry ?pg_Registry ?hd_Registry ?po_Registry ?sa_Registry ?mk_Registry ?kc_Registry ?na_Registry_store ?na_Registry_names ?na_Registry_claims ?na_Registry_uploads ?na_Registry_collector ?a_Registry___init__ ?i_Registry___init__ ?l_Registry___init__ ?c_Registry___init__ ?k_Registry___init__ ?a_Registry_answer ?i_Registry_answer ?l_Registry_answer ?c_Registry_answer ?k_Registry_answer ?a_Registry_answer_plain ?i_Registry_answer_plain ?l_Registry_answer_plain ?c_Registry_answer_plain ?k_Registry_answer_plain ?a_Registry_kept ?i_Registry_kept ?l_Registry_kept ?c_Registry_kept ?k_Registry_kept ?a_Registry_answer_has ?i_Registry_answer_has ?l_Registry_answer_has ?c_Registry_answer_has ?k_Registry_answer_has ?a_Registry_answer_part ?i_Registry_answer_part ?l_Registry_answer_part ?c_Registry_answer_part ?k_Registry_answer_part ?a_Registry_answer_finish ?i_Registry_answer_finish ?l_Registry_answer_finish ?c_Registry_answer_finish ?k_Registry_answer_finish ?a_Registry_answer_put ?i_Registry_answer_put ?l_Registry_answer_put ?c_Registry_answer_put ?k_Registry_answer_put ?a_Registry_answer_name ?i_Registry_answer_name ?l_Registry_answer_name ?c_Registry_answer_name ?k_Registry_answer_name ?a_Registry_answer_get ?i_Registry_answer_get ?l_Registry_answer_get ?c_Registry_answer_get ?k_Registry_answer_get ?a_Registry_drop_name ?i_Registry_drop_name ?l_Registry_drop_name ?c_Registry_drop_name ?k_Registry_drop_name ?a_Registry_lapse ?i_Registry_lapse ?l_Registry_lapse ?c_Registry_lapse ?k_Registry_lapse ?a_Registry_fall ?i_Registry_fall ?l_Registry_fall ?c_Registry_fall ?k_Registry_fall ?a_Registry_roots ?i_Registry_roots ?l_Registry_roots ?c_Registry_roots ?k_Registry_roots ?a_Refused ?a_Malformed ?xL_Malformed ?sa_Malformed ?ga_Malformed ?gg_Malformed ?kC_Malformed ?eC_Malformed ?tC_Malformed ?hC_Malformed ?iC_Malformed ?sC_Malformed ?hk_Malformed ?hm_Malformed ?na_Malformed_line ?a_Malformed___init__ ?t_Malformed___init__ ?l_Malformed___init__ ?c_Malformed___init__ ?k_Malformed___init__ ?hn_obj ?ht_obj ?a__wall ?l__wall ?c__wall ?k__wall ?a_address_of ?l_address_of ?c_address_of ?k_address_of ?a_is_address ?l_is_address ?c_is_address ?k_is_address ?a_image_text ?l_image_text ?c_image_text ?k_image_text ?a_bundle_text ?l_bundle_text ?c_bundle_text ?k_bundle_text ?a_lines_of ?l_lines_of ?c_lines_of ?k_lines_of ?a_read_image ?l_read_image ?c_read_image ?k_read_image ?a_is_platform ?l_is_platform ?c_is_platform ?k_is_platform ?a_read_bundle ?l_read_bundle ?c_read_bundle ?k_read_bundle ?a_references ?l_references ?c_references ?k_references ?a__law_state ?l__law_state ?c__law_state ?k__law_state ?a__law_take ?l__law_take ?c__law_take ?k__law_take ?a__law_text ?l__law_text ?c__law_text ?k__law_text ?a__law_refs ?l__law_refs ?c__law_refs ?k__law_refs ?a__law_whole ?l__law_whole ?c__law_whole ?k__law_whole ?a__law_kept ?l__law_kept ?c__law_kept ?k__law_kept ?a__law_finish ?l__law_finish ?c__law_finish ?k__law_finish ?a__law_put ?l__law_put ?c__law_put ?k__law_put ?a__law_claimed ?l__law_claimed ?c__law_claimed ?k__law_claimed ?a__law_answer ?l__law_answer ?c__law_answer ?k__law_answer ?a__law_without ?l__law_without ?c__law_without ?k__law_without ?a__law_address ?l__law_address ?c__law_address ?k__law_address ?a__law_text_of ?l__law_text_of ?c__law_text_of ?k__law_text_of ?a__law_request ?l__law_request ?c__law_request ?k__law_request ?a__law_roots ?l__law_roots ?c__law_roots ?k__law_roots ?a_law ?l_law ?c_law ?k_law ?z_abs ?z_int ?z_isinstance ?z_len ?z_list ?z_ord ?z_range ?z_repr ?z_set ?z_sorted ?z_tuple ?v_DIGITS ?v_LETTERS ?v_MAX_LINES ?v_PRIME ?v_KINDS ?at_KINDS ?vl_KINDS ?sz_KINDS ?v_BELOW ?at_BELOW ?p_below1 ?p_below2 ?lit_BELOW ?v_CLAIMED ?at_CLAIMED ?vl_CLAIMED ?sz_CLAIMED
    (case a_Claims => k_is)
    (case pg_Claims => k_is)
    (case hd_Claims => k_is)
    (case po_Claims => k_is)
    (case sa_Claims => k_is)
    (case mk_Claims => k_is)
    (case kc_Claims => k_is)
    (case na_Claims_last => k_is)
    (case na_Claims_pins => k_is)
    (case a_Claims___init__ => k_is)
    (case i_Claims___init__ => k_is)
    (case l_Claims___init__ => k_is)
    (case c_Claims___init__ => k_is)
    (case k_Claims___init__ => k_is)
    (case a_Claims_begin => k_is)
    (case i_Claims_begin => k_is)
    (case l_Claims_begin => k_is)
    (case c_Claims_begin => k_is)
    (case k_Claims_begin => k_is)
    (case a_Claims_is_open => k_is)
    (case i_Claims_is_open => k_is)
    (case l_Claims_is_open => k_is)
    (case c_Claims_is_open => k_is)
    (case k_Claims_is_open => k_is)
    (case a_Claims_pin => k_is)
    (case i_Claims_pin => k_is)
    (case l_Claims_pin => k_is)
    (case c_Claims_pin => k_is)
    (case k_Claims_pin => k_is)
    (case a_Claims_end => k_is)
    (case i_Claims_end => k_is)
    (case l_Claims_end => k_is)
    (case c_Claims_end => k_is)
    (case k_Claims_end => k_is)
    (case a_Claims_numbers => k_is)
    (case i_Claims_numbers => k_is)
    (case l_Claims_numbers => k_is)
    (case c_Claims_numbers => k_is)
    (case k_Claims_numbers => k_is)
    (case a_Claims_pinned => k_is)
    (case i_Claims_pinned => k_is)
    (case l_Claims_pinned => k_is)
    (case c_Claims_pinned => k_is)
    (case k_Claims_pinned => k_is)
    (case a_Collector => k_is)
    (case pg_Collector => k_is)
    (case hd_Collector => k_is)
    (case po_Collector => k_is)
    (case sa_Collector => k_is)
    (case mk_Collector => k_is)
    (case kc_Collector => k_is)
    (case na_Collector_store => k_is)
    (case na_Collector_phase => k_is)
    (case na_Collector_marked => k_is)
    (case na_Collector_todo => k_is)
    (case na_Collector_doomed => k_is)
    (case a_Collector___init__ => k_is)
    (case i_Collector___init__ => k_is)
    (case l_Collector___init__ => k_is)
    (case c_Collector___init__ => k_is)
    (case k_Collector___init__ => k_is)
    (case a_Collector_stop => k_is)
    (case i_Collector_stop => k_is)
    (case l_Collector_stop => k_is)
    (case c_Collector_stop => k_is)
    (case k_Collector_stop => k_is)
    (case a_Collector_shade => k_is)
    (case i_Collector_shade => k_is)
    (case l_Collector_shade => k_is)
    (case c_Collector_shade => k_is)
    (case k_Collector_shade => k_is)
    (case a_Store => k_is)
    (case pg_Store => k_is)
    (case hd_Store => k_is)
    (case po_Store => k_is)
    (case sa_Store => k_is)
    (case mk_Store => k_is)
    (case kc_Store => k_is)
    (case na_Store_blobs => k_is)
    (case a_Store___init__ => k_is)
    (case i_Store___init__ => k_is)
    (case l_Store___init__ => k_is)
    (case c_Store___init__ => k_is)
    (case k_Store___init__ => k_is)
    (case a_Store_keep => k_is)
    (case i_Store_keep => k_is)
    (case l_Store_keep => k_is)
    (case c_Store_keep => k_is)
    (case k_Store_keep => k_is)
    (case a_Store_blob => k_is)
    (case i_Store_blob => k_is)
    (case l_Store_blob => k_is)
    (case c_Store_blob => k_is)
    (case k_Store_blob => k_is)
    (case a_Store_addresses => k_is)
    (case i_Store_addresses => k_is)
    (case l_Store_addresses => k_is)
    (case c_Store_addresses => k_is)
    (case k_Store_addresses => k_is)
    (case a_Store_below => k_is)
    (case i_Store_below => k_is)
    (case l_Store_below => k_is)
    (case c_Store_below => k_is)
    (case k_Store_below => k_is)
    (case a_Store_is_whole => k_is)
    (case i_Store_is_whole => k_is)
    (case l_Store_is_whole => k_is)
    (case c_Store_is_whole => k_is)
    (case k_Store_is_whole => k_is)
    (case a_Store_closure => k_is)
    (case i_Store_closure => k_is)
    (case l_Store_closure => k_is)
    (case c_Store_closure => k_is)
    (case k_Store_closure => k_is)
    (case a_Uploads => k_is)
    (case pg_Uploads => k_is)
    (case hd_Uploads => k_is)
    (case po_Uploads => k_is)
    (case sa_Uploads => k_is)
    (case mk_Uploads => k_is)
    (case kc_Uploads => k_is)
    (case na_Uploads_last => k_is)
    (case na_Uploads_texts => k_is)
    (case a_Uploads___init__ => k_is)
    (case i_Uploads___init__ => k_is)
    (case l_Uploads___init__ => k_is)
    (case c_Uploads___init__ => k_is)
    (case k_Uploads___init__ => k_is)
    (case a_Uploads_begin => k_is)
    (case i_Uploads_begin => k_is)
    (case l_Uploads_begin => k_is)
    (case c_Uploads_begin => k_is)
    (case k_Uploads_begin => k_is)
    (case a_Uploads_add_part => k_is)
    (case i_Uploads_add_part => k_is)
    (case l_Uploads_add_part => k_is)
    (case c_Uploads_add_part => k_is)
    (case k_Uploads_add_part => k_is)
    (case a_Uploads_finish => k_is)
    (case i_Uploads_finish => k_is)
    (case l_Uploads_finish => k_is)
    (case c_Uploads_finish => k_is)
    (case k_Uploads_finish => k_is)
    (case a_Uploads_forget => k_is)
    (case i_Uploads_forget => k_is)
    (case l_Uploads_forget => k_is)
    (case c_Uploads_forget => k_is)
    (case k_Uploads_forget => k_is)
    (case a_Registry => k_is)
    (case pg_Registry => k_is)
    (case hd_Registry => k_is)
    (case po_Registry => k_is)
    (case sa_Registry => k_is)
    (case mk_Registry => k_is)
    (case kc_Registry => k_is)
    (case na_Registry_store => k_is)
    (case na_Registry_names => k_is)
    (case na_Registry_claims => k_is)
    (case na_Registry_uploads => k_is)
    (case na_Registry_collector => k_is)
    (case a_Registry___init__ => k_is)
    (case i_Registry___init__ => k_is)
    (case l_Registry___init__ => k_is)
    (case c_Registry___init__ => k_is)
    (case k_Registry___init__ => k_is)
    (case a_Registry_answer => k_is)
    (case i_Registry_answer => k_is)
    (case l_Registry_answer => k_is)
    (case c_Registry_answer => k_is)
    (case k_Registry_answer => k_is)
    (case a_Registry_answer_plain => k_is)
    (case i_Registry_answer_plain => k_is)
    (case l_Registry_answer_plain => k_is)
    (case c_Registry_answer_plain => k_is)
    (case k_Registry_answer_plain => k_is)
    (case a_Registry_kept => k_is)
    (case i_Registry_kept => k_is)
    (case l_Registry_kept => k_is)
    (case c_Registry_kept => k_is)
    (case k_Registry_kept => k_is)
    (case a_Registry_answer_has => k_is)
    (case i_Registry_answer_has => k_is)
    (case l_Registry_answer_has => k_is)
    (case c_Registry_answer_has => k_is)
    (case k_Registry_answer_has => k_is)
    (case a_Registry_answer_part => k_is)
    (case i_Registry_answer_part => k_is)
    (case l_Registry_answer_part => k_is)
    (case c_Registry_answer_part => k_is)
    (case k_Registry_answer_part => k_is)
    (case a_Registry_answer_finish => k_is)
    (case i_Registry_answer_finish => k_is)
    (case l_Registry_answer_finish => k_is)
    (case c_Registry_answer_finish => k_is)
    (case k_Registry_answer_finish => k_is)
    (case a_Registry_answer_put => k_is)
    (case i_Registry_answer_put => k_is)
    (case l_Registry_answer_put => k_is)
    (case c_Registry_answer_put => k_is)
    (case k_Registry_answer_put => k_is)
    (case a_Registry_answer_name => k_is)
    (case i_Registry_answer_name => k_is)
    (case l_Registry_answer_name => k_is)
    (case c_Registry_answer_name => k_is)
    (case k_Registry_answer_name => k_is)
    (case a_Registry_answer_get => k_is)
    (case i_Registry_answer_get => k_is)
    (case l_Registry_answer_get => k_is)
    (case c_Registry_answer_get => k_is)
    (case k_Registry_answer_get => k_is)
    (case a_Registry_drop_name => k_is)
    (case i_Registry_drop_name => k_is)
    (case l_Registry_drop_name => k_is)
    (case c_Registry_drop_name => k_is)
    (case k_Registry_drop_name => k_is)
    (case a_Registry_lapse => k_is)
    (case i_Registry_lapse => k_is)
    (case l_Registry_lapse => k_is)
    (case c_Registry_lapse => k_is)
    (case k_Registry_lapse => k_is)
    (case a_Registry_fall => k_is)
    (case i_Registry_fall => k_is)
    (case l_Registry_fall => k_is)
    (case c_Registry_fall => k_is)
    (case k_Registry_fall => k_is)
    (case a_Registry_roots => k_is)
    (case i_Registry_roots => k_is)
    (case l_Registry_roots => k_is)
    (case c_Registry_roots => k_is)
    (case k_Registry_roots => k_is)
    (case a_Refused => k_is)
    (case a_Malformed => k_is)
    (case xL_Malformed => k_is)
    (case sa_Malformed => k_is)
    (case ga_Malformed => k_is)
    (case gg_Malformed => k_is)
    (case kC_Malformed => k_is)
    (case eC_Malformed => k_is)
    (case tC_Malformed => k_is)
    (case hC_Malformed => k_is)
    (case iC_Malformed => k_is)
    (case sC_Malformed => first | rfl | k_is)
    (case hk_Malformed => k_is)
    (case hm_Malformed => k_is)
    (case na_Malformed_line => k_is)
    (case a_Malformed___init__ => k_is)
    (case t_Malformed___init__ => k_is)
    (case l_Malformed___init__ => k_is)
    (case c_Malformed___init__ => k_is)
    (case k_Malformed___init__ => k_is)
    (case hn_obj => k_is)
    (case ht_obj => k_is)
    (case a__wall => k_is)
    (case l__wall => k_is)
    (case c__wall => k_is)
    (case k__wall => k_is)
    (case a_address_of => k_is)
    (case l_address_of => k_is)
    (case c_address_of => k_is)
    (case k_address_of => k_is)
    (case a_is_address => k_is)
    (case l_is_address => k_is)
    (case c_is_address => k_is)
    (case k_is_address => k_is)
    (case a_image_text => k_is)
    (case l_image_text => k_is)
    (case c_image_text => k_is)
    (case k_image_text => k_is)
    (case a_bundle_text => k_is)
    (case l_bundle_text => k_is)
    (case c_bundle_text => k_is)
    (case k_bundle_text => k_is)
    (case a_lines_of => k_is)
    (case l_lines_of => k_is)
    (case c_lines_of => k_is)
    (case k_lines_of => k_is)
    (case a_read_image => k_is)
    (case l_read_image => k_is)
    (case c_read_image => k_is)
    (case k_read_image => k_is)
    (case a_is_platform => k_is)
    (case l_is_platform => k_is)
    (case c_is_platform => k_is)
    (case k_is_platform => k_is)
    (case a_read_bundle => k_is)
    (case l_read_bundle => k_is)
    (case c_read_bundle => k_is)
    (case k_read_bundle => k_is)
    (case a_references => k_is)
    (case l_references => k_is)
    (case c_references => k_is)
    (case k_references => k_is)
    (case a__law_state => k_is)
    (case l__law_state => k_is)
    (case c__law_state => k_is)
    (case k__law_state => k_is)
    (case a__law_take => k_is)
    (case l__law_take => k_is)
    (case c__law_take => k_is)
    (case k__law_take => k_is)
    (case a__law_text => k_is)
    (case l__law_text => k_is)
    (case c__law_text => k_is)
    (case k__law_text => k_is)
    (case a__law_refs => k_is)
    (case l__law_refs => k_is)
    (case c__law_refs => k_is)
    (case k__law_refs => k_is)
    (case a__law_whole => k_is)
    (case l__law_whole => k_is)
    (case c__law_whole => k_is)
    (case k__law_whole => k_is)
    (case a__law_kept => k_is)
    (case l__law_kept => k_is)
    (case c__law_kept => k_is)
    (case k__law_kept => k_is)
    (case a__law_finish => k_is)
    (case l__law_finish => k_is)
    (case c__law_finish => k_is)
    (case k__law_finish => k_is)
    (case a__law_put => k_is)
    (case l__law_put => k_is)
    (case c__law_put => k_is)
    (case k__law_put => k_is)
    (case a__law_claimed => k_is)
    (case l__law_claimed => k_is)
    (case c__law_claimed => k_is)
    (case k__law_claimed => k_is)
    (case a__law_answer => k_is)
    (case l__law_answer => k_is)
    (case c__law_answer => k_is)
    (case k__law_answer => k_is)
    (case a__law_without => k_is)
    (case l__law_without => k_is)
    (case c__law_without => k_is)
    (case k__law_without => k_is)
    (case a__law_address => k_is)
    (case l__law_address => k_is)
    (case c__law_address => k_is)
    (case k__law_address => k_is)
    (case a__law_text_of => k_is)
    (case l__law_text_of => k_is)
    (case c__law_text_of => k_is)
    (case k__law_text_of => k_is)
    (case a__law_request => k_is)
    (case l__law_request => k_is)
    (case c__law_request => k_is)
    (case k__law_request => k_is)
    (case a__law_roots => k_is)
    (case l__law_roots => k_is)
    (case c__law_roots => k_is)
    (case k__law_roots => k_is)
    (case a_law => k_is)
    (case l_law => k_is)
    (case c_law => k_is)
    (case k_law => k_is)
    (case z_abs => k_is)
    (case z_int => k_is)
    (case z_isinstance => k_is)
    (case z_len => k_is)
    (case z_list => k_is)
    (case z_ord => k_is)
    (case z_range => k_is)
    (case z_repr => k_is)
    (case z_set => k_is)
    (case z_sorted => k_is)
    (case z_tuple => k_is)
    (case v_DIGITS => k_is)
    (case v_LETTERS => k_is)
    (case v_MAX_LINES => k_is)
    (case v_PRIME => k_is)
    (case v_KINDS => k_is)
    (case at_KINDS => k_is)
    (case vl_KINDS => exact .cons ⟨_, rfl⟩ (.cons ⟨_, rfl⟩ (.cons ⟨_, rfl⟩ .nil)))
    (case sz_KINDS => (show 3 ≤ sizeLine); decide)
    (case v_BELOW => k_is)
    (case at_BELOW => k_is)
    (case p_below1 => k_is)
    (case p_below2 => k_is)
    (case lit_BELOW => exact ⟨⟨_, _, rfl, rfl⟩, ⟨_, _, rfl, rfl⟩, trivial⟩)
    (case v_CLAIMED => k_is)
    (case at_CLAIMED => k_is)
    (case vl_CLAIMED => exact .cons ⟨_, rfl⟩ (.cons ⟨_, rfl⟩ (.cons ⟨_, rfl⟩ (.cons ⟨_, rfl⟩ .nil))))
    (case sz_CLAIMED => (show 4 ≤ sizeLine); decide)
