import PyProof.Rows.All
import Wide.All
import OpenK.AllK
import Wide.FinOn
import HandS.ForMost
import HandS.TupAny
import HandS.More
import HandS.Style
import HandS.Conv
import HandS.Codes
import HandS.FStr
import HandS.IsInst
import HandS.Strs
import HandS.Replace
import HandS.Walk
import HandS.Dict
import HandS.Flow
import HandS.Iter
import HandS.MakeKwOnly
import HandS.Exc
import HandS.ExcOwn
import HandS.ExcInit
import HandS.ExcField
import HandS.ExcIs
import HandS.WordsExc
import HandS.TryOnly
import KE.KExcIs
import PyProof.Rows.StrIntSpec
import HandS.Set
import HandS.SetKeys
import HandS.TupSets
import HandS.ForDict
import HandS.DictComp
import PyProof.Rows.SortShellAny
import PySem.Challenge.RW_layerwharf_k05_collector
set_option Elab.async false
set_option maxRecDepth 100000
set_option maxHeartbeats 4000000
set_option linter.all false
/-! ## words of our own, for every law -/
namespace Lw
open PySem L2
open PyProof.Rows (envOfC)

/-! ### what calls what -/
structure Cal (P : Program) (w : World) (K : PySem.W.Frag) (mg : Str → Option Value) (base : Heap) (k : Nat) (x : Str) (sp : Sp) : Prop where
  ex : ∃ (f : Addr) (fd : FuncData) (ps : List Str), FnOk P w K mg base CX0 k f fd ps sp ∧ mg x = some (.ref f) ∧ PySem.W.keepIn K (.ref f) = true ∧ Binds K fd ps []
structure Met (P : Program) (w : World) (K : PySem.W.Frag) (mg : Str → Option Value) (base : Heap) (k : Nat) (C : Addr) (m : Str) (sp : Sp) : Prop where
  ex : ∃ (f : Addr) (fd : FuncData) (ps : List Str), Cls K C ∧ Meth K C m f ∧ FnOk P w K mg base CX0 k f fd ps sp ∧ Binds K fd ps []
structure Mak (P : Program) (w : World) (K : PySem.W.Frag) (mg : Str → Option Value) (base : Heap) (k : Nat) (x : Str) (C : Addr) (sp : Sp) : Prop where
  ex : ∃ (f : Addr) (fd : FuncData) (ps : List Str), Mk K C f ∧ FnOk P w K mg base CX0 k f fd ps sp ∧ mg x = some (.ref C) ∧ Binds K fd ps []
/-- a def of the module -/
structure DefAt (K : PySem.W.Frag) (mg : Str → Option Value) (x : Str) (st : Stmt) (ps : List Str) : Prop where
  ex : ∃ (f : Addr) (fd : FuncData), Fun K x x st f fd ∧ mg x = some (.ref f) ∧ Binds K fd ps []
/-- a method of a class -/
structure MetAt (K : PySem.W.Frag) (C : Addr) (m qual : Str) (st : Stmt) (ps : List Str) : Prop where
  ex : ∃ (f : Addr) (fd : FuncData), Fun K m qual st f fd ∧ Meth K C m f ∧ Binds K fd ps []
/-- a class's __init__ -/
structure IniAt (K : PySem.W.Frag) (mg : Str → Option Value) (x : Str) (C : Addr) (qual : Str) (st : Stmt) (ps : List Str) : Prop where
  ex : ∃ (f : Addr) (fd : FuncData), Fun K "__init__" qual st f fd ∧ Mk K C f ∧ mg x = some (.ref C) ∧ Binds K fd ps []
/-- .. with keyword-only parameters ks, n other ones -/
structure IniKw (K : PySem.W.Frag) (mg : Str → Option Value) (x : Str) (C : Addr) (qual : Str) (st : Stmt) (ps : List Str) (n : Nat) (ks : List Str) : Prop where
  ex : ∃ (f : Addr) (fd : FuncData), Fun K "__init__" qual st f fd ∧ Mk K C f ∧ mg x = some (.ref C) ∧ KBn K fd ps n ks (fun us ws => us ++ ws) (fun vs zs => vs ++ zs)
structure MakK (P : Program) (w : World) (K : PySem.W.Frag) (mg : Str → Option Value) (base : Heap) (k : Nat) (x : Str) (C : Addr) (n : Nat) (ks : List Str) (sp : Sp) : Prop where
  ex : ∃ (f : Addr) (fd : FuncData) (ps : List Str), Mk K C f ∧ FnOk P w K mg base CX0 k f fd ps sp ∧ mg x = some (.ref C) ∧ KBn K fd ps (n + 1) ks (fun us ws => us ++ ws) (fun vs zs => vs ++ zs)
section
variable {P : Program} {w : World} {K : PySem.W.Frag} {mg : Str → Option Value} {base : Heap}
theorem makK_mk {x qual : Str} {C : Addr} {st : Stmt} {N ps ks : List Str} {n k : Nat} {sp : Sp} (D : IniKw K mg x C qual st ps (n + 1) ks) (S : FnScope N ps (defScope st)) (len : ∀ vs H Q E, sp vs H Q E → vs.length = ps.length)
    (hbody : ∀ (f : Addr) (cdv : Value) (A : Around) (outer : List Env) (s : Shared) (H : Hp) (vs : List V) (Q : VK) (E : XK), Room k (A.deeper (envOfC qual (defScope st) s.heap.objs.size f cdv)) → sp vs H Q E →
      ∃ t, PSs (cxOf CX0 P w K mg base N qual (defScope st) f cdv A outer s H E).nox (defBody st) t ∧ t { nx := fun _ H' => Q .non H', rt := Q } (start N vs) H) : MakK P w K mg base (k + 1) x C n ks sp := by
  obtain ⟨f, fd, F, M, hm, hb⟩ := D.ex
  exact ⟨f, fd, ps, M, F.ok S len fun cdv A outer s H vs Q E hr h => hbody f cdv A outer s H vs Q E hr h, hm, hb⟩
theorem cal_mk {x : Str} {st : Stmt} {N ps : List Str} {k : Nat} {sp : Sp} (D : DefAt K mg x st ps) (S : FnScope N ps (defScope st)) (len : ∀ vs H Q E, sp vs H Q E → vs.length = ps.length)
    (hbody : ∀ (f : Addr) (cdv : Value) (A : Around) (outer : List Env) (s : Shared) (H : Hp) (vs : List V) (Q : VK) (E : XK), Room k (A.deeper (envOfC x (defScope st) s.heap.objs.size f cdv)) → sp vs H Q E →
      ∃ t, PSs (cxOf CX0 P w K mg base N x (defScope st) f cdv A outer s H E).nox (defBody st) t ∧ t { nx := fun _ H' => Q .non H', rt := Q } (start N vs) H) : Cal P w K mg base (k + 1) x sp := by
  obtain ⟨f, fd, F, hm, hb⟩ := D.ex
  exact ⟨f, fd, ps, F.ok S len fun cdv A outer s H vs Q E hr h => hbody f cdv A outer s H vs Q E hr h, hm, F.kp, hb⟩
theorem met_mk {m qual : Str} {C : Addr} {st : Stmt} {N ps : List Str} {k : Nat} {sp : Sp} (c : Cls K C) (D : MetAt K C m qual st ps) (S : FnScope N ps (defScope st)) (len : ∀ vs H Q E, sp vs H Q E → vs.length = ps.length)
    (hbody : ∀ (f : Addr) (cdv : Value) (A : Around) (outer : List Env) (s : Shared) (H : Hp) (vs : List V) (Q : VK) (E : XK), Room k (A.deeper (envOfC qual (defScope st) s.heap.objs.size f cdv)) → sp vs H Q E →
      ∃ t, PSs (cxOf CX0 P w K mg base N qual (defScope st) f cdv A outer s H E).nox (defBody st) t ∧ t { nx := fun _ H' => Q .non H', rt := Q } (start N vs) H) : Met P w K mg base (k + 1) C m sp := by
  obtain ⟨f, fd, F, hm, hb⟩ := D.ex
  exact ⟨f, fd, ps, c, hm, F.ok S len fun cdv A outer s H vs Q E hr h => hbody f cdv A outer s H vs Q E hr h, hb⟩
theorem mak_mk {x qual : Str} {C : Addr} {st : Stmt} {N ps : List Str} {k : Nat} {sp : Sp} (D : IniAt K mg x C qual st ps) (S : FnScope N ps (defScope st)) (len : ∀ vs H Q E, sp vs H Q E → vs.length = ps.length)
    (hbody : ∀ (f : Addr) (cdv : Value) (A : Around) (outer : List Env) (s : Shared) (H : Hp) (vs : List V) (Q : VK) (E : XK), Room k (A.deeper (envOfC qual (defScope st) s.heap.objs.size f cdv)) → sp vs H Q E →
      ∃ t, PSs (cxOf CX0 P w K mg base N qual (defScope st) f cdv A outer s H E).nox (defBody st) t ∧ t { nx := fun _ H' => Q .non H', rt := Q } (start N vs) H) : Mak P w K mg base (k + 1) x C sp := by
  obtain ⟨f, fd, F, M, hm, hb⟩ := D.ex
  exact ⟨f, fd, ps, M, F.ok S len fun cdv A outer s H vs Q E hr h => hbody f cdv A outer s H vs Q E hr h, hm, hb⟩
end
section
variable {X : Cx} {x m : Str} {C : Addr} {sp : Sp} {k j : Nat} {e o : Expr} {es : List Expr} {p pos apos : Pos} {ta : TE} {t : TA}
theorem pe_c (c : Cal X.prog X.w X.K X.mg X.base k x sp) (hr : Room j X.A) (hk : k ≤ j) (hg : Gl X x) (ha : PA X (e :: es) t)
    (hdb : (x == ("__debug__" : Str)) = false := by decide) (he : starEach (e :: es) X.env = (false, eval e X.env) :: starEach es X.env := by rfl) (hpl : (backTo pos (starEach es X.env)).any (·.1) = false := by rfl) :
    PE X (.Call (.Name x p) (e :: es) [] pos) (tCall sp [] E0 t) := by
  obtain ⟨f, fd, ps, F, hm, kp, b⟩ := c.ex
  exact pe_call F (hr.mono hk) hg hm kp b .nil pass0 ha hdb he hpl
theorem pe_mk (c : Mak X.prog X.w X.K X.mg X.base k x C sp) (hr : Room j X.A) (hk : k + 1 ≤ j) (hg : Gl X x) (ha : PA X (e :: es) t)
    (hdb : (x == ("__debug__" : Str)) = false := by decide) (he : starEach (e :: es) X.env = (false, eval e X.env) :: starEach es X.env := by rfl) (hpl : (backTo pos (starEach es X.env)).any (·.1) = false := by rfl) :
    PE X (.Call (.Name x p) (e :: es) [] pos) (tMake C sp [] E0 t) := by
  obtain ⟨f, fd, ps, M, F, hm, b⟩ := c.ex
  exact pe_make M F (hr.mono hk) hg hm b .nil pass0 ha hdb he hpl
theorem pe_mk0 (c : Mak X.prog X.w X.K X.mg X.base k x C sp) (hr : Room j X.A) (hk : k + 1 ≤ j) (hg : Gl X x) (hdb : (x == ("__debug__" : Str)) = false := by decide) :
    PE X (.Call (.Name x p) [] [] pos) (tMake C sp [] E0 tNil) := by
  obtain ⟨f, fd, ps, M, F, hm, b⟩ := c.ex
  exact pe_make0 M F (hr.mono hk) hg hm b .nil pass0 hdb
theorem pe_mkK {n : Nat} {ks : List Str} {kws : List Keyword} {tk : TA} (c : MakK X.prog X.w X.K X.mg X.base k x C n ks sp) (hr : Room j X.A) (hk : k + 1 ≤ j) (hg : Gl X x) (ha : PA X (e :: es) t) (hkw : PK X kws tk)
    (hall : (backToKw pos (keywordEach kws X.env)).all (·.1.isSome) = true := by rfl) (hks : (backToKw pos (keywordEach kws X.env)).filterMap (·.1) = ks := by rfl) (hdb : (x == ("__debug__" : Str)) = false := by decide)
    (he : starEach (e :: es) X.env = (false, eval e X.env) :: starEach es X.env := by rfl) (hpl : ((backTo pos (starEach (e :: es) X.env)).any (·.1) || (backToKw pos (keywordEach kws X.env)).any (·.1.isNone)) = false := by rfl) :
    PE X (.Call (.Name x p) (e :: es) kws pos) (tMakeK C n ks.length sp (fun vs zs => vs ++ zs) E0 t tk) := by
  obtain ⟨f, fd, ps, M, F, hm, b⟩ := c.ex
  exact pe_makeK M F (hr.mono hk) hg hm b pass0 ha hkw hall hks hdb he hpl
theorem pe_mt {pl : Sem Bool} (c : Met X.prog X.w X.K X.mg X.base k C m sp) (hr : Room j X.A) (hk : k ≤ j) (he : PE X o ta) (ha : PA X (e :: es) t)
    (hst : starEach (e :: es) X.env = (false, eval e X.env) :: starEach es X.env := by rfl) (hpl : (backTo pos (starEach es X.env)).any (·.1) = false := by rfl)
    (ht : eval (.Call (.Attribute o m apos) (e :: es) [] pos) X.env = (do
      let ov ← eval o X.env
      standAt apos.atName
      let (f, first) ← holding [ov] (getMethod ov m pl)
      callWith pos f first (backTo pos (starEach (e :: es) X.env)) (backToKw pos (keywordEach [] X.env))) := by rfl) :
    PE X (.Call (.Attribute o m apos) (e :: es) [] pos) (tMeth C m sp [] E0 ta t) := by
  obtain ⟨f, fd, ps, hc, hm, F, b⟩ := c.ex
  exact pe_meth (pl := pl) he hc hm F (hr.mono hk) b .nil pass0 ha hst hpl ht
theorem pe_mt0 {pl : Sem Bool} (c : Met X.prog X.w X.K X.mg X.base k C m sp) (hr : Room j X.A) (hk : k ≤ j) (he : PE X o ta)
    (ht : eval (.Call (.Attribute o m apos) [] [] pos) X.env = (do
      let ov ← eval o X.env
      standAt apos.atName
      let (f, first) ← holding [ov] (getMethod ov m pl)
      callWith pos f first (backTo pos (starEach [] X.env)) (backToKw pos (keywordEach [] X.env))) := by rfl) :
    PE X (.Call (.Attribute o m apos) [] [] pos) (tMeth C m sp [] E0 ta tNil) := by
  obtain ⟨f, fd, ps, hc, hm, F, b⟩ := c.ex
  exact pe_meth0 (pl := pl) he hc hm F (hr.mono hk) b .nil pass0 ht
theorem pe_fldK {f : Str} (K : PySem.W.Frag) (h : X.K = K) (he : PE X e ta) (hb : attributeBase e f X.env (eval e X.env) = eval e X.env) : PE X (.Attribute e f pos) (tFld K ta f) := by subst h; exact pe_fld he hb
theorem pe_gc {v : V} (hg : Gl X x) (h : ∃ u, X.mg x = some u ∧ RelV v u) (hd : (x == ("__debug__" : Str)) = false := by decide) : PE X (.Name x pos) (tC v) := by
  obtain ⟨u, hm, r⟩ := h
  exact pe_glob hg hm r hd
end

theorem _root_.L2.Same.new {H : Hp} {p : Addr} {o : HO} (h : H p = none) : Same H (upd H p o) := fun b u e => by rw [upd_ne (ne_of_none e h)]; exact e
theorem _root_.L2.Same.seqT {K : PySem.W.Frag} {H H' : Hp} {a : Addr} {xs : List V} (e : Same H H') (h : SqT K H a xs) : SqT K H' a xs := by
  rcases h with (h | ⟨o, h⟩) | h
  · exact .inl (.inl (e _ _ h))
  · exact .inl (.inr ⟨o, e _ _ h⟩)
  · exact .inr h
theorem _root_.L2.Same.thenNew {H H' : Hp} {p : Addr} {o : HO} (s : Same H H') (h : H' p = none) : Same H (upd H' p o) := s.trans (Same.new h)
/-- a list that a def made for itself grows -/
theorem _root_.L2.Same.grow {H H' : Hp} {p : Addr} {o : HO} (s : Same H H') (h : H p = none) : Same H (upd H' p o) := fun b u e => by
  rw [upd_ne (ne_of_none e h)]
  exact s b u e

theorem ix_tupK {X : Cx} (K : PySem.W.Frag) (h : X.K = K) : IxR X (rIxT K) := by subst h; exact ix_tup
theorem ix_listK {X : Cx} (K : PySem.W.Frag) (h : X.K = K) : IxR X (rIxL K) := by subst h; exact ix_list
/-! ### steps through a reading -/
def rStr (x : V) (A : Prop) : Prop := (∃ a, x = .str a) ∧ A
def rCatS : R2 := fun x y H Q => ∃ i j, x = .str i ∧ y = .str j ∧ i.length + j.length ≤ sizeLine ∧ Q (.str (i ++ j)) H
theorem op_cat_str {X : Cx} : OpR X (binaryOp .Add) rCatS := op_add_str
def rInt1 : List V → Hp → VK → Prop := fun xs H Q => (∃ i, xs = [.int i] ∧ Q (.int i) H) ∨ ∃ k, xs = [.bl k] ∧ Q (.int (if k then 1 else 0)) H
theorem call_int1' {X : Cx} : CallR X (.type "int") rInt1 := call_int1
def rLenQ (K : PySem.W.Frag) : List V → Hp → VK → Prop := fun xs H Q => ∃ p ys, xs = [.ref p] ∧ (SqL K H p ys ∨ SqT K H p ys) ∧ Q (.int ys.length) H
theorem call_len_seq' {X : Cx} : CallR X (.builtin "len") (rLenQ X.K) := call_len_seq
def rLenT : List V → Hp → VK → Prop := fun xs H Q => ∃ z, xs = [.str z] ∧ z.length ≤ sizeLine ∧ Q (.int z.length) H
theorem call_len_str' {X : Cx} : CallR X (.builtin "len") rLenT := call_len_str
def rLenD : List V → Hp → VK → Prop := fun xs H Q => ∃ a kvs, xs = [V.ref a] ∧ H a = some (.dK kvs) ∧ Q (.int kvs.length) H
theorem call_lenD' {X : Cx} : CallR X (.builtin "len") rLenD := call_lenD
def rReprB : List V → Hp → VK → Prop := fun xs H Q => ∃ b, xs = [.bl b] ∧ Q (.str (if b then "True" else "False")) H
theorem call_repr_bool {X : Cx} : CallR X (.builtin "repr") rReprB := by
  intro pins s σ H xs us Q I r h
  obtain ⟨b, rfl, q⟩ := h
  obtain ⟨u, rfl, rx⟩ := vals1 r
  cases rx
  exact PySem.P.repr_of_bool ⟨.str _, H, I.tok _, ⟨_, rfl⟩, q⟩
def rInSg : R2 := fun x y H Q => ∃ (c : Nat) (z : Str), x = .str (SX.S [c]) ∧ y = .str z ∧ Q (.bl (decide (c ∈ z.cps.toList))) H
def rNotInSg : R2 := fun x y H Q => ∃ (c : Nat) (z : Str), x = .str (SX.S [c]) ∧ y = .str z ∧ Q (.bl (!decide (c ∈ z.cps.toList))) H
theorem op_inSg {X : Cx} : OpR X (compareOp .In) rInSg := op_in_sign
theorem op_notInSg {X : Cx} : OpR X (compareOp .NotIn) rNotInSg := op_notIn_sign
def rOrd : List V → Hp → VK → Prop := fun xs H Q => ∃ x, xs = [.str x] ∧ x.length = 1 ∧ Q (.int (x.cps.getD 0 0 : Nat)) H
theorem call_ord' {X : Cx} : CallR X (.builtin "ord") rOrd := call_ord
def rIsN : R2 := fun x y H Q => y = .non ∧ Q (.bl (decide (x = .non))) H
def rNotN : R2 := fun x y H Q => y = .non ∧ Q (.bl (!decide (x = .non))) H
theorem op_isN' {X : Cx} : OpR X (compareOp .Is) rIsN := op_isN
theorem op_notN' {X : Cx} : OpR X (compareOp .IsNot) rNotN := op_notN
section
variable {σ : St} {H : Hp} {Q : VK} {K : PySem.W.Frag} {D : Ends} {ta tb te : TE} {tl : TA} {t u : TS} {c d : TT} {i : Nat} {v : V} {g : TG} {r : R2} {b : Bool}
theorem g_var (h : σ[i]? = some (some v)) (k : Q v H) : tVar i σ H Q := ⟨v, h, k⟩
theorem g_c (k : Q v H) : tC v σ H Q := k
theorem g_op (k : ta σ H fun x H1 => tb σ H1 fun y H2 => r x y H2 Q) : tOp r ta tb σ H Q := k
theorem g_I0 {f : Int → Int → V} {a b : Int} (k : Q (f a b) H) : rI0 f (.int a) (.int b) H Q := ⟨a, b, rfl, rfl, k⟩
theorem g_I {C : Int → Int → Prop} {f : Int → Int → V} {a b : Int} (h : C a b) (k : Q (f a b) H) : rI C f (.int a) (.int b) H Q := ⟨a, b, rfl, rfl, h, k⟩
theorem g_eq {x y : V} (h : scal x y = true) (k : Q (.bl (decide (x = y))) H) : rEq x y H Q := ⟨h, k⟩
theorem g_ne {x y : V} (h : scal x y = true) (k : Q (.bl (!decide (x = y))) H) : rNe x y H Q := ⟨h, k⟩
theorem g_nil {Q : List V → Hp → Prop} (k : Q [] H) : tNil σ H Q := k
theorem g_cons {Q : List V → Hp → Prop} (k : ta σ H fun x H1 => tl σ H1 fun xs H2 => Q (x :: xs) H2) : tCons ta tl σ H Q := k
theorem g_cb {r : List V → Hp → VK → Prop} (k : tl σ H fun vs H1 => r vs H1 Q) : tCB r tl σ H Q := k
theorem g_call {sp : Sp} {dvs : List V} {E : XK} (k : tl σ H fun vs H1 => sp (vs ++ dvs) H1 Q E) : tCall sp dvs E tl σ H Q := k
theorem g_test {Q : Bool → Hp → Prop} (k : te σ H fun x H1 => ∃ z, x = .bl z ∧ Q z H1) : tTest te σ H Q := k
theorem g_B {Q : Bool → Hp → Prop} (k : te σ H fun x H1 => ∃ z, x = .bl z ∧ Q z H1) : tB te σ H Q := k
theorem g_exb {Q : Bool → Prop} (k : Q b) : ∃ z, V.bl b = .bl z ∧ Q z := ⟨b, rfl, k⟩
theorem g_not {Q : Bool → Hp → Prop} (k : c σ H fun b H1 => Q (!b) H1) : tNot c σ H Q := k
theorem g_and {Q : Bool → Hp → Prop} (k : c σ H fun b H1 => if b = true then d σ H1 Q else Q false H1) : tAnd c d σ H Q := k
theorem g_or {Q : Bool → Hp → Prop} (k : c σ H fun b H1 => if b = true then Q true H1 else d σ H1 Q) : tOr c d σ H Q := k
/-- what follows holds of any new place with o -/
def New (o : HO) (H : Hp) (Q : Addr → Hp → Prop) : Prop := ∀ p H', H p = none → Same H H' → H' p = some o → Q p H'
theorem New.to {o : HO} {Q : Addr → Hp → Prop} (k : New o H Q) : ∀ p, H p = none → Q p (upd H p o) := fun p hp => k p _ hp (fun b u e => by rw [upd_ne (ne_of_none e hp)]; exact e) upd_same
theorem small100 {n : Nat} (h : n ≤ 100) : n ≤ sizeLine := Nat.le_trans h (by decide)
def kTup (Q : VK) (xs : List V) (H1 : Hp) : Prop := xs.length ≤ sizeLine ∧ ∀ p, H1 p = none → Q (.ref p) (upd H1 p (.tup xs))
def kLst (Q : VK) (xs : List V) (H1 : Hp) : Prop := xs.length ≤ sizeLine ∧ ∀ p, H1 p = none → Q (.ref p) (upd H1 p (.lst xs))
theorem g_tup (k : tl σ H (kTup Q)) : tTup tl σ H Q := k
theorem g_lst (k : tl σ H (kLst Q)) : tLst tl σ H Q := k
/-- behind the items of a display -/
theorem g_ktup {xs : List V} (h : xs.length ≤ 100) (k : ∀ p H', H p = none → Same H H' → H' p = some (.tup xs) → Q (.ref p) H') : kTup Q xs H := ⟨small100 h, New.to (Q := fun p H' => Q (.ref p) H') k⟩
theorem g_klst {xs : List V} (h : xs.length ≤ 100) (k : ∀ p H', H p = none → Same H H' → H' p = some (.lst xs) → Q (.ref p) H') : kLst Q xs H := ⟨small100 h, New.to (Q := fun p H' => Q (.ref p) H') k⟩
theorem g_gcons {u : TGs} {v : V} {r : List V} {Q : St → Hp → Prop} (k : g v σ H fun σ' H' => u r σ' H' Q) : gCons g u (v :: r) σ H Q := ⟨v, r, rfl, k⟩
theorem g_gnil {Q : St → Hp → Prop} (k : Q σ H) : gNil [] σ H Q := ⟨rfl, k⟩
theorem g_gtup {K : PySem.W.Frag} {a : Addr} {xs : List V} {n : Nat} {u : TGs} {Q : St → Hp → Prop} (h : SqT K H a xs) (hn : xs.length = n) (k : u xs σ H Q) : gTup K n u (.ref a) σ H Q := ⟨a, xs, rfl, h, hn, k⟩
theorem _root_.L2.Same.at {H H' : Hp} {a : Addr} {o : HO} (s : Same H H') (h : H a = some o) : H' a = some o := s _ _ h
/-- x in (..), a display of flat values -/
theorem g_kinT {K : PySem.W.Frag} {x : V} {xs : List V} {b : Bool} (hl : xs.length ≤ 100) (hx : flatV x = true) (hs : xs.all flatV = true) (hb : inV x xs = b) (k : ∀ H', Same H H' → Q (.bl b) H') : kTup (fun y H2 => rIn K false x y H2 Q) xs H :=
  g_ktup hl fun p H' _ s h => ⟨p, xs, rfl, .inr (SqT.of h), hx, hs, by rw [hb]; exact k H' s⟩
theorem g_kninT {K : PySem.W.Frag} {x : V} {xs : List V} {b : Bool} (hl : xs.length ≤ 100) (hx : flatV x = true) (hs : xs.all flatV = true) (hb : inV x xs = b) (k : ∀ H', Same H H' → Q (.bl (!b)) H') : kTup (fun y H2 => rIn K true x y H2 Q) xs H :=
  g_ktup hl fun p H' _ s h => ⟨p, xs, rfl, .inr (SqT.of h), hx, hs, by rw [hb]; exact k H' s⟩
theorem g_kinL {K : PySem.W.Frag} {x : V} {xs : List V} {b : Bool} (hl : xs.length ≤ 100) (hx : flatV x = true) (hs : xs.all flatV = true) (hb : inV x xs = b) (k : ∀ H', Same H H' → Q (.bl b) H') : kLst (fun y H2 => rIn K false x y H2 Q) xs H :=
  g_klst hl fun p H' _ s h => ⟨p, xs, rfl, .inl (SqL.of h), hx, hs, by rw [hb]; exact k H' s⟩
theorem g_kninL {K : PySem.W.Frag} {x : V} {xs : List V} {b : Bool} (hl : xs.length ≤ 100) (hx : flatV x = true) (hs : xs.all flatV = true) (hb : inV x xs = b) (k : ∀ H', Same H H' → Q (.bl (!b)) H') : kLst (fun y H2 => rIn K true x y H2 Q) xs H :=
  g_klst hl fun p H' _ s h => ⟨p, xs, rfl, .inl (SqL.of h), hx, hs, by rw [hb]; exact k H' s⟩
theorem ifT {b : Bool} {A B : Prop} (h : b = true) (k : A) : if b = true then A else B := by rw [if_pos h]; exact k
theorem ifF {b : Bool} {A B : Prop} (h : b = false) (k : B) : if b = true then A else B := by subst h; exact iteF k
theorem g_catA {a b : Addr} {xs ys : List V} (ha : H a = some (.tup xs)) (hb : H b = some (.tup ys)) (h0 : xs ≠ []) (hl : xs.length + ys.length ≤ 100) (k : ∀ p H', Same H H' → H' p = some (.tup (xs ++ ys)) → Q (.ref p) H') : rCatA K (.ref a) (.ref b) H Q :=
  ⟨a, b, xs, ys, rfl, rfl, SqT.of ha, SqT.of hb, small100 hl, fun z => absurd z h0, fun _ z => k a H (Same.refl H) (by subst z; rw [List.append_nil]; exact ha), fun _ _ p hp => k p _ (fun b u e => by rw [upd_ne (ne_of_none e hp)]; exact e) upd_same⟩
theorem g_slA {a : Addr} {xs : List V} {lo hi : Option Int} (ha : H a = some (.tup xs)) (k : ∀ p H', Same H H' → H' p = some (.tup (cutV xs lo hi)) → Q (.ref p) H') : rSlA K (.ref a) lo hi H Q := by
  refine ⟨a, xs, rfl, SqT.of ha, fun z => k a H (Same.refl H) ?_, fun _ p hp => k p _ (fun b u e => by rw [upd_ne (ne_of_none e hp)]; exact e) upd_same⟩
  have e : cutV xs lo hi = xs := by
    unfold cutV
    rw [z.1, z.2, List.drop_zero, Nat.sub_zero, List.take_length]
  rw [e]; exact ha
theorem g_rslS {x : Str} {lo hi : Option Int} (h : x.length ≤ sizeLine) (k : Q (.str (Txt.slice x lo hi)) H) : C8.rSlX (.str x) lo hi H Q := ⟨x, rfl, h, k⟩
theorem g_ifx (k : c σ H fun b H1 => if b = true then ta σ H1 Q else tb σ H1 Q) : tIf c ta tb σ H Q := k
/-- a field read -/
def rFld (K : PySem.W.Frag) (f : Str) (x : V) (H : Hp) (Q : VK) : Prop := ∃ a C dx fs v, x = .ref a ∧ H a = some (.ins C dx fs) ∧ Cls K C ∧ NoAttr K C f ∧ fs.lookup f = some v ∧ Q v H
theorem g_fld {f : Str} (k : ta σ H fun x H1 => rFld K f x H1 Q) : tFld K ta f σ H Q := k
theorem g_rfld {f : Str} {a C dx : Addr} {fs : List (Str × V)} (h : H a = some (.ins C dx fs)) (hc : Cls K C) (hn : NoAttr K C f) (hl : fs.lookup f = some v) (k : Q v H) : rFld K f (.ref a) H Q := ⟨a, C, dx, fs, v, rfl, h, hc, hn, hl, k⟩
/-- a method called -/
def rMeth (C : Addr) (m : Str) (sp : Sp) (x : V) (tl : TA) (σ : St) (H : Hp) (Q : VK) : Prop := ∃ a dx fs, x = .ref a ∧ H a = some (.ins C dx fs) ∧ fs.lookup m = none ∧ tl σ H fun vs H2 => sp (x :: (vs ++ [])) H2 Q E0
def rSFld (K : PySem.W.Frag) (f : Str) (y x : V) (H : Hp) (Q : Hp → Prop) : Prop := ∃ a C dx fs, x = .ref a ∧ H a = some (.ins C dx fs) ∧ Cls K C ∧ NoAttr K C f ∧ fs.length < 1000 ∧ Q (upd H a (.ins C dx (putF f y fs)))
theorem g_sfld {f : Str} (k : tb σ H fun y H1 => ta σ H1 fun x H2 => rSFld K f y x H2 fun H3 => D.nx σ H3) : sFld K ta tb f D σ H := k
theorem g_rsfld {f : Str} {y : V} {a C dx : Addr} {fs : List (Str × V)} {Q : Hp → Prop} (h : H a = some (.ins C dx fs)) (hc : Cls K C) (hn : NoAttr K C f) (hl : fs.length < 1000) (k : ∀ H', H' a = some (.ins C dx (putF f y fs)) → (∀ b, b ≠ a → H' b = H b) → Q H') : rSFld K f y (.ref a) H Q :=
  ⟨a, C, dx, fs, rfl, h, hc, hn, hl, k _ upd_same fun b hb => upd_ne hb⟩
theorem g_meth {C : Addr} {m : Str} {sp : Sp} (k : ta σ H fun x H1 => rMeth C m sp x tl σ H1 Q) : tMeth C m sp [] E0 ta tl σ H Q := k
theorem g_rmeth {C a dx : Addr} {m : Str} {sp : Sp} {fs : List (Str × V)} (h : H a = some (.ins C dx fs)) (hl : fs.lookup m = none) (k : tl σ H fun vs H2 => sp (.ref a :: (vs ++ [])) H2 Q E0) : rMeth C m sp (.ref a) tl σ H Q := ⟨a, dx, fs, rfl, h, hl, k⟩
def rMake (C : Addr) (sp : Sp) (vs : List V) (H1 : Hp) (Q : VK) : Prop := ∀ x dx, H1 x = none → H1 dx = none → dx ≠ x → sp (.ref x :: (vs ++ [])) (upd (upd H1 dx (.own x)) x (.ins C dx [])) (fun v H2 => v = .non ∧ Q (.ref x) H2) E0
theorem g_make {C : Addr} {sp : Sp} (k : tl σ H fun vs H1 => rMake C sp vs H1 Q) : tMake C sp [] E0 tl σ H Q := k
/-- a list that is changed in its place -/
theorem g_append {l : Addr} {xs : List V} {y : V} (h : H l = some (.lst xs)) (hz : xs.length < 100000) (k : ∀ H', H' l = some (.lst (xs ++ [y])) → (∀ b, b ≠ l → H' b = H b) → Q .non H') : rAppend (.ref l) [y] H Q :=
  ⟨l, xs, y, rfl, rfl, h, Nat.lt_of_lt_of_le hz (by decide), k _ upd_same fun b hb => upd_ne hb⟩
theorem g_tyL {p : Addr} {xs : List V} {A : Prop} (h : H p = some (.lst xs)) (k : A) : tyV K "list" (.ref p) H ∧ A := ⟨.inl ⟨rfl, _, SqL.of h⟩, k⟩
theorem g_tyS {x : Str} {A : Prop} (k : A) : tyV K "str" (.str x) H ∧ A := ⟨rfl, k⟩
theorem g_tyA {p : Addr} {o : Obj} {A : Prop} (h : K.lookup p = some o) (h1 : o.cls = .type "tuple") (h2 : o.dict = none) (k : A) : tyV K "tuple" (.ref p) H ∧ A := ⟨Or.inr (Or.inl ⟨rfl, o, h, h1, h2⟩), k⟩
theorem g_popAt {l : Addr} {xs : List V} {i : Nat} {y : V} (h : H l = some (.lst xs)) (hi : xs[i]? = some y) (hz : xs.length < 100000) (k : ∀ H', H' l = some (.lst (xs.eraseIdx i)) → (∀ b, b ≠ l → H' b = H b) → Q y H') : rPopAt (.ref l) [.int (i : Int)] H Q := by
  have hl := (List.getElem?_eq_some_iff.mp hi).1
  refine ⟨l, xs, (i : Int), i, y, rfl, rfl, h, by omega, by omega, ?_, hi, k _ upd_same fun b hb => upd_ne hb⟩
  exact (ixN_seq (n := xs.length) (i := (i : Int)) (j := i) (by unfold ixN; rw [if_pos (by omega), if_pos (by omega), Int.toNat_natCast])).1
theorem g_rix {p : Addr} {xs : List V} {j : Int} (h : SqL K H p xs) (ha : atI xs j = some v) (k : Q v H) : rIxL K (.ref p) (.int j) H Q := ⟨p, xs, j, v, rfl, rfl, h, ha, k⟩
theorem g_rixT {p : Addr} {xs : List V} {j : Int} (h : SqT K H p xs) (ha : atI xs j = some v) (k : Q v H) : rIxT K (.ref p) (.int j) H Q := ⟨p, xs, j, v, rfl, rfl, h, ha, k⟩
theorem g_sl {r : V → Option Int → Option Int → Hp → VK → Prop} {tl th : TO} (k : te σ H fun x H1 => tl σ H1 fun l H2 => th σ H2 fun u H3 => r x l u H3 Q) : tSl r te tl th σ H Q := k
theorem g_nopart {Q : Option Int → Hp → Prop} (k : Q none H) : tNoPart σ H Q := k
def rPart (x : V) (H : Hp) (Q : Option Int → Hp → Prop) : Prop := ∃ i, x = .int i ∧ Q (some i) H
theorem g_part {Q : Option Int → Hp → Prop} (k : te σ H fun x H1 => rPart x H1 Q) : tPart te σ H Q := k
theorem g_rpart {Q : Option Int → Hp → Prop} {a : Int} (k : Q (some a) H) : rPart (.int a) H Q := ⟨a, rfl, k⟩
theorem g_m1 {r : V → List V → Hp → VK → Prop} {to : TE} (k : to σ H fun x H1 => rStr x (te σ H1 fun y H2 => r x [y] H2 Q)) : tM1 r to te σ H Q := k
theorem g_m0 {r : V → List V → Hp → VK → Prop} {to : TE} (k : to σ H fun x H1 => rStr x (r x [] H1 Q)) : tM0 r to σ H Q := k
theorem g_rstr {x : Str} {A : Prop} (k : A) : rStr (.str x) A := ⟨⟨x, rfl⟩, k⟩
theorem g_bm0 {T : String} {r : V → List V → Hp → VK → Prop} {to : TE} (k : to σ H fun x H1 => tyV K T x H1 ∧ r x [] H1 Q) : tBM0 K T r to σ H Q := k
theorem g_bm {T : String} {r : V → List V → Hp → VK → Prop} {to : TE} {t : TA} (k : to σ H fun x H1 => tyV K T x H1 ∧ t σ H1 fun xs H2 => r x xs H2 Q) : tBM K T r to t σ H Q := k
theorem g_isB {a b : Bool} (k : Q (.bl (decide (a = b))) H) : rIsB (.bl a) (.bl b) H Q := ⟨a, b, rfl, rfl, k⟩
theorem g_notB {a b : Bool} (k : Q (.bl (!decide (a = b))) H) : rNotB (.bl a) (.bl b) H Q := ⟨a, b, rfl, rfl, k⟩
theorem g_andV (k : ta σ H fun x H1 => ∃ c, x = .bl c ∧ if c = true then tb σ H1 Q else Q (.bl false) H1) : tAndV ta tb σ H Q := k
theorem g_orV (k : ta σ H fun x H1 => ∃ c, x = .bl c ∧ if c = true then Q (.bl true) H1 else tb σ H1 Q) : tOrV ta tb σ H Q := k
theorem g_notV (k : ta σ H fun x H1 => ∃ c, x = .bl c ∧ Q (.bl (!c)) H1) : tNotV ta σ H Q := k
theorem g_isN {x : V} (k : Q (.bl (decide (x = .non))) H) : rIsN x .non H Q := ⟨rfl, k⟩
theorem g_notN {x : V} (k : Q (.bl (!decide (x = .non))) H) : rNotN x .non H Q := ⟨rfl, k⟩
theorem g_cat_str {a b : Str} (h : a.length + b.length ≤ sizeLine) (k : Q (.str (a ++ b)) H) : rCatS (.str a) (.str b) H Q := ⟨a, b, rfl, rfl, h, k⟩
theorem g_int1 {a : Int} (k : Q (.int a) H) : rInt1 [.int a] H Q := .inl ⟨a, rfl, k⟩
theorem g_int1b {b : Bool} (k : Q (.int (if b then 1 else 0)) H) : rInt1 [.bl b] H Q := .inr ⟨b, rfl, k⟩
theorem g_reprB {b : Bool} (k : Q (.str (if b then "True" else "False")) H) : rReprB [.bl b] H Q := ⟨b, rfl, k⟩
theorem g_cat {a b : Addr} {xs ys : List V} (ha : H a = some (.lst xs)) (hb : H b = some (.lst ys)) (hl : xs.length + ys.length ≤ 100000) (k : ∀ p H', H p = none → Same H H' → H' p = some (.lst (xs ++ ys)) → Q (.ref p) H') : rCat (.ref a) (.ref b) H Q :=
  ⟨a, b, xs, ys, rfl, rfl, ha, hb, Nat.le_trans hl (by decide), New.to (Q := fun p H' => Q (.ref p) H') k⟩
theorem g_slL {a : Addr} {xs : List V} {lo hi : Option Int} (h : SqL K H a xs) (k : ∀ p H', H p = none → Same H H' → H' p = some (.lst (cutV xs lo hi)) → Q (.ref p) H') : rSlL K (.ref a) lo hi H Q :=
  ⟨a, xs, rfl, h, New.to (Q := fun p H' => Q (.ref p) H') k⟩
theorem g_inSg {ch : Nat} {z : Str} (k : Q (.bl (decide (ch ∈ z.cps.toList))) H) : rInSg (.str (SX.S [ch])) (.str z) H Q := ⟨ch, z, rfl, rfl, k⟩
theorem g_notInSg {ch : Nat} {z : Str} (k : Q (.bl (!decide (ch ∈ z.cps.toList))) H) : rNotInSg (.str (SX.S [ch])) (.str z) H Q := ⟨ch, z, rfl, rfl, k⟩
theorem g_ord {ch : Nat} (k : Q (.int (ch : Int)) H) : rOrd [.str (SX.S [ch])] H Q := ⟨_, rfl, rfl, k⟩
theorem g_lenL {p : Addr} {ys : List V} (h : SqL K H p ys) (k : Q (.int ys.length) H) : rLenQ K [.ref p] H Q := ⟨p, ys, rfl, .inl h, k⟩
theorem g_lenU {p : Addr} {ys : List V} (h : SqT K H p ys) (k : Q (.int ys.length) H) : rLenQ K [.ref p] H Q := ⟨p, ys, rfl, .inr h, k⟩
theorem g_lenT {z : Str} (h : z.length ≤ sizeLine) (k : Q (.int z.length) H) : rLenT [.str z] H Q := ⟨z, rfl, h, k⟩
theorem g_lenD {a : Addr} {kvs : List (Key × V)} (h : H a = some (.dK kvs)) (k : Q (.int kvs.length) H) : rLenD [.ref a] H Q := ⟨a, kvs, rfl, h, k⟩
theorem g_setL {p : Addr} {xs : List V} {j : Int} {n : Nat} {Q : Hp → Prop} (h : H p = some (.lst xs)) (hj : ixN xs.length j = some n) (k : Q (upd H p (.lst (xs.set n v)))) : rSetL (.ref p) (.int j) v H Q := ⟨p, xs, j, n, rfl, rfl, h, hj, k⟩
theorem g_sub {ti : TE} {t : TSet} {Q : St → Hp → Prop} (k : te σ H fun o H1 => ti σ H1 fun i H2 => t o i v H2 fun H3 => Q σ H3) : gSub te ti t v σ H Q := k
theorem g_dget2 {tx : TE} (k : ta σ H fun x H1 => ∃ a, x = .ref a ∧ IsD H1 a ∧ tb σ H1 fun y H2 => tx σ H2 fun z H3 => ∃ o, DGet H3 a y o ∧ Q (o.getD z) H3) : tDGet2 ta tb tx σ H Q := k
theorem g_orD {b1 b2 : Bool} {Q : Bool → Hp → Prop} (h1 : ∀ Q : Bool → Hp → Prop, Q b1 H → c σ H Q) (h2 : ∀ Q : Bool → Hp → Prop, Q b2 H → d σ H Q) (k : Q (b1 || b2) H) : tOr c d σ H Q := by
  refine h1 _ ?_
  cases b1
  · exact h2 _ k
  · exact k
theorem g_andD {b1 b2 : Bool} {Q : Bool → Hp → Prop} (h1 : ∀ Q : Bool → Hp → Prop, Q b1 H → c σ H Q) (h2 : ∀ Q : Bool → Hp → Prop, Q b2 H → d σ H Q) (k : Q (b1 && b2) H) : tAnd c d σ H Q := by
  refine h1 _ ?_
  cases b1
  · exact k
  · exact h2 _ k
theorem g_rixS {x : Str} {j : Int} {ch : Nat} (h : x.length ≤ sizeLine) (ha : atI x.cps.toList j = some ch) (k : Q (.str (SX.S [ch])) H) : rIxS (.str x) (.int j) H Q := ⟨x, j, ch, rfl, rfl, h, ha, k⟩
/-- for .. in range(r) -/
def kFor1 (g : TG) (tb : TS) (D : Ends) (σ : St) (vs : List V) (H : Hp) : Prop := ∃ j : Int, vs = [.int j] ∧ -(2 ^ 62) ≤ j ∧ j < 2 ^ 62 ∧ ∃ W : Nat → Nat → St → Hp → Prop, (∃ m, W 0 m σ H) ∧ ∀ i m σ H, W i m σ H →
  ((Itr 0 j.toNat).stop i H ∧ D.nx σ H) ∨ ((Itr 0 j.toNat).go i H ∧ ∃ N : St → Hp → Prop, (∀ σ' H', N σ' H' → ∃ m', m' < m ∧ W (i + 1) m' σ' H') ∧ ∀ x H', (Itr 0 j.toNat).yld i H x H' → g x σ H' fun σ2 H2 => tb { D with nx := N, ct := N, bk := D.nx } σ2 H2)
theorem g_forR {tb : TS} (k : tl σ H (kFor1 g tb D σ)) : tFor (iRng1 tl) g tb D σ H := k
theorem g_for1 {tb : TS} {r : Int} (h0 : 0 ≤ r) (h1 : r ≤ 100000) (Pv : Nat → St → Hp → Prop) (hi : Pv 0 σ H) (hs : ∀ (i : Nat) σ H, i < r.toNat → Pv i σ H → g (.int (i : Int)) σ H fun σ2 H2 => tb { D with nx := Pv (i + 1), ct := Pv (i + 1), bk := D.nx } σ2 H2)
    (hd : ∀ σ H, Pv r.toNat σ H → D.nx σ H) : kFor1 g tb D σ [.int r] H :=
  ⟨r, rfl, by omega, by omega, for_range (lo := 0) (n := r.toNat) Pv hi (fun i σ H hi h => by rw [Int.zero_add]; exact hs i σ H hi h) hd⟩
/-! walks -/
def kFor (g : TG) (tb : TS) (D : Ends) (σ : St) (J : It) (H : Hp) : Prop := ∃ W : Nat → Nat → St → Hp → Prop, (∃ m, W 0 m σ H) ∧ ∀ i m σ H, W i m σ H →
  (J.stop i H ∧ D.nx σ H) ∨ (J.go i H ∧ ∃ N : St → Hp → Prop, (∀ σ' H', N σ' H' → ∃ m', m' < m ∧ W (i + 1) m' σ' H') ∧ ∀ x H', J.yld i H x H' → g x σ H' fun σ2 H2 => tb { D with nx := N, ct := N, bk := D.nx } σ2 H2)
theorem g_for {wi : TI} {tb : TS} (k : wi σ H (kFor g tb D σ)) : tFor wi g tb D σ H := k
def rItS (v : V) (H : Hp) (R : It → Hp → Prop) : Prop := ∃ x, v = .str x ∧ R (Its x) H
theorem g_iStr {R : It → Hp → Prop} (k : te σ H fun v H1 => rItS v H1 R) : iStr te σ H R := k
theorem g_ritS {x : Str} {R : It → Hp → Prop} (k : R (Its x) H) : rItS (.str x) H R := ⟨x, rfl, k⟩
def rItL (K : PySem.W.Frag) (v : V) (H : Hp) (R : It → Hp → Prop) : Prop := ∃ a, v = .ref a ∧ (∃ xs, SqL K H a xs) ∧ R (Itl K a) H
theorem g_iList {R : It → Hp → Prop} (k : te σ H fun v H1 => rItL K v H1 R) : iList K te σ H R := k
theorem g_ritL {a : Addr} {xs : List V} {R : It → Hp → Prop} (h : SqL K H a xs) (k : R (Itl K a) H) : rItL K (.ref a) H R := ⟨a, rfl, ⟨xs, h⟩, k⟩
def rItU (K : PySem.W.Frag) (v : V) (H : Hp) (R : It → Hp → Prop) : Prop := ∃ a, v = .ref a ∧ (∃ xs, SqT K H a xs) ∧ R (Itt K a) H
theorem g_iTup {R : It → Hp → Prop} (k : te σ H fun v H1 => rItU K v H1 R) : iTup K te σ H R := k
theorem g_ritU {a : Addr} {xs : List V} {R : It → Hp → Prop} (h : SqT K H a xs) (k : R (Itt K a) H) : rItU K (.ref a) H R := ⟨a, rfl, ⟨xs, h⟩, k⟩
def rItR (vs : List V) (H : Hp) (R : It → Hp → Prop) : Prop := ∃ j : Int, vs = [.int j] ∧ -(2 ^ 62) ≤ j ∧ j < 2 ^ 62 ∧ R (Itr 0 j.toNat) H
theorem g_iRng {R : It → Hp → Prop} (k : tl σ H fun vs H1 => rItR vs H1 R) : iRng1 tl σ H R := k
theorem g_ritR {r : Int} {R : It → Hp → Prop} (h0 : 0 ≤ r) (h1 : r ≤ 100000) (k : R (Itr 0 r.toNat) H) : rItR [.int r] H R := ⟨r, rfl, by omega, by omega, k⟩
/-- the signs of a text, each a text -/
def sgs (l : List Nat) : List V := l.map fun c => V.str (SX.S [c])
theorem walk_sgs {l : List Nat} : Walk (Its (SX.S l)) (sgs l).length (fun _ => True) (YAt (sgs l)) := by
  have e : (sgs l).length = (SX.S l).cps.size := by unfold sgs; simp
  rw [e]
  refine walk_str.mono (fun _ h => h) fun i H x H' hi _ h => ?_
  obtain ⟨h1, c, h2, h3⟩ := h
  refine ⟨h1, ?_⟩
  have h4 : l[i]? = some c := by simpa using h2
  unfold sgs
  rw [List.getElem?_map, h4, h3]
  rfl
theorem sgs_at {l : List Nat} {i : Nat} {x : V} (h : (sgs l)[i]? = some x) : ∃ c, l[i]? = some c ∧ V.str (SX.S [c]) = x := by
  unfold sgs at h
  rw [List.getElem?_map] at h
  cases e : l[i]? with
  | none => rw [e] at h; cases h
  | some c => rw [e] at h; exact ⟨c, rfl, Option.some.inj h⟩
theorem map_at {α : Type} {F : α → V} {l : List α} {i : Nat} {x : V} (h : (l.map F)[i]? = some x) : ∃ c, l[i]? = some c ∧ F c = x := by
  rw [List.getElem?_map] at h
  cases e : l[i]? with
  | none => rw [e] at h; cases h
  | some c => rw [e] at h; exact ⟨c, rfl, Option.some.inj h⟩
theorem sgs_len {l : List Nat} : (sgs l).length = l.length := by unfold sgs; rw [List.length_map]
theorem walk_rng {n : Nat} : Walk (Itr 0 n) ((List.range n).map fun (i : Nat) => V.int (i : Int)).length (fun _ => True) (YAt ((List.range n).map fun (i : Nat) => V.int (i : Int))) := by
  rw [List.length_map, List.length_range]
  refine walk_range.mono (fun _ h => h) fun i H x H' hi _ h => ?_
  obtain ⟨h1, h2⟩ := h
  refine ⟨h1, ?_⟩
  rw [List.getElem?_map, List.getElem?_range hi, h2]
  show some (V.int (i : Int)) = some (V.int (0 + (i : Int)))
  rw [Int.zero_add]
/-- a for over xs -/
theorem for_at {J : It} {xs : List V} {G : Hp → Prop} {tb : TS} (w : Walk J xs.length G (YAt xs)) (Pv : Nat → St → Hp → Prop) (h0 : Pv 0 σ H) (hG : ∀ i σ H, Pv i σ H → G H)
    (hs : ∀ i x σ H, xs[i]? = some x → Pv i σ H → g x σ H fun σ2 H2 => tb { D with nx := Pv (i + 1), ct := Pv (i + 1), bk := D.nx } σ2 H2) (hd : ∀ σ H, Pv xs.length σ H → D.nx σ H) : kFor g tb D σ J H :=
  for_it w Pv h0 (fun i σ H _ h => hG i σ H h) (fun i x σ H H' _ h y => by obtain ⟨e, hx⟩ := y; subst e; exact hs i x σ H' hx h) hd
/-- a comprehension -/
def kLc (g : TG) (tt : TT) (te : TE) (vs : List Nat) (σ : St) (Q : VK) (J : It) (H1 : Hp) : Prop := ∀ D, H1 D = none → ∃ W : Nat → Nat → Hp → Prop, (∃ m, W 0 m (upd H1 D (.lst []))) ∧ ∀ i m H, W i m H →
  (J.stop i H ∧ Q (.ref D) H) ∨ (J.go i H ∧ ∃ Nx : Hp → Prop, (∀ H', Nx H' → ∃ m', m' < m ∧ W (i + 1) m' H') ∧ ∀ x H', J.yld i H x H' → g x (wipe σ vs) H' fun σ2 H2 => wipe σ2 vs = wipe σ vs ∧ tt σ2 H2 fun b H3 =>
    if b = true then te σ2 H3 fun y H4 => ∃ acc, H4 D = some (.lst acc) ∧ acc.length < sizeLine ∧ Nx (upd H4 D (.lst (acc ++ [y]))) else Nx H3)
theorem g_lc {wi : TI} {tt : TT} {vs : List Nat} (k : wi σ H (kLc g tt te vs σ Q)) : tLc wi g tt te vs σ H Q := k
theorem take_ok {α : Type} {xs : List α} {i : Nat} {x : α} (h : xs[i]? = some x) : xs.take (i + 1) = xs.take i ++ [x] := by
  rw [List.take_add_one, h]
  rfl
/-- .. whose items hang on the item alone: xs filtered and mapped; the heap may grow meanwhile -/
theorem lc_map {J : It} {xs : List V} {G : Hp → Prop} {tt : TT} {vs : List Nat} (w : Walk J xs.length G (YAt xs)) (hG : ∀ H', Same H H' → G H') (hz : xs.length ≤ 100000) (p : V → Bool) (f : V → V)
    (hg : ∀ x ∈ xs, ∀ H' (R : St → Hp → Prop), Same H H' → (∀ σ2, wipe σ2 vs = wipe σ vs → (∀ H'' (R : Bool → Hp → Prop), Same H H'' → R (p x) H'' → tt σ2 H'' R) →
      (p x = true → ∀ H'' (R : VK), Same H H'' → (∀ H3, Same H'' H3 → R (f x) H3) → te σ2 H'' R) → R σ2 H') → g x (wipe σ vs) H' R)
    (k : ∀ q H', H q = none → Same H H' → H' q = some (.lst ((xs.filter p).map f)) → Q (.ref q) H') : kLc g tt te vs σ Q J H := by
  intro D hD
  refine lc_it w (fun i H2 => Same H H2 ∧ H2 D = some (.lst (((xs.take i).filter p).map f))) ⟨Same.new hD, upd_same⟩ (fun i H2 _ h => hG H2 h.1) (fun i x H2 H2' hi h y => ?_) (fun H2 h => ?_)
  · obtain ⟨e, hx⟩ := y
    subst e
    refine hg x (List.mem_of_getElem? hx) _ _ h.1 fun σ2 hw ht he => ⟨hw, ?_⟩
    refine ht _ _ h.1 ?_
    have hl : (((xs.take i).filter p).map f).length < sizeLine := by
      rw [List.length_map]
      have h1 := List.length_filter_le p (xs.take i)
      have h2 := List.length_take_le i xs
      exact Nat.lt_of_lt_of_le (show _ < 200000 by omega) (by decide)
    cases hp : p x with
    | true =>
      refine iteT ?_
      refine he hp _ _ h.1 fun H3 s3 => ⟨_, s3 _ _ h.2, hl, (h.1.trans s3).grow hD, ?_⟩
      rw [upd_same, take_ok hx, List.filter_append, List.map_append]
      simp [hp]
    | false =>
      refine iteF ?_
      refine ⟨h.1, ?_⟩
      rw [take_ok hx, List.filter_append]
      simpa [hp] using h.2
  · rw [List.take_length] at h
    exact k D H2 hD h.1 h.2
/-- .. whose items are laid anew: R x y H tells what y is, and hangs on tuples alone -/
theorem lc_new {J : It} {xs : List V} {G : Hp → Prop} {vs : List Nat} (R : V → V → Hp → Prop) (mono : ∀ x y H1 H2, (∀ b ys, H1 b = some (.tup ys) → H2 b = some (.tup ys)) → R x y H1 → R x y H2) (w : Walk J xs.length G (YAt xs)) (hG : ∀ H', Same H H' → G H') (hz : xs.length ≤ 100000)
    (hg : ∀ x ∈ xs, ∀ H' (Rk : St → Hp → Prop), Same H H' → (∀ σ2, wipe σ2 vs = wipe σ vs → (∀ H'' (R' : VK), Same H H'' → (∀ y H3, Same H'' H3 → R x y H3 → R' y H3) → te σ2 H'' R') → Rk σ2 H') → g x (wipe σ vs) H' Rk)
    (k : ∀ (q : Addr) (ys : List V) (H' : Hp), H q = none → Same H H' → ys.length = xs.length → (∀ (i : Nat) (x y : V), xs[i]? = some x → ys[i]? = some y → R x y H') → H' q = some (.lst ys) → Q (.ref q) H') : kLc g tYes te vs σ Q J H := by
  intro D hD
  refine lc_it w (fun i H2 => Same H H2 ∧ ∃ ys : List V, ys.length = i ∧ (∀ (j : Nat) (x y : V), xs[j]? = some x → ys[j]? = some y → R x y H2) ∧ H2 D = some (.lst ys)) ⟨Same.new hD, [], rfl, (fun j x y _ h => (by cases h)), upd_same⟩ (fun i H2 _ h => hG H2 h.1) (fun i x H2 H2' hi h y => ?_) (fun H2 h => ?_)
  · obtain ⟨e, hx⟩ := y
    subst e
    obtain ⟨s1, ys, h1, h2, h3⟩ := h
    refine hg x (List.mem_of_getElem? hx) _ _ s1 fun σ2 hw he => ⟨hw, ?_⟩
    show te σ2 H2' _
    refine he _ _ s1 fun y H3 s3 r3 => ⟨_, s3 _ _ h3, ?_, (s1.trans s3).grow hD, ys ++ [y], by rw [List.length_append, h1]; rfl, fun j x' y' hx' hy' => ?_, upd_same⟩
    · rw [h1]
      exact Nat.lt_of_lt_of_le (show i < 200000 by omega) (by decide)
    · have tk : ∀ b zs, H3 b = some (.tup zs) → (upd H3 D (.lst (ys ++ [y]))) b = some (.tup zs) := fun b zs e => by
        rw [upd_ne (ne_of e (s3 _ _ h3) (by intro z; cases z))]; exact e
      by_cases hj : j < ys.length
      · rw [List.getElem?_append_left hj] at hy'
        exact mono _ _ _ _ (fun b zs e => tk b zs (s3 _ _ e)) (h2 j x' y' hx' hy')
      · rw [List.getElem?_append_right (by omega)] at hy'
        cases hz : j - ys.length with
        | zero =>
          rw [hz] at hy'
          cases hy'
          have : j = i := by omega
          subst this
          rw [hx] at hx'
          cases hx'
          exact mono _ _ _ _ tk r3
        | succ n => rw [hz] at hy'; cases hy'
  · obtain ⟨s1, ys, h1, h2, h3⟩ := h
    exact k D ys H2 hD s1 h1 h2 h3
theorem g_cut {t u : TS} (Mid : St → Hp → Prop) (h1 : t { D with nx := Mid } σ H) (h2 : ∀ σ' H', Mid σ' H' → u D σ' H') : C8.tCut t u D σ H := ⟨Mid, h1, h2⟩
/-! statements -/
theorem g_seq (k : t { D with nx := u D } σ H) : tSeq t u D σ H := k
theorem g_asg (k : te σ H fun x H1 => g x σ H1 D.nx) : tAsg te g D σ H := k
theorem g_name {Q : St → Hp → Prop} (k : Q (σ.set i (some v)) H) : gName i v σ H Q := k
theorem g_ret (k : te σ H D.rt) : tRet te D σ H := k
theorem g_drop (k : te σ H fun _ H1 => D.nx σ H1) : tDrop te D σ H := k
theorem g_next (k : D.nx σ H) : tNext D σ H := k
theorem g_ifs (k : c σ H fun b H1 => if b = true then t D σ H1 else u D σ H1) : tIfS c t u D σ H := k
theorem g_pnx {nx bk ct : St → Hp → Prop} {rt : VK} (k : nx σ H) : Ends.nx ⟨nx, rt, bk, ct⟩ σ H := k
theorem g_prt {nx bk ct : St → Hp → Prop} {rt : VK} (k : rt v H) : Ends.rt ⟨nx, rt, bk, ct⟩ v H := k
theorem g_pbk {nx bk ct : St → Hp → Prop} {rt : VK} (k : bk σ H) : Ends.bk ⟨nx, rt, bk, ct⟩ σ H := k
theorem g_pct {nx bk ct : St → Hp → Prop} {rt : VK} (k : ct σ H) : Ends.ct ⟨nx, rt, bk, ct⟩ σ H := k
/-! ways -/
theorem ifp {p A B : Prop} [Decidable p] (h : p) (k : A) : if decide p = true then A else B := by rw [if_pos (decide_eq_true h)]; exact k
theorem ifn {p A B : Prop} [Decidable p] (h : ¬ p) (k : B) : if decide p = true then A else B := by rw [if_neg (by simp [h])]; exact k
theorem if2 {p A B : Prop} [Decidable p] (h1 : p → A) (h2 : ¬ p → B) : if decide p = true then A else B := by
  by_cases h : p
  · exact ifp h (h1 h)
  · exact ifn h (h2 h)
theorem ifnp {p A B : Prop} [Decidable p] (h : p) (k : B) : if (!decide p) = true then A else B := by rw [if_neg (by simp [h])]; exact k
theorem ifnn {p A B : Prop} [Decidable p] (h : ¬ p) (k : A) : if (!decide p) = true then A else B := by rw [if_pos (by simp [h])]; exact k
theorem ifn2 {p A B : Prop} [Decidable p] (h1 : p → B) (h2 : ¬ p → A) : if (!decide p) = true then A else B := by
  by_cases h : p
  · exact ifnp h (h1 h)
  · exact ifnn h (h2 h)
theorem ifb {b : Bool} {A B : Prop} (h1 : b = true → A) (h2 : b = false → B) : if b = true then A else B := by
  cases b
  · exact iteF (h2 rfl)
  · exact iteT (h1 rfl)
theorem int_eq {a b : Int} : (V.int a = V.int b) ↔ a = b := ⟨fun h => V.int.inj h, fun h => by rw [h]⟩
theorem str_eq {a b : Str} : (V.str a = V.str b) ↔ a = b := ⟨fun h => V.str.inj h, fun h => by rw [h]⟩
theorem bl_eq {a b : Bool} : (V.bl a = V.bl b) ↔ a = b := ⟨fun h => V.bl.inj h, fun h => by rw [h]⟩
end
/-! one step of a reading: the keys are ours -/

/-! ### steps of the heap: whose objects changed (c tells each object's owner) -/
structure Stp (I : Nat → Prop) (c c' : Addr → Nat) (H H' : Hp) : Prop where
  keep : ∀ b o, H b = some o → ¬ I (c b) → H' b = some o
  col : ∀ b o, H b = some o → c' b = c b
  tup : ∀ b xs, H b = some (.tup xs) → H' b = some (.tup xs)
  fre : ∀ b, H' b = none → H b = none
namespace Stp
variable {I J : Nat → Prop} {c c' c'' : Addr → Nat} {H H' H'' : Hp}
theorem refl : Stp I c c H H := ⟨fun _ _ h _ => h, fun _ _ _ => rfl, fun _ _ h => h, fun _ h => h⟩
theorem some' (s : Stp I c c' H H') {b : Addr} {o : HO} (h : H b = some o) : ∃ o', H' b = some o' := by
  cases e : H' b with
  | none => rw [s.fre b e] at h; cases h
  | some o' => exact ⟨o', rfl⟩
theorem trans (a : Stp I c c' H H') (b : Stp I c' c'' H' H'') : Stp I c c'' H H'' := by
  refine ⟨fun x o h n => b.keep x o (a.keep x o h n) (by rw [a.col x o h]; exact n), fun x o h => ?_, fun x xs h => b.tup x xs (a.tup x xs h), fun x h => a.fre x (b.fre x h)⟩
  obtain ⟨o', h'⟩ := a.some' h
  rw [b.col x o' h', a.col x o h]
theorem mono (a : Stp I c c' H H') (h : ∀ i, I i → J i) : Stp J c c' H H' := ⟨fun x o e n => a.keep x o e fun z => n (h _ z), a.col, a.tup, a.fre⟩
theorem same (h : Same H H') : Stp I c c H H' := ⟨fun x o e _ => h x o e, fun _ _ _ => rfl, fun x xs e => h x _ e, fun _ e => h.free e⟩
theorem own {b : Addr} {o o' : HO} (h : H b = some o) (hi : I (c b)) (ht : ∀ xs, o ≠ .tup xs) : Stp I c c H (upd H b o') := by
  refine ⟨fun x u e n => ?_, fun _ _ _ => rfl, fun x xs e => ?_, fun x e => ?_⟩
  · rw [upd_ne (fun z => n (by rw [z]; exact hi))]; exact e
  · rw [upd_ne (fun z => ht xs (by subst z; rw [h] at e; exact Option.some.inj e))]; exact e
  · by_cases z : x = b
    · subst z; rw [upd_same] at e; cases e
    · rw [upd_ne z] at e; exact e
/-- one own object changed -/
theorem ch {b : Addr} {o o' : HO} (h : H b = some o) (hi : I (c b)) (ht : ∀ xs, o ≠ .tup xs) (h' : H' b = some o') (k : ∀ x, x ≠ b → H' x = H x) : Stp I c c H H' := by
  refine ⟨fun x u e n => ?_, fun _ _ _ => rfl, fun x xs e => ?_, fun x e => ?_⟩
  · rw [k x (fun z => n (by rw [z]; exact hi))]; exact e
  · rw [k x (fun z => ht xs (by subst z; rw [h] at e; exact Option.some.inj e))]; exact e
  · by_cases z : x = b
    · subst z; rw [h'] at e; cases e
    · rw [k x z] at e; exact e
theorem sameC (h : Same H H') (hc : ∀ b o, H b = some o → c' b = c b) : Stp I c c' H H' := ⟨fun x o e _ => h x o e, hc, fun x xs e => h x _ e, fun _ e => h.free e⟩
theorem new {p : Addr} {o : HO} (h : H p = none) : Stp I c c H (upd H p o) := same fun b u e => by rw [upd_ne (ne_of_none e h)]; exact e
/-- a new object gets its owner -/
def paint (c : Addr → Nat) (p : Addr) (i : Nat) : Addr → Nat := fun b => if b = p then i else c b
theorem paint_same {p : Addr} {i : Nat} : paint c p i p = i := by unfold paint; rw [if_pos rfl]
theorem paint_ne {p b : Addr} {i : Nat} (h : b ≠ p) : paint c p i b = c b := by unfold paint; rw [if_neg h]
theorem newc {p : Addr} {o : HO} {i : Nat} (h : H p = none) : Stp I c (paint c p i) H (upd H p o) :=
  ⟨fun b u e _ => by rw [upd_ne (ne_of_none e h)]; exact e, fun b u e => paint_ne (ne_of_none e h), fun b xs e => by rw [upd_ne (ne_of_none e h)]; exact e, fun b e => by
    by_cases z : b = p
    · subst z; rw [upd_same] at e; cases e
    · rw [upd_ne z] at e; exact e⟩
end Stp
end Lw
namespace Lw
open PySem L2
open PyProof.Rows (envOfC)
theorem lk_eq {k : Str} {v : V} {l : List (Str × V)} : List.lookup k ((k, v) :: l) = some v := by simp [List.lookup]
theorem lk_ne {k k' : Str} {v : V} {l : List (Str × V)} (h : (k == k') = false) : List.lookup k ((k', v) :: l) = l.lookup k := by simp [List.lookup, h]
theorem lk_no {m : Str} : ∀ {l : List (Str × V)}, (l.map (·.1)).all (fun f => !(m == f)) = true → l.lookup m = none
  | [], _ => rfl
  | (k, v) :: l, h => by
    have h : (!(m == k) && (l.map (·.1)).all (fun f => !(m == f))) = true := h
    rw [Bool.and_eq_true, Bool.not_eq_true'] at h
    rw [lk_ne h.1]
    exact lk_no h.2
theorem putF_le {f : Str} {y : V} : ∀ {fs : List (Str × V)}, (putF f y fs).length ≤ fs.length + 1
  | [] => Nat.le_refl _
  | (k, v) :: r => by
    show (if k = f then _ else _ : List (Str × V)).length ≤ _
    split
    · exact Nat.le_succ _
    · exact Nat.succ_le_succ putF_le
theorem pf_eq {k : Str} {y v : V} {l : List (Str × V)} : putF k y ((k, v) :: l) = (k, y) :: l := by
  show (if k = k then _ else _) = _
  rw [if_pos rfl]
theorem pf_ne {k k' : Str} {y v : V} {l : List (Str × V)} (h : ¬ k' = k) : putF k y ((k', v) :: l) = (k', v) :: putF k y l := by
  show (if k' = k then _ else _) = _
  rw [if_neg h]
theorem empty_S : ("" : Str) = SX.S [] := by decide +kernel
theorem join_empty (l : List Nat) : Txt.join ("" : Str) (l.map fun c => SX.S [c]) = SX.S l := by
  have e : (l.map fun c => SX.S [c]) = (l.map fun c => [c]).map SX.S := by rw [List.map_map]; rfl
  rw [empty_S, e, SX.join_S]
  have h : ∀ l : List Nat, TL.joinL [] (l.map fun c => [c]) = l := by
    intro l
    induction l with
    | nil => rfl
    | cons a r ih =>
      cases r with
      | nil => rfl
      | cons b r => 
        show [a] ++ ([] ++ TL.joinL [] ((b :: r).map fun c => [c])) = a :: b :: r
        rw [ih]
        rfl
  rw [h]
theorem sum_ones (l : List Nat) : ((l.map fun c => SX.S [c]).map (·.length)).sum = l.length := by
  induction l with
  | nil => rfl
  | cons a r ih =>
    rw [List.map_cons, List.map_cons, List.sum_cons, ih, SX.S_len, List.length_cons]
    simp only [List.length_cons, List.length_nil]
    omega
theorem join_flat (l : List (List Nat)) : Txt.join ("" : Str) (l.map SX.S) = SX.S l.flatten := by
  rw [empty_S, SX.join_S]
  have h : ∀ l : List (List Nat), TL.joinL [] l = l.flatten := by
    intro l
    induction l with
    | nil => rfl
    | cons a r ih =>
      cases r with
      | nil => show a = a ++ []; rw [List.append_nil]
      | cons b r =>
        show a ++ ([] ++ TL.joinL [] (b :: r)) = _
        rw [ih]
        rfl
  rw [h]
theorem sum_flat (l : List (List Nat)) : ((l.map SX.S).map (·.length)).sum = l.flatten.length := by
  rw [SX.lens, List.length_flatten]
theorem L2x_sameN {I : Nat → Prop} {c : Addr → Nat} {H H' : Hp} {p : Addr} {i : Nat} (s : Same H H') (n : H p = none) : Stp I c (Stp.paint c p i) H H' := Stp.sameC s fun b o e => Stp.paint_ne (ne_of_none e n)
end Lw
local macro_rules | `(tactic| walk_at "lw side") => `(tactic| first | assumption | decide | omega | exact Or.inr ⟨by decide, by decide⟩ | exact Or.inl ⟨by decide, by decide⟩ | exact ⟨by decide, by decide⟩ | exact ⟨by omega, by omega⟩)
local macro_rules | `(tactic| walk_at "lw ne") => `(tactic| first | assumption | exact Ne.symm (by assumption) | exact L2.ne_of_none (by assumption) (by assumption) | exact Ne.symm (L2.ne_of_none (by assumption) (by assumption)))
local macro_rules | `(tactic| walk_at "lw hp") => `(tactic| first | assumption | exact L2.upd_same | (refine Eq.trans (L2.upd_ne (by walk_at "lw ne")) ?_; walk_at "lw hp"))
local macro_rules | `(tactic| walk_at "lw sq") => `(tactic| first | assumption | exact L2.SqL.of (by walk_at "lw hp") | exact L2.SqT.of (by walk_at "lw hp"))
local macro_rules | `(tactic| walk_at "lw go") => `(tactic| first
  | (with_reducible refine Lw.g_seq ?_)
  | ((with_reducible refine' Lw.g_var ?h1 ?k1); (case h1 => rfl))
  | (with_reducible refine Lw.g_c ?_)
  | (with_reducible refine Lw.g_op ?_)
  | (with_reducible refine Lw.g_I0 ?_)
  | ((with_reducible refine' Lw.g_I ?h1 ?k1); (case h1 => walk_at "lw side"))
  | ((with_reducible refine' Lw.g_eq ?h1 ?k1); (case h1 => rfl))
  | ((with_reducible refine' Lw.g_ne ?h1 ?k1); (case h1 => rfl))
  | (with_reducible refine Lw.g_nil ?_)
  | (with_reducible refine Lw.g_cons ?_)
  | (with_reducible refine Lw.g_cb ?_)
  | (with_reducible refine Lw.g_call ?_)
  | (with_reducible refine Lw.g_test ?_)
  | (with_reducible refine Lw.g_B ?_)
  | (with_reducible refine Lw.g_exb ?_)
  | (with_reducible refine Lw.g_not ?_)
  | (with_reducible refine Lw.g_and ?_)
  | (with_reducible refine Lw.g_or ?_)
  | (with_reducible refine Lw.g_tup ?_)
  | (with_reducible refine Lw.g_lst ?_)
  | (with_reducible refine Lw.g_ifx ?_)
  | (with_reducible refine Lw.g_fld ?_)
  | (with_reducible refine Lw.g_asg ?_)
  | (with_reducible refine Lw.g_name ?_)
  | (with_reducible refine Lw.g_ret ?_)
  | (with_reducible refine Lw.g_drop ?_)
  | (with_reducible refine Lw.g_next ?_)
  | (with_reducible refine Lw.g_ifs ?_)
  | (with_reducible refine Lw.g_pnx ?_)
  | (with_reducible refine Lw.g_prt ?_)
  | (with_reducible refine Lw.g_pbk ?_)
  | (with_reducible refine Lw.g_pct ?_)
  | (with_reducible refine Lw.g_sl ?_)
  | (with_reducible refine Lw.g_nopart ?_)
  | (with_reducible refine Lw.g_part ?_)
  | (with_reducible refine Lw.g_rpart ?_)
  | (with_reducible refine Lw.g_m1 ?_)
  | (with_reducible refine Lw.g_m0 ?_)
  | (with_reducible refine Lw.g_rstr ?_)
  | (with_reducible refine Lw.g_bm0 ?_)
  | (with_reducible refine Lw.g_bm ?_)
  | (with_reducible refine Lw.g_isN ?_)
  | (with_reducible refine Lw.g_isB ?_)
  | (with_reducible refine Lw.g_notB ?_)
  | (with_reducible refine Lw.g_andV ?_)
  | (with_reducible refine Lw.g_orV ?_)
  | (with_reducible refine Lw.g_notV ?_)
  | (with_reducible refine Lw.g_notN ?_)
  | (with_reducible refine L2.iteT ?_)
  | (with_reducible refine L2.iteF ?_)
  | (with_reducible refine Lw.g_int1 ?_)
  | (with_reducible refine Lw.g_int1b ?_)
  | (with_reducible refine Lw.g_sub ?_)
  | (with_reducible refine Lw.g_forR ?_)
  | (with_reducible refine Lw.g_for ?_)
  | (with_reducible refine Lw.g_lc ?_)
  | (with_reducible refine Lw.g_iStr ?_)
  | (with_reducible refine Lw.g_ritS ?_)
  | (with_reducible refine Lw.g_tyS ?_)
  | (with_reducible refine Lw.g_iList ?_)
  | (with_reducible refine Lw.g_iTup ?_)
  | (with_reducible refine Lw.g_iRng ?_)
  | (with_reducible refine Lw.g_inSg ?_)
  | (with_reducible refine Lw.g_notInSg ?_)
  | (with_reducible refine Lw.g_ord ?_)
  | (with_reducible refine Lw.g_reprB ?_)
  | (with_reducible refine Lw.g_sfld ?_)
  | (with_reducible refine Lw.g_meth ?_)
  | (with_reducible refine Lw.g_make ?_)
  | (with_reducible refine Lw.g_dget ?_)
  | (with_reducible refine Lw.g_din ?_)
  | (with_reducible refine Lw.g_dnotin ?_)
  | (with_reducible refine Lw.g_dput ?_)
  | (with_reducible refine Lw.g_ddel ?_)
  | (with_reducible refine Lw.g_dpop1 ?_)
  | (with_reducible refine Lw.g_dget1 ?_)
  | (with_reducible refine Lw.g_iKeys ?_)
  | (with_reducible refine Lw.g_fldaug ?_)
  | ((with_reducible refine' Lw.g_lenL ?h1 ?k1); (case h1 => walk_at "lw sq"))
  | ((with_reducible refine' Lw.g_lenD ?h1 ?k1); (case h1 => walk_at "lw hp")))
local macro_rules | `(tactic| walk_at "lw") => `(tactic| repeat walk_at "lw go")

/-! ## dicts: the steps -/
namespace Lw
open PySem L2 PySem.Spec
open PyProof.Rows (envOfC sortedS risingS)
/-- the key behind a value -/
def kI (i : Int) : Key := .inl i
def kS (x : Str) : Key := .inr x
section
variable {σ : L2.St} {H : Hp} {Q : VK} {K : PySem.W.Frag} {D : Ends} {ta tb te tx : TE} {tl : TA} {t u : TS} {i : Nat} {v : V} {g : TG}
def rDGet (x y : V) (H : Hp) (Q : VK) : Prop := ∃ a v, x = .ref a ∧ DGet H a y (some v) ∧ Q v H
theorem g_dget (k : ta σ H fun x H1 => tb σ H1 fun y H2 => rDGet x y H2 Q) : tDGet ta tb σ H Q := k
theorem g_rdgetI {a : Addr} {kvs : List (Key × V)} {j : Int} (h : Rd H a (.dK kvs)) (hv : valV kvs (kI j) = some v) (k : Q v H) : rDGet (.ref a) (.int j) H Q := ⟨a, v, rfl, .inl ⟨kvs, kI j, h, rfl, hv.symm⟩, k⟩
theorem g_rdgetS {a : Addr} {kvs : List (Key × V)} {z : Str} (h : Rd H a (.dK kvs)) (hv : valV kvs (kS z) = some v) (k : Q v H) : rDGet (.ref a) (.str z) H Q := ⟨a, v, rfl, .inl ⟨kvs, kS z, h, rfl, hv.symm⟩, k⟩
def rDIn (y x : V) (H : Hp) (Q : VK) : Prop := ∃ a o, x = .ref a ∧ DGet H a y o ∧ Q (.bl o.isSome) H
theorem g_din (k : ta σ H fun y H1 => tb σ H1 fun x H2 => rDIn y x H2 Q) : tDIn ta tb σ H Q := k
theorem g_rdinI {a : Addr} {kvs : List (Key × V)} {j : Int} (h : Rd H a (.dK kvs)) (k : Q (.bl (valV kvs (kI j)).isSome) H) : rDIn (.int j) (.ref a) H Q := ⟨a, _, rfl, .inl ⟨kvs, kI j, h, rfl, rfl⟩, k⟩
theorem g_rdinS {a : Addr} {kvs : List (Key × V)} {z : Str} (h : Rd H a (.dK kvs)) (k : Q (.bl (valV kvs (kS z)).isSome) H) : rDIn (.str z) (.ref a) H Q := ⟨a, _, rfl, .inl ⟨kvs, kS z, h, rfl, rfl⟩, k⟩
def rDNotIn (y x : V) (H : Hp) (Q : VK) : Prop := ∃ a o, x = .ref a ∧ DGet H a y o ∧ Q (.bl (!o.isSome)) H
theorem g_dnotin (k : ta σ H fun y H1 => tb σ H1 fun x H2 => rDNotIn y x H2 Q) : tDNotIn ta tb σ H Q := k
theorem g_rdnotinI {a : Addr} {kvs : List (Key × V)} {j : Int} (h : Rd H a (.dK kvs)) (k : Q (.bl (!(valV kvs (kI j)).isSome)) H) : rDNotIn (.int j) (.ref a) H Q := ⟨a, _, rfl, .inl ⟨kvs, kI j, h, rfl, rfl⟩, k⟩
theorem g_rdnotinS {a : Addr} {kvs : List (Key × V)} {z : Str} (h : Rd H a (.dK kvs)) (k : Q (.bl (!(valV kvs (kS z)).isSome)) H) : rDNotIn (.str z) (.ref a) H Q := ⟨a, _, rfl, .inl ⟨kvs, kS z, h, rfl, rfl⟩, k⟩
def rDPut (x y v : V) (H : Hp) (R : Hp → Prop) : Prop := ∃ a H', x = .ref a ∧ DPut H a y v H' ∧ R H'
theorem g_dput (k : te σ H fun v H1 => ta σ H1 fun x H2 => tb σ H2 fun y H3 => rDPut x y v H3 fun H4 => D.nx σ H4) : sDPut ta tb te D σ H := k
theorem g_rdputI {a : Addr} {kvs : List (Key × V)} {j : Int} {R : Hp → Prop} (h : H a = some (.dK kvs)) (hl : kvs.length < 100000) (k : ∀ H', H' a = some (.dK (putK kvs (kI j) v)) → (∀ b, b ≠ a → H' b = H b) → R H') : rDPut (.ref a) (.int j) v H R :=
  ⟨a, _, rfl, .inl ⟨kvs, kI j, h, rfl, Nat.lt_of_lt_of_le hl (by decide), rfl⟩, k _ upd_same fun b hb => upd_ne hb⟩
theorem g_rdputS {a : Addr} {kvs : List (Key × V)} {z : Str} {R : Hp → Prop} (h : H a = some (.dK kvs)) (hl : kvs.length < 100000) (k : ∀ H', H' a = some (.dK (putK kvs (kS z) v)) → (∀ b, b ≠ a → H' b = H b) → R H') : rDPut (.ref a) (.str z) v H R :=
  ⟨a, _, rfl, .inl ⟨kvs, kS z, h, rfl, Nat.lt_of_lt_of_le hl (by decide), rfl⟩, k _ upd_same fun b hb => upd_ne hb⟩
def rDDel (x y : V) (H : Hp) (R : Hp → Prop) : Prop := ∃ a kvs k, x = .ref a ∧ H a = some (.dK kvs) ∧ y = kV k ∧ (valV kvs k).isSome = true ∧ R (upd H a (.dK (dropK kvs k)))
theorem g_ddel (k : ta σ H fun x H1 => tb σ H1 fun y H2 => rDDel x y H2 fun H3 => D.nx σ H3) : sDDel ta tb D σ H := k
theorem g_rddelI {a : Addr} {kvs : List (Key × V)} {j : Int} {R : Hp → Prop} (h : H a = some (.dK kvs)) (hs : (valV kvs (kI j)).isSome = true) (k : ∀ H', H' a = some (.dK (dropK kvs (kI j))) → (∀ b, b ≠ a → H' b = H b) → R H') : rDDel (.ref a) (.int j) H R :=
  ⟨a, kvs, kI j, rfl, h, rfl, hs, k _ upd_same fun b hb => upd_ne hb⟩
theorem g_rddelS {a : Addr} {kvs : List (Key × V)} {z : Str} {R : Hp → Prop} (h : H a = some (.dK kvs)) (hs : (valV kvs (kS z)).isSome = true) (k : ∀ H', H' a = some (.dK (dropK kvs (kS z))) → (∀ b, b ≠ a → H' b = H b) → R H') : rDDel (.ref a) (.str z) H R :=
  ⟨a, kvs, kS z, rfl, h, rfl, hs, k _ upd_same fun b hb => upd_ne hb⟩
def rIsD (x : V) (H : Hp) (A : Addr → Prop) : Prop := ∃ a, x = .ref a ∧ IsD H a ∧ A a
theorem g_risd {a : Addr} {kvs : List (Key × V)} {A : Addr → Prop} (h : Rd H a (.dK kvs)) (k : A a) : rIsD (.ref a) H A := ⟨a, rfl, .inl ⟨kvs, h⟩, k⟩
def rDPop (a : Addr) (y : V) (H : Hp) (Q : VK) : Prop := ∃ kvs k v, H a = some (.dK kvs) ∧ y = kV k ∧ valV kvs k = some v ∧ Q v (upd H a (.dK (dropK kvs k)))
theorem g_dpop1 (k : ta σ H fun x H1 => rIsD x H1 fun a => tb σ H1 fun y H2 => rDPop a y H2 Q) : tDPop1 ta tb σ H Q := k
theorem g_rdpopI {a : Addr} {kvs : List (Key × V)} {j : Int} (h : H a = some (.dK kvs)) (hv : valV kvs (kI j) = some v) (k : ∀ H', H' a = some (.dK (dropK kvs (kI j))) → (∀ b, b ≠ a → H' b = H b) → Q v H') : rDPop a (.int j) H Q :=
  ⟨kvs, kI j, v, h, rfl, hv, k _ upd_same fun b hb => upd_ne hb⟩
theorem g_rdpopS {a : Addr} {kvs : List (Key × V)} {z : Str} (h : H a = some (.dK kvs)) (hv : valV kvs (kS z) = some v) (k : ∀ H', H' a = some (.dK (dropK kvs (kS z))) → (∀ b, b ≠ a → H' b = H b) → Q v H') : rDPop a (.str z) H Q :=
  ⟨kvs, kS z, v, h, rfl, hv, k _ upd_same fun b hb => upd_ne hb⟩
def rDGet1 (a : Addr) (y : V) (H : Hp) (Q : VK) : Prop := ∃ o, DGet H a y o ∧ Q (o.getD .non) H
theorem g_dget1 (k : ta σ H fun x H1 => rIsD x H1 fun a => tb σ H1 fun y H2 => rDGet1 a y H2 Q) : tDGet1 ta tb σ H Q := k
theorem g_rdget1I {a : Addr} {kvs : List (Key × V)} {j : Int} (h : Rd H a (.dK kvs)) (k : Q ((valV kvs (kI j)).getD .non) H) : rDGet1 a (.int j) H Q := ⟨_, .inl ⟨kvs, kI j, h, rfl, rfl⟩, k⟩
theorem g_rdget1S {a : Addr} {kvs : List (Key × V)} {z : Str} (h : Rd H a (.dK kvs)) (k : Q ((valV kvs (kS z)).getD .non) H) : rDGet1 a (.str z) H Q := ⟨_, .inl ⟨kvs, kS z, h, rfl, rfl⟩, k⟩
theorem g_dnew (k : ∀ p H', H p = none → Same H H' → H' p = some (.dK []) → Q (.ref p) H') : tDNewK σ H Q := New.to (Q := fun p H' => Q (.ref p) H') k
/-- {k: v, ..} -/
def rDisp (p : Addr) (ps : List (V × V)) (H2 : Hp) (Q : VK) : Prop := H2 p = some (.dK []) ∧ ∃ kvs : List (Key × V), ps = kvs.map (fun kv => (kV kv.1, kv.2)) ∧ kvs.length ≤ 15 ∧ Q (.ref p) (upd H2 p (.dK (mergeK [] kvs)))
theorem g_disp {trs : List (TE × TE)} (k : ∀ p H', H p = none → Same H H' → H' p = some (.dK []) → tPairs trs σ H' fun ps H2 => rDisp p ps H2 Q) : tDisp trs σ H Q := fun p hp => k p _ hp (Same.new hp) upd_same
theorem g_pairs0 {Q : List (V × V) → Hp → Prop} (k : Q [] H) : tPairs [] σ H Q := k
theorem g_pairs1 {trs : List (TE × TE)} {Q : List (V × V) → Hp → Prop} (k : ta σ H fun x H1 => tb σ H1 fun y H2 => tPairs trs σ H2 fun ps H3 => Q ((x, y) :: ps) H3) : tPairs ((ta, tb) :: trs) σ H Q := k
theorem g_rdisp {p : Addr} {ps : List (V × V)} {kvs : List (Key × V)} (h : H p = some (.dK [])) (e : ps = kvs.map (fun kv => (kV kv.1, kv.2))) (hl : kvs.length ≤ 15) (k : ∀ H', H' p = some (.dK (mergeK [] kvs)) → (∀ b, b ≠ p → H' b = H b) → Q (.ref p) H') : rDisp p ps H Q := ⟨h, kvs, e, hl, k _ upd_same fun b hb => upd_ne hb⟩
/-- a loop over a dict's keys -/
theorem g_lock {d : Addr} {kvs : List (Key × V)} (h : H d = some (.dK kvs)) (k : ∀ od H', H' d = some (.frz od (.dK kvs)) → (∀ b, b ≠ d → H' b = H b) →
    t ⟨fun σ' H' => H' d = some (.frz od (.dK kvs)) ∧ D.nx σ' (upd H' d (.dK kvs)), fun v H' => H' d = some (.frz od (.dK kvs)) ∧ D.rt v (upd H' d (.dK kvs)), fun σ' H' => H' d = some (.frz od (.dK kvs)) ∧ D.bk σ' (upd H' d (.dK kvs)), fun σ' H' => H' d = some (.frz od (.dK kvs)) ∧ D.ct σ' (upd H' d (.dK kvs))⟩ σ H') : tLock t D σ H :=
  ⟨d, _, h, trivial, fun od => k od _ upd_same fun b hb => upd_ne hb⟩
def rItK (x : V) (H : Hp) (R : It → Hp → Prop) : Prop := ∃ d o, x = .ref d ∧ ((∃ kvs, H d = some (.frz o (.dK kvs)) ∧ R (Itk d o kvs) H) ∨ ∃ kvs, H d = some (.frz o (.dT kvs)) ∧ R (Itkt d o kvs) H)
theorem g_iKeys {R : It → Hp → Prop} (k : te σ H fun v H1 => rItK v H1 R) : iKeys te σ H R := k
theorem g_ritK {d : Addr} {o : Obj} {kvs : List (Key × V)} {R : It → Hp → Prop} (h : H d = some (.frz o (.dK kvs))) (k : R (Itk d o kvs) H) : rItK (.ref d) H R := ⟨d, o, rfl, .inl ⟨kvs, h, k⟩⟩
theorem walk_ks {d : Addr} {o : Obj} {kvs : List (Key × V)} : Walk (Itk d o kvs) (kvs.map fun kv => kV kv.1).length (fun H => H d = some (.frz o (.dK kvs))) (YAt (kvs.map fun kv => kV kv.1)) := by
  rw [List.length_map]
  refine walk_keys.mono (fun _ h => h) fun i H x H' hi _ h => ?_
  obtain ⟨h1, k, v, h2, h3⟩ := h
  refine ⟨h1, ?_⟩
  rw [List.getElem?_map, h2, h3]
  rfl
def rFldAug (K : PySem.W.Frag) (f : Str) (x : V) (tv : TE) (rd : V → V → Hp → VK → Prop) (D : Ends) (σ : L2.St) (H1 : Hp) : Prop := ∃ a C dx fs v, x = .ref a ∧ H1 a = some (.ins C dx fs) ∧ Cls K C ∧ NoAttr K C f ∧ fs.lookup f = some v ∧
  tv σ H1 fun y H2 => rd v y H2 fun z H3 => ∃ dx' fs', H3 a = some (.ins C dx' fs') ∧ fs'.length < 1000 ∧ D.nx σ (upd H3 a (.ins C dx' (putF f z fs')))
theorem g_fldaug {rd : V → V → Hp → VK → Prop} {f : Str} (k : ta σ H fun x H1 => rFldAug K f x te rd D σ H1) : sFldAug K ta te rd f D σ H := k
/-- self.f += an int -/
theorem g_rfldaugI {f : Str} {a C dx : Addr} {fs : List (Str × V)} {m j : Int} (h : H a = some (.ins C dx fs)) (hc : Cls K C) (hn : NoAttr K C f) (hl : fs.lookup f = some (.int m)) (hz : fs.length < 1000)
    (hv : ∀ R : VK, R (.int j) H → te σ H R) (k : ∀ H', H' a = some (.ins C dx (putF f (.int (m + j)) fs)) → (∀ b, b ≠ a → H' b = H b) → D.nx σ H') : rFldAug K f (.ref a) te rAdd D σ H :=
  ⟨a, C, dx, fs, _, rfl, h, hc, hn, hl, hv _ ⟨m, j, rfl, rfl, dx, fs, h, hz, k _ upd_same fun b hb => upd_ne hb⟩⟩
end
/-! ### dicts whose keys stand in a list, their values a function -/
section
variable {α : Type} {F : α → Key} {G : α → V}
theorem valV_cons {p : Key × V} {r : List (Key × V)} {k : Key} : valV (p :: r) k = if p.1 = k then some p.2 else valV r k := by
  by_cases h : p.1 = k
  · rw [if_pos h, valV_pos h]
  · rw [if_neg h, valV_neg h]
/-- a dict of the keys ks with the values A -/
def mkD (ks : List Int) (A : Int → V) : List (Key × V) := ks.map fun i => (kI i, A i)
theorem mkD_len {ks : List Int} {A : Int → V} : (mkD ks A).length = ks.length := List.length_map _
theorem valV_mkD {ks : List Int} {A : Int → V} {i : Int} : valV (mkD ks A) (kI i) = if i ∈ ks then some (A i) else none := by
  induction ks with
  | nil => rfl
  | cons j r ih =>
    show valV ((kI j, A j) :: mkD r A) (kI i) = _
    rw [valV_cons, ih]
    by_cases h : j = i
    · subst h
      simp [kI]
    · have h2 : ¬ (kI j = kI i) := fun z => h (Sum.inl.inj z)
      have h3 : ¬ (i = j) := fun z => h z.symm
      simp [h2, h3]
theorem mkD_congr {ks : List Int} {A B : Int → V} (h : ∀ i ∈ ks, A i = B i) : mkD ks A = mkD ks B := List.map_congr_left fun i hi => by rw [h i hi]
theorem putK_mkD_new {ks : List Int} {A : Int → V} {i : Int} {v : V} (h : i ∉ ks) : putK (mkD ks A) (kI i) v = mkD (ks ++ [i]) (fun j => if j = i then v else A j) := by
  unfold putK
  rw [valV_any, valV_mkD, if_neg h]
  have e : mkD ks (fun j => if j = i then v else A j) = mkD ks A := mkD_congr fun j hj => if_neg fun z => h (by rw [← z]; exact hj)
  show (if none.isSome = true then _ else _) = _
  rw [if_neg (by decide)]
  show mkD ks A ++ [(kI i, v)] = (ks ++ [i]).map _
  rw [List.map_append, ← e]
  show _ = _ ++ [(kI i, if i = i then v else A i)]
  rw [if_pos rfl]
  rfl
theorem putK_mkD_old {ks : List Int} {A : Int → V} {i : Int} {v : V} (h : i ∈ ks) : putK (mkD ks A) (kI i) v = mkD ks (fun j => if j = i then v else A j) := by
  unfold putK
  rw [valV_any, valV_mkD, if_pos h]
  show (if (some (A i)).isSome = true then _ else _) = _
  rw [if_pos (show (some (A i)).isSome = true from rfl)]
  unfold mkD
  rw [List.map_map]
  refine List.map_congr_left fun j _ => ?_
  show (if kI j = kI i then (kI j, v) else (kI j, A j)) = (kI j, if j = i then v else A j)
  by_cases hj : j = i
  · rw [if_pos (by rw [hj]), if_pos hj]
  · rw [if_neg (show ¬ kI j = kI i from fun z => hj (Sum.inl.inj z)), if_neg hj]
theorem dropK_mkD {ks : List Int} {A : Int → V} {i : Int} : dropK (mkD ks A) (kI i) = mkD (ks.filter fun j => decide (j ≠ i)) A := by
  unfold dropK mkD
  rw [List.filter_map]
  congr 1
  refine List.filter_congr fun j _ => ?_
  show decide (kI j ≠ kI i) = decide (j ≠ i)
  rw [decide_eq_decide]
  exact ⟨fun h z => h (by rw [z]), fun h z => h (Sum.inl.inj z)⟩
theorem mkD_keys {ks : List Int} {A : Int → V} : (mkD ks A).map (·.1) = ks.map Sum.inl := by
  unfold mkD
  rw [List.map_map]
  rfl
theorem mkD_kV {ks : List Int} {A : Int → V} : ((mkD ks A).map fun kv => kV kv.1) = ks.map V.int := by
  unfold mkD
  rw [List.map_map]
  rfl
/-- .. of texts -/
def mkS (ks : List Str) (A : Str → V) : List (Key × V) := ks.map fun i => (kS i, A i)
theorem mkS_len {ks : List Str} {A : Str → V} : (mkS ks A).length = ks.length := List.length_map _
theorem valV_mkS {ks : List Str} {A : Str → V} {i : Str} : valV (mkS ks A) (kS i) = if i ∈ ks then some (A i) else none := by
  induction ks with
  | nil => rfl
  | cons j r ih =>
    show valV ((kS j, A j) :: mkS r A) (kS i) = _
    rw [valV_cons, ih]
    by_cases h : j = i
    · subst h
      simp [kS]
    · have h2 : ¬ (kS j = kS i) := fun z => h (Sum.inr.inj z)
      have h3 : ¬ (i = j) := fun z => h z.symm
      simp [h2, h3]
theorem mkS_congr {ks : List Str} {A B : Str → V} (h : ∀ i ∈ ks, A i = B i) : mkS ks A = mkS ks B := List.map_congr_left fun i hi => by rw [h i hi]
theorem putK_mkS_new {ks : List Str} {A : Str → V} {i : Str} {v : V} (h : i ∉ ks) : putK (mkS ks A) (kS i) v = mkS (ks ++ [i]) (fun j => if j = i then v else A j) := by
  unfold putK
  rw [valV_any, valV_mkS, if_neg h]
  have e : mkS ks (fun j => if j = i then v else A j) = mkS ks A := mkS_congr fun j hj => if_neg fun z => h (by rw [← z]; exact hj)
  show (if none.isSome = true then _ else _) = _
  rw [if_neg (by decide)]
  show mkS ks A ++ [(kS i, v)] = (ks ++ [i]).map _
  rw [List.map_append, ← e]
  show _ = _ ++ [(kS i, if i = i then v else A i)]
  rw [if_pos rfl]
  rfl
theorem putK_mkS_old {ks : List Str} {A : Str → V} {i : Str} {v : V} (h : i ∈ ks) : putK (mkS ks A) (kS i) v = mkS ks (fun j => if j = i then v else A j) := by
  unfold putK
  rw [valV_any, valV_mkS, if_pos h]
  show (if (some (A i)).isSome = true then _ else _) = _
  rw [if_pos (show (some (A i)).isSome = true from rfl)]
  unfold mkS
  rw [List.map_map]
  refine List.map_congr_left fun j _ => ?_
  show (if kS j = kS i then (kS j, v) else (kS j, A j)) = (kS j, if j = i then v else A j)
  by_cases hj : j = i
  · rw [if_pos (by rw [hj]), if_pos hj]
  · rw [if_neg (show ¬ kS j = kS i from fun z => hj (Sum.inr.inj z)), if_neg hj]
theorem dropK_mkS {ks : List Str} {A : Str → V} {i : Str} : dropK (mkS ks A) (kS i) = mkS (ks.filter fun j => decide (j ≠ i)) A := by
  unfold dropK mkS
  rw [List.filter_map]
  congr 1
  refine List.filter_congr fun j _ => ?_
  show decide (kS j ≠ kS i) = decide (j ≠ i)
  rw [decide_eq_decide]
  exact ⟨fun h z => h (by rw [z]), fun h z => h (Sum.inr.inj z)⟩
theorem mkS_keys {ks : List Str} {A : Str → V} : (mkS ks A).map (·.1) = ks.map Sum.inr := by
  unfold mkS
  rw [List.map_map]
  rfl
theorem mkS_kV {ks : List Str} {A : Str → V} : ((mkS ks A).map fun kv => kV kv.1) = ks.map V.str := by
  unfold mkS
  rw [List.map_map]
  rfl
end
/-! ### sorted lists that hold the same are the same -/
theorem int_sorted_eq {a b : List Int} (h : a.Perm b) (ha : a.Pairwise (· ≤ ·)) (hb : b.Pairwise (· ≤ ·)) : a = b :=
  List.Perm.eq_of_pairwise (le := (· ≤ ·)) (fun x y _ _ h1 h2 => Int.le_antisymm h1 h2) ha hb h
theorem sortedS_pw : ∀ (l : List Str), sortedS l = true → l.Pairwise (fun a b => a.cps.toList ≤ b.cps.toList)
  | [], _ => .nil
  | [x], _ => .cons (fun y hy => nomatch hy) .nil
  | x :: y :: r, h => by
    have h1 : (!ltCps y.cps.toList x.cps.toList && risingS y r) = true := h
    rw [Bool.and_eq_true, Bool.not_eq_true', PyProof.Rows.ltCps_eq, decide_eq_false_iff_not, List.not_lt] at h1
    have ih := sortedS_pw (y :: r) h1.2
    refine .cons (fun z hz => ?_) ih
    rcases List.mem_cons.mp hz with e | hz
    · subst e; exact h1.1
    · exact List.le_trans h1.1 (List.rel_of_pairwise_cons ih hz)
theorem str_ext {a b : Str} (h : a.cps.toList = b.cps.toList) : a = b := by
  cases a; cases b
  simp only [Str.mk.injEq]
  exact Array.toList_inj.mp h
theorem str_sorted_eq {a b : List Str} (h : a.Perm b) (ha : sortedS a = true) (hb : sortedS b = true) : a = b :=
  List.Perm.eq_of_pairwise (le := fun a b => a.cps.toList ≤ b.cps.toList) (fun x y _ _ h1 h2 => str_ext (List.le_antisymm h1 h2)) (sortedS_pw a ha) (sortedS_pw b hb) h
theorem nodup_few {α : Type} [DecidableEq α] : ∀ {l D : List α}, l.Nodup → (∀ x ∈ l, x ∈ D) → l.length ≤ D.length
  | [], _, _, _ => Nat.zero_le _
  | x :: l, D, hn, h => by
    obtain ⟨h1, h2⟩ := List.nodup_cons.mp hn
    have hx := h x List.mem_cons_self
    have ih := nodup_few (l := l) (D := D.erase x) h2 fun y hy => (List.mem_erase_of_ne (fun z => h1 (by rw [← z]; exact hy))).mpr (h y (List.mem_cons_of_mem _ hy))
    rw [List.length_erase_of_mem hx] at ih
    have : 0 < D.length := List.length_pos_of_mem hx
    rw [List.length_cons]
    omega
theorem nodup_take {α : Type} {l : List α} {i : Nat} {x : α} (h : l.Nodup) (e : l[i]? = some x) : x ∉ l.take i := by
  obtain ⟨hl, hx⟩ := List.getElem?_eq_some_iff.mp e
  have h2 : l.take i ++ x :: l.drop (i + 1) = l := by
    rw [← hx, ← List.drop_eq_getElem_cons hl, List.take_append_drop]
  rw [← h2, List.nodup_append] at h
  exact fun z => h.2.2 x z x List.mem_cons_self rfl
theorem perm_same {α : Type} [DecidableEq α] {a b : List α} (ha : a.Nodup) (hb : b.Nodup) (h : ∀ x, x ∈ a ↔ x ∈ b) : a.Perm b := (List.perm_ext_iff_of_nodup ha hb).mpr h
end Lw
local macro_rules | `(tactic| walk_at "lw side") => `(tactic| first | assumption | decide | omega | exact Or.inr ⟨by decide, by decide⟩ | exact Or.inl ⟨by decide, by decide⟩ | exact ⟨by decide, by decide⟩ | exact ⟨by omega, by omega⟩)
local macro_rules | `(tactic| walk_at "lw ne") => `(tactic| first | assumption | exact Ne.symm (by assumption) | exact L2.ne_of_none (by assumption) (by assumption) | exact Ne.symm (L2.ne_of_none (by assumption) (by assumption)))
local macro_rules | `(tactic| walk_at "lw hp") => `(tactic| first | assumption | exact L2.upd_same | (refine Eq.trans (L2.upd_ne (by walk_at "lw ne")) ?_; walk_at "lw hp"))
local macro_rules | `(tactic| walk_at "lw sq") => `(tactic| first | assumption | exact L2.SqL.of (by walk_at "lw hp") | exact L2.SqT.of (by walk_at "lw hp"))
local macro_rules | `(tactic| walk_at "lw go") => `(tactic| first
  | (with_reducible refine Lw.g_seq ?_)
  | ((with_reducible refine' Lw.g_var ?h1 ?k1); (case h1 => rfl))
  | (with_reducible refine Lw.g_c ?_)
  | (with_reducible refine Lw.g_op ?_)
  | (with_reducible refine Lw.g_I0 ?_)
  | ((with_reducible refine' Lw.g_I ?h1 ?k1); (case h1 => walk_at "lw side"))
  | ((with_reducible refine' Lw.g_eq ?h1 ?k1); (case h1 => rfl))
  | ((with_reducible refine' Lw.g_ne ?h1 ?k1); (case h1 => rfl))
  | (with_reducible refine Lw.g_nil ?_)
  | (with_reducible refine Lw.g_cons ?_)
  | (with_reducible refine Lw.g_cb ?_)
  | (with_reducible refine Lw.g_call ?_)
  | (with_reducible refine Lw.g_test ?_)
  | (with_reducible refine Lw.g_B ?_)
  | (with_reducible refine Lw.g_exb ?_)
  | (with_reducible refine Lw.g_not ?_)
  | (with_reducible refine Lw.g_and ?_)
  | (with_reducible refine Lw.g_or ?_)
  | (with_reducible refine Lw.g_tup ?_)
  | (with_reducible refine Lw.g_lst ?_)
  | (with_reducible refine Lw.g_ifx ?_)
  | (with_reducible refine Lw.g_fld ?_)
  | (with_reducible refine Lw.g_asg ?_)
  | (with_reducible refine Lw.g_name ?_)
  | (with_reducible refine Lw.g_ret ?_)
  | (with_reducible refine Lw.g_drop ?_)
  | (with_reducible refine Lw.g_next ?_)
  | (with_reducible refine Lw.g_ifs ?_)
  | (with_reducible refine Lw.g_pnx ?_)
  | (with_reducible refine Lw.g_prt ?_)
  | (with_reducible refine Lw.g_pbk ?_)
  | (with_reducible refine Lw.g_pct ?_)
  | (with_reducible refine Lw.g_sl ?_)
  | (with_reducible refine Lw.g_nopart ?_)
  | (with_reducible refine Lw.g_part ?_)
  | (with_reducible refine Lw.g_rpart ?_)
  | (with_reducible refine Lw.g_m1 ?_)
  | (with_reducible refine Lw.g_m0 ?_)
  | (with_reducible refine Lw.g_rstr ?_)
  | (with_reducible refine Lw.g_bm0 ?_)
  | (with_reducible refine Lw.g_bm ?_)
  | (with_reducible refine Lw.g_isN ?_)
  | (with_reducible refine Lw.g_isB ?_)
  | (with_reducible refine Lw.g_notB ?_)
  | (with_reducible refine Lw.g_andV ?_)
  | (with_reducible refine Lw.g_orV ?_)
  | (with_reducible refine Lw.g_notV ?_)
  | (with_reducible refine Lw.g_notN ?_)
  | (with_reducible refine L2.iteT ?_)
  | (with_reducible refine L2.iteF ?_)
  | (with_reducible refine Lw.g_int1 ?_)
  | (with_reducible refine Lw.g_int1b ?_)
  | (with_reducible refine Lw.g_sub ?_)
  | (with_reducible refine Lw.g_forR ?_)
  | (with_reducible refine Lw.g_for ?_)
  | (with_reducible refine Lw.g_lc ?_)
  | (with_reducible refine Lw.g_iStr ?_)
  | (with_reducible refine Lw.g_ritS ?_)
  | (with_reducible refine Lw.g_tyS ?_)
  | (with_reducible refine Lw.g_iList ?_)
  | (with_reducible refine Lw.g_iTup ?_)
  | (with_reducible refine Lw.g_iRng ?_)
  | (with_reducible refine Lw.g_inSg ?_)
  | (with_reducible refine Lw.g_notInSg ?_)
  | (with_reducible refine Lw.g_ord ?_)
  | (with_reducible refine Lw.g_reprB ?_)
  | (with_reducible refine Lw.g_sfld ?_)
  | (with_reducible refine Lw.g_meth ?_)
  | (with_reducible refine Lw.g_make ?_)
  | (with_reducible refine Lw.g_dget ?_)
  | (with_reducible refine Lw.g_din ?_)
  | (with_reducible refine Lw.g_dnotin ?_)
  | (with_reducible refine Lw.g_dput ?_)
  | (with_reducible refine Lw.g_ddel ?_)
  | (with_reducible refine Lw.g_dpop1 ?_)
  | (with_reducible refine Lw.g_dget1 ?_)
  | (with_reducible refine Lw.g_iKeys ?_)
  | (with_reducible refine Lw.g_fldaug ?_)
  | ((with_reducible refine' Lw.g_lenL ?h1 ?k1); (case h1 => walk_at "lw sq"))
  | ((with_reducible refine' Lw.g_lenD ?h1 ?k1); (case h1 => walk_at "lw hp")))
local macro_rules | `(tactic| walk_at "lw") => `(tactic| repeat walk_at "lw go")

/-! ## errors of the program's own -/
namespace Lw
open PySem L2
open PyProof.Rows (envOfC)
/-- a def that may raise -/
structure CalX (P : Program) (w : World) (K : PySem.W.Frag) (mg : Str → Option Value) (base : Heap) (k : Nat) (x : Str) (sp : Sp) : Prop where
  ex : ∃ (f : Addr) (fd : FuncData) (ps : List Str), FnOk P w K mg base (L2.CX P w) k f fd ps sp ∧ mg x = some (.ref f) ∧ PySem.W.keepIn K (.ref f) = true ∧ Binds K fd ps []
/-- an error's class that is called -/
structure Exo (P : Program) (w : World) (K : PySem.W.Frag) (mg : Str → Option Value) (base : Heap) (k : Nat) (x : Str) (C : Addr) (sp : Sp) : Prop where
  ex : ∃ (f : Addr) (fd : FuncData) (ps : List Str), OexC K C ∧ PySem.W.findIn K (.ref C) "__init__" = some (some (.ref f)) ∧ PySem.W.typeIn K (.ref f) = some (.type "function") ∧ FnOk P w K mg base CX0 k f fd ps sp ∧ mg x = some (.ref C) ∧ Binds K fd ps []
/-- its __init__ -/
structure ExiAt (K : PySem.W.Frag) (mg : Str → Option Value) (x : Str) (C : Addr) (qual : Str) (st : Stmt) (ps : List Str) : Prop where
  ex : ∃ (f : Addr) (fd : FuncData), Fun K "__init__" qual st f fd ∧ PySem.W.findIn K (.ref C) "__init__" = some (some (.ref f)) ∧ PySem.W.typeIn K (.ref f) = some (.type "function") ∧ mg x = some (.ref C) ∧ Binds K fd ps []
/-- isinstance of such an error asks these -/
structure XiC (K : PySem.W.Frag) (D : Addr) : Prop where
  a1 : PySem.W.isClsIn K D = true
  a2 : PySem.W.findIn K (.ref D) "__getattribute__" = some (some (.builtin "BaseException.__getattribute__"))
  a3 : PySem.W.findIn K (.ref D) "__getattr__" = some none
  a4 : PySem.W.subIn K (.ref D) (.type "BaseException") = some true
  a5 : PySem.W.findIn K (.ref D) "__class__" = some (some (.builtin "object.__class__"))
  a6 : PySem.W.specialIn K (.builtin "object.__class__") "__get__" = some (some (.builtin "getset_descriptor.__get__"))
  a7 : PySem.W.takesIn K (.builtin "object.__class__") = some true
  a8 : PySem.W.mroIn K D (.type "object") = some true
theorem exm_self {K : PySem.W.Frag} {S : Addr} (k1 : PySem.W.subIn K (.ref S) (.type "BaseException") = some true) (k2 : PySem.W.isClsIn K S = true) (k3 : PySem.W.typeIn K (.ref S) = some (.type "type")) (k4 : PySem.W.subIn K (.ref S) (.ref S) = some true) :
    PySem.W.exmOne K (.ref S) (.ref S) = some true := by
  have k2' : (PySem.W.clsIn K S).isSome = true := k2
  have f1 : (PySem.W.subIn K (.ref S) (.type "BaseException") == some true) = true := by rw [k1]; rfl
  have f2 : ((PySem.W.clsIn K S).isSome && PySem.W.typeIn K (.ref S) == some (.type "type")) = true := by rw [k2', k3]; rfl
  unfold PySem.W.exmOne
  first
    | (simp only [f1, f2, if_true]; exact k4)
    | (show (if _ then (if _ then _ else none) else none) = some true; rw [if_pos f1, if_pos f2]; exact k4)
section
variable {P : Program} {w : World} {K : PySem.W.Frag} {mg : Str → Option Value} {base : Heap}
theorem calX_mk {x : Str} {st : Stmt} {N ps : List Str} {k : Nat} {sp : Sp} (D : DefAt K mg x st ps) (S : FnScope N ps (defScope st)) (len : ∀ vs H Q E, sp vs H Q E → vs.length = ps.length)
    (hbody : ∀ (f : Addr) (cdv : Value) (A : Around) (outer : List Env) (s : Shared) (H : Hp) (vs : List V) (Q : VK) (E : XK), Room k (A.deeper (envOfC x (defScope st) s.heap.objs.size f cdv)) → sp vs H Q E →
      ∃ t, PSs (cxOf (L2.CX P w) P w K mg base N x (defScope st) f cdv A outer s H E) (defBody st) t ∧ t { nx := fun _ H' => Q .non H', rt := Q } (start N vs) H) : CalX P w K mg base (k + 1) x sp := by
  obtain ⟨f, fd, F, hm, hb⟩ := D.ex
  exact ⟨f, fd, ps, F.okX S len fun cdv A outer s H vs Q E hr h => hbody f cdv A outer s H vs Q E hr h, hm, F.kp, hb⟩
theorem exo_mk {x qual : Str} {C : Addr} {st : Stmt} {N ps : List Str} {k : Nat} {sp : Sp} (O : OexC K C) (D : ExiAt K mg x C qual st ps) (S : FnScope N ps (defScope st)) (len : ∀ vs H Q E, sp vs H Q E → vs.length = ps.length)
    (hbody : ∀ (f : Addr) (cdv : Value) (A : Around) (outer : List Env) (s : Shared) (H : Hp) (vs : List V) (Q : VK) (E : XK), Room k (A.deeper (envOfC qual (defScope st) s.heap.objs.size f cdv)) → sp vs H Q E →
      ∃ t, PSs (cxOf CX0 P w K mg base N qual (defScope st) f cdv A outer s H E).nox (defBody st) t ∧ t { nx := fun _ H' => Q .non H', rt := Q } (start N vs) H) : Exo P w K mg base (k + 1) x C sp := by
  obtain ⟨f, fd, F, iC, tI, hm, hb⟩ := D.ex
  exact ⟨f, fd, ps, O, iC, tI, F.ok S len fun cdv A outer s H vs Q E hr h => hbody f cdv A outer s H vs Q E hr h, hm, hb⟩
end
section
variable {X : Cx} {x : Str} {C : Addr} {sp : Sp} {k j : Nat} {e : Expr} {es : List Expr} {p pos : Pos} {t : TA} {W : WX}
theorem pe_cX (c : CalX X.prog X.w X.K X.mg X.base k x sp) (tk : Takes X W) (hr : Room j X.A) (hk : k ≤ j) (hg : Gl X x) (ha : PA X (e :: es) t)
    (hdb : (x == ("__debug__" : Str)) = false := by decide) (he : starEach (e :: es) X.env = (false, eval e X.env) :: starEach es X.env := by rfl) (hpl : (backTo pos (starEach es X.env)).any (·.1) = false := by rfl) :
    PE X (.Call (.Name x p) (e :: es) [] pos) (tCallS sp (WE W) t) := by
  obtain ⟨f, fd, ps, F, hm, kp, b⟩ := c.ex
  exact pe_callS F (hr.mono hk) hg hm kp b (fun σ => passAt tk σ) ha hdb he hpl
theorem pmk_x (c : Exo X.prog X.w X.K X.mg X.base k x C sp) (hr : Room j X.A) (hk : k + 1 ≤ j) (hg : Gl X x) (ha : PA X (e :: es) t)
    (hdb : (x == ("__debug__" : Str)) = false := by decide) (he : starEach (e :: es) X.env = (false, eval e X.env) :: starEach es X.env := by rfl) (hpl : (backTo pos (starEach es X.env)).any (·.1) = false := by rfl) :
    PMk X (.Call (.Name x p) (e :: es) [] pos) (tMkO C sp [] t) := by
  obtain ⟨f, fd, ps, O, iC, tI, F, hm, b⟩ := c.ex
  exact pmk_oex O iC tI F (hr.mono hk) b .nil pass0 hg hm ha hdb he hpl
def tRaise (m : L2.St → Hp → XK → Prop) (W : WX) : TS := fun _ σ H => m σ H fun cls d H' => W cls d σ H'
theorem ps_rs {m : L2.St → Hp → XK → Prop} (hc : X.calm = true) (tk : Takes X W) (he : PMk X e m) : PS X (.Raise (some e) none pos) (tRaise m W) := ps_raise hc tk he
/-- .. except C as n -/
def tTryAs (K : PySem.W.Frag) (c : Value) (i : Nat) (tb : WX → TS) (ts : Addr → Value → Option Addr → TS) (Wout : WX) : TS := fun D σ H => tb (wAs K c i ts Wout D) D σ H
theorem ps_tryAs {n : Str} {c : Value} {i : Nat} {body suite : List Stmt} {b₀ : Stmt} {np pos' : Pos} {tb : WX → TS} {ts : Addr → Value → Option Addr → TS} {Wout : WX}
    (hs : X.stack = X.env :: X.outer) (hf : X.env.frame = some X.env.locals) (hN : X.N.Nodup) (hi : X.N[i]? = some n) (hln : X.env.kindOf n = some .local) (hc : Names X x c) (tk : Takes X Wout)
    (hb : ∀ (W : WX) (pn : List (Addr × Obj)) (xe : Value → Shared → Prop), Takes (X.tr pn xe) W → PassesOwn (model X.prog X.w) X.A X.env xe → PSs (X.tr pn xe) body (tb W))
    (hsu : ∀ (a : Addr) (oe : Obj) (cls : Value) (d : Option Addr) (pn : List (Addr × Obj)), Zc cls d oe → (∃ vs, oe.data = .fields vs) → PSs (X.suite a ((a, oe) :: pn)) (b₀ :: suite) (ts a cls d)) :
    PS X (.Try body [.ExceptHandler (some (.Name x np)) (some n) (b₀ :: suite) pos'] [] [] pos) (tTryAs X.K c i tb ts Wout) := ps_try_as hs hf hN hi hln hc tk hb hsu
def rIsE2 (K : PySem.W.Frag) (D a : Addr) (cls : Value) (d : Option Addr) : List V → Hp → VK → Prop := fun xs H Q => ∃ (c : V) (cv : Value) (b : Bool) (dd : Addr) (fs : List (Str × V)), xs = [.ref a, c] ∧ cls = .ref D ∧ d = some dd ∧ H dd = some (.xd fs) ∧ (∀ u, RelV c u → u = cv) ∧ PySem.W.kitOne K (.ref D) cv = some b ∧ Q (.bl b) H
theorem call_isE2 {a D : Addr} {oe : Obj} {cls : Value} {d : Option Addr} {pn : List (Addr × Obj)} (Y : XiC X.K D) (hz : Zc cls d oe) (hf : ∃ vs, oe.data = .fields vs) : CallR (X.suite a ((a, oe) :: pn)) (.builtin "isinstance") (rIsE2 X.K D a cls d) := by
  intro pins s σ H xs us Q I r h
  obtain ⟨c, cv, b, dd, fs, rfl, rfl, rfl, hdd, hcv, e, q⟩ := h
  obtain ⟨u, v, rfl, r1, r2⟩ := vals2 r
  cases r1
  have ev := hcv _ r2
  subst ev
  obtain ⟨ha, _⟩ := I.pin (a, oe) (List.mem_append_left _ List.mem_cons_self)
  obtain ⟨vs, hd⟩ := hf
  have hx : ObjOk X.prog X.w H s.heap dd (.xd fs) := I.hok dd _ hdd
  obtain ⟨mA, hns, hr⟩ := hx
  obtain ⟨od, ho, hl⟩ := lookIn_ns hns
  have J : PySem.W.InstAt s.heap a oe D (some od) := ⟨ha, hz.1, by unfold PySem.W.notCls; rw [hd] <;> rfl, by rw [hz.2]; exact ho⟩
  exact PySem.W.kia_one (PySem.W.kitx_exc (od := some od) Y.a1 Y.a2 Y.a3 Y.a4 Y.a5 Y.a6 Y.a7 Y.a8) I.kIn J e (fun z => nomatch z) fun tk => ⟨.bl b, H, I.kept (t' := tk) fun _ _ z => z, rfl, q⟩
end
/-- self.f = y, the only field -/
def spXInit (C : Addr) (f : Str) : Sp := fun vs H Q _ => ∃ (a : Addr) (v : V), vs = [.ref a, v] ∧ H a = some (exo a C none) ∧ ∀ dx, H dx = none → dx ≠ a → Q .non (upd (upd H dx (exd dx [(f, v)])) a (exo a C (some dx)))
section
variable {σ : L2.St} {H : Hp} {Q : VK} {K : PySem.W.Frag} {D : Ends} {ta te to : TE} {tl : TA} {v : V} {W : WX}
def rMkO (C : Addr) (sp : Sp) (vs : List V) (H1 : Hp) (Q : XK) : Prop := vs.length ≤ 1000 ∧ ∀ a, H1 a = none → sp (.ref a :: (vs ++ [])) (upd H1 a (exo a C none))
  (fun v H2 => v = .non ∧ ∃ (d : Addr) (fs : List (Str × V)), H2 a = some (exo a C (some d)) ∧ H2 d = some (exd d fs) ∧ H1 d = none ∧ Q (.ref C) (some d) (upd (del H2 a) d (.xd fs))) (fun _ _ _ => False)
theorem g_raise {C : Addr} {sp : Sp} (k : tl σ H fun vs H1 => rMkO C sp vs H1 fun cls d H' => W cls d σ H') : tRaise (tMkO C sp [] tl) W D σ H := k
theorem g_rmkO {C : Addr} {f : Str} {Q : XK} (k : ∀ d H', H d = none → Same H H' → H' d = some (.xd [(f, v)]) → Q (.ref C) (some d) H') : rMkO C (spXInit C f) [v] H Q := by
  refine ⟨(by show 1 ≤ 1000; decide), fun a na => ⟨a, v, rfl, upd_same, fun dx ndx nex => ⟨rfl, dx, [(f, v)], upd_same, ?_, ?_, ?_⟩⟩⟩
  · rw [upd_ne nex, upd_same]
  · rw [upd_ne nex] at ndx; exact ndx
  · rw [upd_ne nex] at ndx
    refine k dx _ ndx (fun b o e => ?_) upd_same
    have h1 := ne_of_none e ndx
    have h2 := ne_of_none e na
    rw [upd_ne h1, del_ne h2, upd_ne h2, upd_ne h1, upd_ne h2]
    exact e
theorem g_tryAs {c : Value} {i : Nat} {tb : WX → TS} {ts : Addr → Value → Option Addr → TS} {Wout : WX} (k : tb (wAs K c i ts Wout D) D σ H) : tTryAs K c i tb ts Wout D σ H := k
theorem g_caught {C : Addr} {i : Nat} {ts : Addr → Value → Option Addr → TS} {Wout : WX} {d : Option Addr} (te : PySem.W.exmOne K (.ref C) (.ref C) = some true)
    (k : ∀ a, H a = none → ts a (.ref C) d { nx := fun σ' H' => D.nx (σ'.set i none) H', rt := D.rt, bk := fun σ' H' => D.bk (σ'.set i none) H', ct := fun σ' H' => D.ct (σ'.set i none) H' } (σ.set i (some (.ref a))) H) : wAs K (.ref C) i ts Wout D (.ref C) d σ H :=
  ⟨true, te, fun _ a ha => k a ha, fun q => Bool.noConfusion q⟩
theorem g_callS {sp : Sp} {E : L2.St → XK} (k : tl σ H fun vs H1 => sp vs H1 Q (E σ)) : tCallS sp E tl σ H Q := k
def rXf (a : Addr) (cls : Value) (d : Option Addr) (C : Addr) (f : Str) (x : V) (H1 : Hp) (Q : VK) : Prop := x = .ref a ∧ cls = .ref C ∧ ∃ (dd : Addr) (fs : List (Str × V)) (v : V), d = some dd ∧ H1 dd = some (.xd fs) ∧ fs.lookup f = some v ∧ Q v H1
theorem g_xf {a C : Addr} {cls : Value} {d : Option Addr} {f : Str} (k : te σ H fun x H1 => rXf a cls d C f x H1 Q) : tXf a cls d C f te σ H Q := k
theorem g_rxf {a C dd : Addr} {f : Str} (h : H dd = some (.xd [(f, v)])) (k : Q v H) : rXf a (.ref C) (some dd) C f (.ref a) H Q := ⟨rfl, rfl, dd, _, v, rfl, h, lk_eq, k⟩
end
end Lw

/-! ## a number as sixteen hexadecimal signs -/
namespace Lw
open PySem L2
/-- the signs of n in the base 16, with zeros in front, sixteen at least -/
def hexT (n : Nat) : Str := ⟨(List.replicate (16 - ((Nat.toDigits 16 n).map Char.toNat).length) 48 ++ (Nat.toDigits 16 n).map Char.toNat).toArray⟩
def spec16 : Str := "016x"
def fs16 : Builtin.Float.FormatSpec := { fill := 48, align := 61, width := some 16, type := some 120 }
section
open Builtin Builtin.Float
theorem spec_reads : parseFormatSpec spec16.cps.toList "int" 62 = .ok fs16 := by
  first | rfl | decide +kernel | kernel_rfl
theorem digs_ne (n : Nat) : ((Nat.toDigits 16 n).map Char.toNat).isEmpty = false := by
  have h := PyProof.Rows.tDigits_len_ge 16 n
  cases e : Nat.toDigits 16 n with
  | nil => rw [e] at h; simp at h
  | cons a b => rfl
theorem field16 (n : Nat) : PyProof.Rows.intField' fs16 false [] ((Nat.toDigits 16 n).map Char.toNat) [] 4 = hexT n :=
  PyProof.Rows.intField'_zero_nonneg fs16 _ 4 rfl rfl (digs_ne n) rfl rfl
theorem hex_len {n : Nat} (h : n < 2 ^ 64) : (hexT n).length ≤ 100000 := by
  have h1 := PyProof.Rows.tDigits_len_le 16 n
  have h2 : (Nat.toDigits 16 n).length ≤ 16 := by
    have e := (Nat.length_toDigits_le_iff (b := 16) (n := n) (k := 16) (by decide) (by decide)).mpr (by simpa using h)
    exact e
  unfold hexT Str.length
  simp only [List.size_toArray, List.length_append, List.length_replicate, List.length_map]
  omega
section
variable {prog : Program} {w : World} {A : Around} {E : Value → Shared → Prop} {s : Shared}
set_option maxRecDepth 100000 in
theorem format_hex {n : Nat} {t : Tok} {Q : Value → Shared → Prop} (hn : n < 2 ^ 64) (h : Q (.str (hexT n) (s.toks + 1)) { s with toks := s.toks + 1 + 1 }) :
    wpAny (model prog w) A (formatField (.int (n : Int) t) spec16) Q E s := by
  show wpAny _ _ (holding [.int (n : Int) t] (pyFormat (.int (n : Int) t) spec16)) Q E s
  refine wpAny_holding ?_
  unfold pyFormat
  refine wpAny_bind (wpAny_mkStr ?_ (by decide +kernel))
  refine wpAny_bind (m := callSpecial? (.int (n : Int) t) (Str.ofString "__format__") [.str spec16 s.toks]) (wpAny_callSpecial?_slot (name := Str.ofString "__format__") (typeIs_int _ (n : Int) t) PyProof.Rows.slot_int_format ?_)
  refine wpAny_call (codeAny_call_builtin PyProof.Rows.slot_int_format.plain PyProof.Rows.entry_int_format (PyProof.Rows.slot_int_format.check _ _ _ _ _ _ _ _ (typeIs_int _ (n : Int) t) (PyProof.Rows.args_int_format _ _) ?_))
  have e1 : (spec16.length == 0) = false := by decide +kernel
  have e2 : ((spec16.cps.toList.drop 1).any (· ≥ 128) || (spec16.cps.getD 0 0 ≥ 128 && !([60, 62, 61, 94] : List Nat).contains (spec16.cps.getD 1 0))) = false := by decide +kernel
  unfold Builtin.«int.__format__»
  simp only [selfAndOne, noKeywords, Int.intOfSelf, asInt?, asStr?, List.isEmpty_nil, if_true, pure_bind, bind_pure, bind_assoc, e1, e2, Bool.false_eq_true, if_false,
    show (Value.str spec16 s.toks == Value.none) = false from rfl]
  refine wpAny_bind (wpAny_typeNameOf (T := "str") (typeIs_str _ _ _) (by decide) fun _ => ?_)
  refine wpAny_bind (PyProof.Rows.wpAny_typeNameOfCut_int ?_)
  simp only [spec_reads]
  rw [if_pos (by decide)]
  obtain ⟨f, hf, hty, hpr, hz, hal, hw, hgr, hsg⟩ : ∃ f, f = fs16 ∧ f.type = some 120 ∧ f.precision = none ∧ f.noNeg0 = false ∧ f.alt = false ∧ f.width.getD 0 ≤ 100000 ∧ f.grouping = none ∧ f.sign = none := ⟨fs16, rfl, rfl, rfl, rfl, rfl, by decide, rfl, rfl⟩
  have ef := field16 n
  have hl : (hexT n).length ≤ sizeLine := Nat.le_trans (hex_len hn) (by decide)
  rw [← hf] at ef ⊢
  simp only [hty, Option.getD_some]
  show wpAny _ _ (if _ then _ else _) _ _ _
  rw [if_neg (by simp [hpr])]
  show wpAny _ _ (if _ then _ else _) _ _ _
  rw [if_neg (by simp [hz])]
  show wpAny _ _ (if _ then _ else _) _ _ _
  rw [if_neg (by decide)]
  have hw' : ¬ (f.width.getD 0 > 100000) := by omega
  have eneg : decide ((n : Int) < 0) = false := decide_eq_false (by omega)
  simp only [show ((120 : Nat) == 98) = false from rfl, show ((120 : Nat) == 111) = false from rfl, show ((120 : Nat) == 120) = true from rfl, show ((120 : Nat) == 88) = false from rfl, show ((16 : Nat) == 10) = false from rfl, Bool.false_eq_true, if_false, if_true, hw', hal, eneg, Int.natAbs_natCast]
  show wpAny _ _ (retStr _) _ _ _
  unfold retStr
  rw [← ef] at hl h
  have em : (Nat.toDigits 16 n).map Char.toNat = (Nat.toDigits 16 n).map (fun c => c.toNat) := rfl
  rw [em] at hl h
  refine wpAny_bind (wpAny_mkStr (wpAny_pure ?_) ?hs2)
  case hs2 =>
    conv => lhs; arg 1; whnf
    simp only [PyProof.Rows.intField', hgr, hsg, Bool.false_eq_true, if_false] at hl ⊢
    exact hl
  dsimp only
  refine wpAny_bind (wpAny_isInstance (typeIs_str _ _ _) isSubtype_str_str (wpAny_pure ?_))
  conv => arg 1; arg 1; whnf
  simp only [PyProof.Rows.intField', hgr, hsg, Bool.false_eq_true, if_false] at h ⊢
  exact h
end
end
section
variable {X : Cx}
/-- {e:016x} -/
def rHex (x : V) (H : Hp) (Q : VK) : Prop := ∃ n : Nat, x = .int (n : Int) ∧ n < 2 ^ 64 ∧ Q (.str (hexT n)) H
def tHex (te : TE) : TE := fun σ H Q => te σ H fun x H1 => rHex x H1 Q
theorem g_hex {te : TE} {σ : L2.St} {H : Hp} {Q : VK} (k : te σ H fun x H1 => rHex x H1 Q) : tHex te σ H Q := k
theorem pe_hex {e spec : Expr} {te : TE} {pos : Pos} (he : PE X e te) (hs : PE X spec (tC (.str spec16))) : PE X (.FormattedValue e (-1) (some spec) pos) (tHex te) := by
  refine ⟨fun pins s σ H Q I h => ?_⟩
  refine wpAny_FormattedValue_spec (thn (he.run pins s σ H _ I h) fun v s1 hv => ?_)
  obtain ⟨x, H1, I1, r1, n, rfl, hn, q⟩ := hv
  obtain ⟨t, rfl⟩ := r1
  refine thn (hs.run pins s1 σ H1 (fun y H2 => y = .str spec16 ∧ Q (.str (hexT n)) H2) I1 ⟨rfl, q⟩) fun u s2 hu => ?_
  obtain ⟨y, H2, I2, r2, rfl, q2⟩ := hu
  obtain ⟨t2, rfl⟩ := r2
  exact ⟨spec16, t2, rfl, format_hex hn ⟨.str (hexT n), H2, I2.tok _, ⟨_, rfl⟩, q2⟩⟩
end
end Lw

/-! ## sorted(d), any number of keys -/
namespace Lw
open PySem L2 PySem.Spec PyProof.Rows
def rSortG (κ : KeyKind) : List V → Hp → VK → Prop := fun xs H Q => ∃ (a : Addr) (kvs : List (Key × V)), xs = [V.ref a] ∧ Rd H a (.dK kvs) ∧ kvs.length ≤ 100000 ∧ ∀ us : List Value, Vals (kvs.map fun e => kV e.1) us → KeysOf κ (pairsOf us) ∧
  (∀ v1 v2 r, us = v1 :: v2 :: r → keyKind' (v1 :: v2 :: r).toArray = pure oneType') ∧
  ∀ st : SortSt, (arrOf st).Perm (pairsOf us) → SortedToK κ (arrOf st) (pairsOf us).size → ∃ ys : List V, Vals ys ((arrOf st).map (·.2)).toList ∧ ys.length = kvs.length ∧ ∀ p, H p = none → Q (.ref p) (upd H p (.lst ys))
theorem call_sortG {X : Cx} {κ : KeyKind} (hO : κ.OneLt) (hc : X.calm = true) : CallR X (.builtin "sorted") (rSortG κ) := by
  intro pins s σ H xs us0 Q I r q
  obtain ⟨a, kvs, rfl, hd, hn, q⟩ := q
  rw [Vals.ref1 r]
  obtain ⟨z, lo, es, rel, dd⟩ := dk_rd I.hok hd
  obtain ⟨ep, hat⟩ := dd.dictAt
  have hel : es.length = kvs.length := rel.length.symm
  refine Calls.call_function_entry kind_sorted plain_sorted entry_sorted (args_sorted1 _) ?_
  unfold Builtin.«sorted»
  refine wpAny_bind (m := checkCount "sorted" 1 1 _) (wpAny_pure ?_)
  refine wpAny_bind (PySem.W.kdu_collect (A := X.A.in1) (PySem.W.kdl_dict (knd := mixKind X.prog X.w) (kvs := es) (ep := ep) lo) (I.ok.hd hc) hat (by rw [hel]; exact z) fun h1 tk acc hk hacc => ?_)
  have hv : Vals (kvs.map fun e => kV e.1) acc.toList := by
    have h1 := keys_at (us := acc.toList) (vs := es) (by rw [Array.length_toList]; exact hacc.1) fun j v e => hacc.2 j v (by rw [← Array.getElem?_toList]; exact e)
    have h2 := congrArg (List.map kV) rel.keys
    rw [List.map_map, List.map_map] at h2
    have h2 : (kvs.map fun e => kV e.1) = es.map fun e => kV e.1 := h2
    rw [h2]; exact h1
  have hal : acc.toList.length = kvs.length := by have := hv.length; rw [List.length_map] at this; exact this.symm
  obtain ⟨g1, g2, g3⟩ := q _ hv
  have I1 : Inv X pins σ H { s with heap := h1, toks := tk } := I.kept hk
  have hz : acc.toList.length ≤ sizeLine := by rw [hal]; exact z
  refine wpAny_bind (wpAny_newList ?_ hz)
  have hL : (h1.push (seqObj "list" acc.toList.toArray 0)).get? h1.objs.size = some (seqObj "list" acc.toList.toArray 0) := Heap.get?_push_size _ rfl
  show wpAny _ _ _ _ _ { s with heap := h1.push (seqObj "list" acc.toList.toArray 0), toks := tk }
  refine wpAny_bind (wpAny_holding (wpAny_call_entry slot_list_sort ⟨_, hL, rfl⟩ entry_list_sort (list_sort_treeKAny hO (s := { s with heap := h1.push (seqObj "list" acc.toList.toArray 0), toks := tk }) hL g1 g2 hz fun st hp hs => ⟨_, rfl, ?_⟩) (args_list_sort _)))
  obtain ⟨ys, w1, w2, w3⟩ := g3 st hp hs
  obtain ⟨e1, he1⟩ := sortedHeap_at (vs := acc.toList) (out := (arrOf st).map (·.2)) hL
  have ok : ObjOk X.prog X.w (upd H h1.objs.size (.lst ys)) (sortedHeap (h1.push (seqObj "list" acc.toList.toArray 0)) h1.objs.size acc.toList ((arrOf st).map (·.2))) h1.objs.size (.lst ys) := ⟨by rw [w2]; exact z, _, e1, w1, by rw [Array.toArray_toList]; exact he1⟩
  refine wpAny_pure ⟨_, rfl, .ref h1.objs.size, _, I1.laid (t' := tk) (fun b u e => ?_) (Nat.le_refl _) ok, rfl, w3 _ (I1.hok.fresh (Nat.le_refl _))⟩
  have hb : b < h1.objs.size := Heap.lt_size e
  rw [sortedHeap_old (Nat.ne_of_lt hb) (by rw [Heap.size_push]; exact Nat.lt_succ_of_lt hb)]
  exact Heap.get?_push_of_some _ e
theorem call_sortedD' {X : Cx} (hc : X.calm = true) : CallR X (.builtin "sorted") (fun xs H Q => ∃ (a : Addr) (kvs : List (Key × V)) (ks : List Str), xs = [V.ref a] ∧ Rd H a (.dK kvs) ∧ kvs.map (·.1) = ks.map Sum.inr ∧ ks.length < 100000 ∧
    ∀ (ys : List Str) (p : Addr), ys.Perm ks → sortedS ys = true → H p = none → Q (.ref p) (upd H p (.lst (ys.map V.str)))) := by
  intro pins s σ H xs us Q I r q
  obtain ⟨a, kvs, ks, rfl, hd, hks, hn, q⟩ := q
  have hl : kvs.length = ks.length := by have := congrArg List.length hks; rw [List.length_map, List.length_map] at this; exact this
  refine call_sortG strKind_oneLt hc pins s σ H _ us Q I r ⟨a, kvs, rfl, hd, by omega, fun us hv => ?_⟩
  have e : (kvs.map fun e => kV e.1) = ks.map V.str := by
    have h2 := congrArg (List.map kV) hks
    rw [List.map_map, List.map_map] at h2
    exact h2
  rw [e] at hv
  have hS := hv.strs
  refine ⟨hS.keysOf, fun v1 v2 r e => keyKind_strs (by rw [← e]; exact hS), fun st hp hs => ?_⟩
  obtain ⟨ys, w1, w2, w3⟩ := sorted_out_str hS hp hs
  exact ⟨ys.map V.str, vals_of_strs w1, by rw [List.length_map, w2.length_eq, hl], fun p hp => q ys p w2 w3 hp⟩
theorem call_sortedDI' {X : Cx} (hc : X.calm = true) : CallR X (.builtin "sorted") (fun xs H Q => ∃ (a : Addr) (kvs : List (Key × V)) (ks : List Int), xs = [V.ref a] ∧ Rd H a (.dK kvs) ∧ kvs.map (·.1) = ks.map Sum.inl ∧ ks.length < 100000 ∧
    ∀ (ys : List Int) (p : Addr), ys.Perm ks → ys.Pairwise (· ≤ ·) → H p = none → Q (.ref p) (upd H p (.lst (ys.map V.int)))) := by
  intro pins s σ H xs us Q I r q
  obtain ⟨a, kvs, ks, rfl, hd, hks, hn, q⟩ := q
  have hl : kvs.length = ks.length := by have := congrArg List.length hks; rw [List.length_map, List.length_map] at this; exact this
  refine call_sortG intKind_oneLt hc pins s σ H _ us Q I r ⟨a, kvs, rfl, hd, by omega, fun us hv => ?_⟩
  have e : (kvs.map fun e => kV e.1) = ks.map V.int := by
    have h2 := congrArg (List.map kV) hks
    rw [List.map_map, List.map_map] at h2
    exact h2
  rw [e] at hv
  have hS := hv.ints
  refine ⟨hS.keysOfInt, fun v1 v2 r e => keyKind_ints (by rw [← e]; exact hS), fun st hp hs => ?_⟩
  obtain ⟨ys, w1, w2, w3⟩ := sorted_out hS hp (sortedTo_of_int hs)
  exact ⟨ys.map V.int, vals_ints w1, by rw [List.length_map, w2.length_eq, hl], fun p hp => q ys p w2 w3 hp⟩
/-- sorted(a list of texts), any number of them -/
def rSortedSA (K : PySem.W.Frag) : List V → Hp → VK → Prop := fun vs H Q => ∃ (a : Addr) (xs : List Str), vs = [V.ref a] ∧ SqL K H a (xs.map V.str) ∧
  ∀ (ys : List Str) (p : Addr), ys.Perm xs → sortedS ys = true → H p = none → Q (.ref p) (upd H p (.lst (ys.map V.str)))
theorem cr_sortedSA {X : Cx} : CallR X (.builtin "sorted") (rSortedSA X.K) := by
  intro pins s σ H vs us Q I r h
  obtain ⟨a, xs, rfl, hs, q⟩ := h
  obtain ⟨its, rv, hl, hz⟩ := I.list hs
  rw [Vals.ref1 r]
  have e0 := rv.length
  rw [List.length_map] at e0
  have hz0 : its.length ≤ sizeLine := by rw [← e0]; simpa using hz
  refine sorted_strsAny hl.isList rv.strs hz0 fun out ys h1 h2 h3 => ?_
  obtain ⟨ep, he⟩ := sortedAll_at s.heap its out
  have ok : (ys.map V.str).length ≤ sizeLine := by rw [List.length_map, h2.length_eq, e0]; exact hz0
  exact ⟨.ref _, _, I.laid (t' := s.toks) (fun _ _ => sortedAll_old) (Nat.le_succ _) (show ObjOk X.prog X.w (upd H (s.heap.objs.size + 1) (.lst (ys.map V.str))) (sortedAll s.heap its out) (s.heap.objs.size + 1) (.lst (ys.map V.str)) from ⟨ok, out.toList, ep, vals_of_strs h1, he⟩), rfl, q ys _ h2 h3 (I.hok.fresh (Nat.le_succ _))⟩
end Lw

namespace Lw
open PySem L2
def kinds3 : List Str := ["layer", "image", "bundle"]
end Lw
/-! ## sets of texts: set(list), sorted(set) -/
namespace Lw
open PySem PySem.Spec PyProof.Rows L2
def txOf (e : Int × Value) : Str := match e.2 with | .str x _ => x | _ => Str.empty
def GoodS (P : Program) (w : World) (e : Int × Value) : Prop := ∃ x tk, e.2 = Value.str x tk ∧ e.1 = (PySem.strKind P w).hash x
/-- the set of texts at a: its members m, without doubles -/
def TSet (P : Program) (w : World) (h : Heap) (a : Addr) (m : Str → Bool) (n : Nat) : Prop :=
  ∃ o es ep t, h.get? a = some o ∧ o.ExactSet ∧ o.data = .set es ep t ∧ (∀ e ∈ es.toList, GoodS P w e) ∧ (es.toList.map txOf).Nodup ∧ (∀ k, m k = true ↔ k ∈ es.toList.map txOf) ∧
    es.size < scanBound ∧ t.fits es.size = true ∧ es.size = n ∧ Ris t.place.toList ∧ (w.params.followText "set-order" = true ∨ t.led = true)
section
variable {P : Program} {w : World} {h h' : Heap} {a : Addr} {m : Str → Bool} {n : Nat}
theorem TSet.keep (R : TSet P w h a m n) (k : ∀ o, h.get? a = some o → h'.get? a = some o) : TSet P w h' a m n := by
  obtain ⟨o, es, ep, t, ho, r⟩ := R
  exact ⟨o, es, ep, t, k o ho, r⟩
theorem goodS_elems {l : List (Int × Value)} (g : ∀ e ∈ l, GoodS P w e) : ElemsOf (PySem.strKind P w) l := fun e he => by
  obtain ⟨x, tk, h1, h2⟩ := g e he
  exact ⟨⟨x, by rw [h1]; exact strKind_is _ _ _ _, h2⟩, by rw [h1] <;> rfl⟩
theorem goodS_is {e : Int × Value} (g : GoodS P w e) (k : Str) : (PySem.strKind P w).is k e.2 = true ↔ txOf e = k := by
  obtain ⟨x, tk, h1, _⟩ := g
  unfold txOf
  rw [h1]
  constructor
  · intro q
    have := Value.isStrOf_shape (x := k) (v := Value.str x tk) q
    obtain ⟨t, e⟩ := this
    cases e
    rfl
  · intro q
    subst q
    exact strKind_is _ _ _ _
theorem goodS_mem {l : List (Int × Value)} (g : ∀ e ∈ l, GoodS P w e) (k : Str) : k ∈ l.map txOf ↔ ∃ e ∈ l, (PySem.strKind P w).is k e.2 = true := by
  rw [List.mem_map]
  exact ⟨fun ⟨e, he, q⟩ => ⟨e, he, (goodS_is (g e he) k).2 q⟩, fun ⟨e, he, q⟩ => ⟨e, he, (goodS_is (g e he) k).1 q⟩⟩
end
section
variable {P : Program} {w : World} {A : Around} {E : Value → Shared → Prop} {s : Shared} {a : Addr} {m : Str → Bool} {n : Nat}
theorem tset_tail {g : Bool → Sem Unit} (hg : ∀ (b : Bool) (s₁ : Shared) (Q' : Unit → Shared → Prop), Q' () s₁ → wpAny (model P w) A (g b) Q' E s₁)
    {o : Obj} {es : Array (Int × Value)} {ep : Nat} {t : SetTable} (ho : s.heap.get? a = some o) (hex : o.ExactSet) (hd : o.data = .set es ep t)
    {es1 : Array (Int × Value)} {t2 : SetTable} {m' : Str → Bool} (g1 : ∀ e ∈ es1.toList, GoodS P w e) (nd1 : (es1.toList.map txOf).Nodup) (m1 : ∀ k, m' k = true ↔ k ∈ es1.toList.map txOf)
    (hb1 : es1.size < scanBound) (hf2 : t2.fits es1.size = true) (hr : Ris t2.place.toList) (hl : w.params.followText "set-order" = true ∨ t2.led = true) {wasDummy : Bool} {R : Option Bool → Shared → Prop}
    (hR : ∀ h', Heap.SameBut a s.heap h' → TSet P w h' a m' es1.size → R (some true) { s with heap := h' }) :
    wpAny (model P w) A (do
        storeSet a es1 t2
        if (!wasDummy && t2.tooFull) = true then do
            g (relayAll t2 es1 (SetTable.grown es1.size)).2.2
            storeSet a (relayAll t2 es1 (SetTable.grown es1.size)).1 (relayAll t2 es1 (SetTable.grown es1.size)).2.1
            pure (some true)
          else pure (some true)) R E s := by
  refine wpAny_bind (wpAny_storeSet_of ho hd ?_ (fits_of_scanBound hb1))
  have ho1 := store_at (es' := es1) (t' := t2) ho hd
  have sb1 := Heap.SameBut.update s.heap a (Obj.putSet es1 t2)
  split
  · have pm := relayAll_perm t2 es1 (SetTable.grown es1.size)
    have hf3 := relayAll_fits t2 es1 (SetTable.grown es1.size)
    have hr3 := relayAll_ris t2 es1 (SetTable.grown es1.size)
    have hl3 := relayAll_led t2 es1 (SetTable.grown es1.size)
    generalize relayAll t2 es1 (SetTable.grown es1.size) = Z at pm hf3 hr3 hl3 ⊢
    obtain ⟨es2, t3, gave⟩ := Z
    dsimp only at pm hf3 hr3 hl3 ⊢
    have hsz : es2.size = es1.size := by rw [← Array.length_toList, pm.length_eq, Array.length_toList]
    have hb2 : es2.size < scanBound := by rw [hsz]; exact hb1
    refine wpAny_bind (hg _ _ _ ?_)
    refine wpAny_bind (wpAny_storeSet_of ho1 rfl ?_ (fits_of_scanBound hb2))
    have ho2 := store_at (es' := es2) (t' := t3) ho1 rfl
    refine wpAny_pure (hR _ (sb1.trans (Heap.SameBut.update _ a _)) ?_)
    exact ⟨_, es2, _, t3, ho2, hex, rfl, fun e he => g1 e (pm.mem_iff.mp he), (pm.map txOf).nodup_iff.mpr nd1, fun k => (m1 k).trans (pm.map txOf).mem_iff.symm, hb2, hf3, hsz, hr3, hl.imp id fun z => by rw [hl3]; exact z⟩
  · exact wpAny_pure (hR _ sb1 ⟨_, es1, _, t2, ho1, hex, rfl, g1, nd1, m1, hb1, hf2, rfl, hr, hl⟩)
theorem tset_add {k : Str} {tk : Tok} {Q : Bool → Shared → Prop} (R : TSet P w s.heap a m n) (room : n + 1 < scanBound)
    (hQ : ∀ h', Heap.SameBut a s.heap h' → TSet P w h' a (fun j => m j || decide (j = k)) (if m k = true then n else n + 1) → Q (!m k) { s with heap := h' }) :
    wpAny (model P w) A (setAddHashed a (.str k tk) ((PySem.strKind P w).hash k)) Q E s := by
  obtain ⟨o, es, ep, t, ho, hex, hd, g, nd, hm, hb, hf, hn, hr, hl⟩ := R
  have hkey : (PySem.strKind P w).is k (.str k tk) = true := strKind_is _ _ _ _
  have hsc : (Value.str k tk).scannable = true := rfl
  have hel : ElemsOf (PySem.strKind P w) es.toList := goodS_elems g
  unfold setAddHashed setAddHashedIn
  refine wpAny_holding (wpAny_bind (wpAny_setState_of ho hd hf ?_))
  dsimp only
  rw [byScan_of hsc hb hel]
  simp only [↓reduceIte]
  unfold setAddByScan
  refine wpAny_bind ?_
  refine wpAny_bind (wpAny_rule ?_)
  refine wpAny_bind (wpAny_setScan_of hkey ho hd hf hel ?_)
  cases hfi : List.findIdx? (fun e => (PySem.strKind P w).is k e.2) es.toList with
  | some j =>
    dsimp only
    obtain ⟨hj, pj, _⟩ := List.findIdx?_eq_some_iff_getElem.mp hfi
    have hSk : m k = true := (hm k).2 ((goodS_mem (P := P) (w := w) g k).2 ⟨es.toList[j], List.getElem_mem hj, pj⟩)
    refine wpAny_pure (wpAny_pure ?_)
    have q := hQ s.heap (Heap.SameBut.refl a s.heap) ⟨o, es, ep, t, ho, hex, hd, g, nd, fun i => by
      rw [Bool.or_eq_true, decide_eq_true_eq, ← hm i]
      exact ⟨fun z => z.elim id (fun e => e ▸ hSk), .inl⟩, hb, hf, by rw [if_pos hSk]; exact hn, hr, hl⟩
    rw [hSk] at q
    exact q
  | none =>
    dsimp only
    have hnk : k ∉ es.toList.map txOf := fun z => by
      obtain ⟨e, he, q⟩ := (goodS_mem (P := P) (w := w) g k).1 z
      have c := List.findIdx?_eq_none_iff.mp hfi e he
      rw [q] at c
      cases c
    have hSk : m k = false := by
      cases q : m k with
      | false => rfl
      | true => exact absurd ((hm k).1 q) hnk
    have hgw : ∀ (b : Bool) {s₁ : Shared} {Q' : Unit → Shared → Prop}, Q' () s₁ → wpAny (model P w) A (match b with | true => rule "set.scan.the-table-gave-way" | false => pure ()) Q' E s₁ :=
      fun b s₁ Q' q => by cases b <;> first | exact wpAny_pure q | exact wpAny_rule q
    have pm := layNew_perm t es ((PySem.strKind P w).hash k) (.str k tk)
    have hf1 := layNew_fits t es ((PySem.strKind P w).hash k) (.str k tk)
    have hr1 := layNew_ris t es ((PySem.strKind P w).hash k) (.str k tk) hr
    have hl1 := layNew_led t es ((PySem.strKind P w).hash k) (.str k tk)
    generalize layNew t es ((PySem.strKind P w).hash k) (.str k tk) = Z at pm hf1 hr1 hl1 ⊢
    obtain ⟨es1, t1, wasDummy, gave⟩ := Z
    dsimp only at pm hf1 hr1 hl1 ⊢
    rw [Array.toList_push] at pm
    have pc : es1.toList.Perm (((PySem.strKind P w).hash k, Value.str k tk) :: es.toList) := pm.trans (List.perm_append_singleton _ _)
    have pk : (es1.toList.map txOf).Perm (k :: es.toList.map txOf) := pc.map txOf
    have g1 : ∀ e ∈ es1.toList, GoodS P w e := fun e he => by
      rcases List.mem_cons.mp (pc.mem_iff.mp he) with z | z
      · rw [z]; exact ⟨k, tk, rfl, rfl⟩
      · exact g e z
    have nd1 : (es1.toList.map txOf).Nodup := pk.nodup_iff.mpr (List.nodup_cons.mpr ⟨hnk, nd⟩)
    have m1 : ∀ i, (m i || decide (i = k)) = true ↔ i ∈ es1.toList.map txOf := fun i => by
      rw [Bool.or_eq_true, decide_eq_true_eq, hm i, pk.mem_iff, List.mem_cons]
      exact Or.comm
    have hsz : es1.size = n + 1 := by rw [← Array.length_toList, pc.length_eq, List.length_cons, Array.length_toList, hn]
    have hb1 : es1.size < scanBound := by rw [hsz]; exact room
    have hled : w.params.followText "set-order" = true ∨ t1.led = true := hl.imp id fun z => by rw [hl1]; exact z
    have fin : ∀ h', Heap.SameBut a s.heap h' → TSet P w h' a (fun j => m j || decide (j = k)) es1.size → Q true { s with heap := h' } := fun h' sb r => by
      have q := hQ h' sb
      rw [hSk] at q
      rw [hsz] at r
      exact q r
    refine wpAny_bind (hgw _ ?_)
    split
    · refine wpAny_bind ?_
      rw [hashByValue_scannable 8 hsc]
      refine wpAny_pure ?_
      refine tset_tail ?_ ho hex hd g1 nd1 m1 hb1 ?_ ?_ ?_ ?_
      · intro b s₁ Q' q; cases b <;> first | exact wpAny_pure q | exact wpAny_rule q
      · first | (split <;> first | exact hf1 | exact SetTable.fits_plain_off hf1) | exact hf1
      · first | (split <;> exact hr1) | exact hr1
      · first | (split <;> exact hled) | exact hled
      · intro h' sb r; dsimp only; exact wpAny_pure (fin h' sb r)
    · refine wpAny_bind (wpAny_pure ?_)
      simp only [↓reduceIte]
      refine tset_tail ?_ ho hex hd g1 nd1 m1 hb1 hf1 hr1 hled ?_
      · intro b s₁ Q' q; cases b <;> first | exact wpAny_pure q | exact wpAny_rule q
      · intro h' sb r; dsimp only; exact wpAny_pure (fin h' sb r)
theorem tset_fresh {h : Heap} {a : Addr} (ho : h.get? a = some { cls := .type "set", dict := none, data := .set #[] 0 (.fresh 0 0 (!w.params.followText "set-order")) }) : TSet P w h a (fun _ => false) 0 :=
  ⟨_, #[], 0, _, ho, ⟨rfl, rfl, rfl⟩, rfl, (fun e he => by simp at he), (by simp), (fun k => by simp), (by decide), (by rfl), rfl, List.Pairwise.nil, by
    show _ ∨ (!w.params.followText "set-order") = true
    cases w.params.followText "set-order"
    · exact .inr rfl
    · exact .inl rfl⟩
/-- the members among the first i of xs -/
def inS (xs : List Str) (i : Nat) (k : Str) : Bool := decide (k ∈ xs.take i)
theorem inS_next {xs : List Str} {i : Nat} {x : Str} (h : xs[i]? = some x) (k : Str) : (inS xs i k || decide (k = x)) = inS xs (i + 1) k := by
  unfold inS
  rw [take_ok h, Bool.eq_iff_iff]
  simp
theorem tset_loop {I : Addr} {fp wr : List Addr} {G : Array GenState → Array GenState → Prop} {n : Nat} {Pv : Nat → Value → Prop} {St : Nat → Shared → Prop} {R : Result → Shared → Prop}
    (W : WalksS P w A.in1 I fp wr G n Pv St) (S : Addr) (hSf : S ∉ fp) (xs : List Str) (hn : n = xs.length) (hfew : xs.length < 4000) (hval : ∀ i v, Pv i v → ∃ x t, xs[i]? = some x ∧ v = .str x t) :
    ∀ (k i : Nat) (s : Shared), n - i = k → i ≤ n → St i s → (∃ c, c ≤ i ∧ TSet P w s.heap S (inS xs i) c) →
      (∀ s' c, Moved (S :: wr) G s s' → c ≤ n → TSet P w s'.heap S (inS xs n) c → R (.ok (.ret .none)) s') →
      codeAny (model P w) A (.builtin "set.update.loop" ⟨[.ref S, .ref I], []⟩) R s := by
  have hSw : S ∉ wr := fun h => hSf (W.sub _ h)
  have hsub : ∀ b ∈ wr, b ∈ S :: wr := fun b hb => List.mem_cons_of_mem _ hb
  intro k
  induction k with
  | zero =>
    intro i s hk hi hst ⟨c, hc, hS⟩ hR
    have hin : i = n := by omega
    subst hin
    refine codeAny_builtin F.entry_set_update_loop ?_
    rw [Around.under_plainId F.plain_set_update_loop _]
    show wpAny _ A.in1 (pyNext (.ref I) >>= _) _ _ s
    refine wpAny_bind (W.done s _ _ hst fun s' hm => ?_)
    show wpAny _ A.in1 (ret Value.none) _ _ s'
    exact wpAny_pure (hR s' c (hm.mono hsub) hc (hS.keep fun o e => hm.heap S o hSw e))
  | succ k ih =>
    intro i s hk hi hst ⟨c, hc, hS⟩ hR
    have hlt : i < n := by omega
    refine codeAny_builtin F.entry_set_update_loop ?_
    rw [Around.under_plainId F.plain_set_update_loop _]
    show wpAny _ A.in1 (pyNext (.ref I) >>= _) _ _ s
    refine wpAny_bind (W.item i s _ _ hlt hst fun v s' hP hst' hm => ?_)
    obtain ⟨x, t, hx, rfl⟩ := hval i v hP
    have hS' : TSet P w s'.heap S (inS xs i) c := hS.keep fun o e => hm.heap S o hSw e
    show wpAny _ A.in1 (holding [Value.str x t] (setAdd S (.str x t)) >>= _) _ _ s'
    refine wpAny_bind (wpAny_holding ?_)
    unfold setAdd
    refine wpAny_holding ?_
    refine wpAny_bind ((PySem.strKind P w).pyHash (k := x) (strKind_is _ _ _ _) ?_)
    refine tset_add (s := { s' with toks := s'.toks + 1 }) hS' (by unfold scanBound; omega) fun h' hsb hS2 => ?_
    have e : (fun j => inS xs i j || decide (j = x)) = inS xs (i + 1) := funext (inS_next hx)
    rw [e] at hS2
    refine wpAny_pure ⟨plainId_quiet F.plain_set_update_loop _, ih (i + 1) _ (by omega) hlt (W.frame _ s' _ _ hst' (Nat.le_succ _) fun b hb o e => ?_) ⟨_, ?_, hS2⟩ fun s'' c'' hm'' hc'' hS'' => ?_⟩
    · rw [hsb.2 b (fun h : b = S => hSf (by rw [← h]; exact hb))]; exact e
    · split <;> omega
    · refine hR s'' c'' (Moved.trans W.gtrans ((hm.mono hsub).then_heap (Nat.le_succ _) fun b o hb e => ?_) hm'') hc'' hS''
      rw [hsb.2 b (fun h : b = S => hb (by rw [h]; exact List.mem_cons_self))]; exact e
set_option maxRecDepth 100000 in
set_option maxHeartbeats 3200000 in
/-- set(xs), xs a list of texts -/
theorem call_set_texts {l : Addr} {items : Array Value} (xs : List Str) {Q : Value → Shared → Prop} (hh : A.handled = none) (hl : s.heap.IsList l items) (hit : StrsAre items.toList xs) (hfew : xs.length < 4000)
    (h : ∀ (h' : Heap) (tk : Nat) c, c ≤ xs.length → TSet P w h' s.heap.objs.size (inS xs xs.length) c → (∀ b o, s.heap.get? b = some o → h'.get? b = some o) → Q (.ref s.heap.objs.size) { s with heap := h', toks := tk }) :
    wpAny (model P w) A (call (.type "set") [.ref l]) Q E s := by
  have hisz : items.size = xs.length := by rw [← StrsAre.len_eq hit, Array.length_toList]
  obtain ⟨c, tl, hmro⟩ := F.called_set.mro
  have hmade := F.called_set.made
  have hsub := F.called_set.sub
  refine wpAny_call (codeAny_of_tree ?_)
  show wpAny _ _ (callAny (.type "set") _) _ _ _
  refine wpAny_pure ⟨Code.quiet_builtin _ (by decide +kernel), codeAny_builtin F.entry_type_call ?_⟩
  rw [Around.under_plain (weight_type_call_type "set" [.ref l] []) rfl]
  have h1 := F.called_set.notType
  have h2 := F.called_set.canCreate
  have hct := F.typeCall_set_1 (.ref l)
  repeat (any_goals (first | assumption | wp_step))
  refine codeAny_mono (code_set_led1 (.ref l) (E := E) (Q₁ := fun obj s₁ => obj = .ref s.heap.objs.size ∧ s₁ = { s with heap := s.heap.push { cls := .type "set", dict := none, data := .set #[] 0 (.fresh 0 0 (!w.params.followText "set-order")) } }) ⟨rfl, rfl⟩) fun r s₁ hr => ?_
  cases r with
  | error e => exact hr
  | ok fl =>
    cases fl with
    | ret obj =>
      obtain ⟨rfl, rfl⟩ := hr
      have hS : (s.heap.push { cls := .type "set", dict := none, data := .set #[] 0 (.fresh 0 0 (!w.params.followText "set-order")) }).get? s.heap.objs.size = some { cls := .type "set", dict := none, data := .set #[] 0 (.fresh 0 0 (!w.params.followText "set-order")) } := Heap.get?_push_size _ rfl
      have hT : Shared.TypeIs { s with heap := s.heap.push { cls := .type "set", dict := none, data := .set #[] 0 (.fresh 0 0 (!w.params.followText "set-order")) } } (.ref s.heap.objs.size) "set" := ⟨_, hS, rfl⟩
      have hli := F.called_set.init.lookup
      have hbi := F.called_set.init.bind (.ref s.heap.objs.size)
      repeat (any_goals (first | assumption | wp_step))
      refine codeAny_mono (codeAny_call_builtin (R := wants (fun r s₂ => r = .none ∧ ∃ h' tk c, s₂ = { s with heap := h', toks := tk } ∧ c ≤ xs.length ∧ TSet P w h' s.heap.objs.size (inS xs xs.length) c ∧
          (∀ b o, s.heap.get? b = some o → h'.get? b = some o)) E) F.called_set.init.plain F.entry_set_init (check_set_init_1 hT ?_)) fun r₂ s₂ hr₂ => ?_
      · obtain ⟨ol, hol, hcl, nl, hdl⟩ := hl
        obtain ⟨ocls, odict, odata, oslots⟩ := ol
        simp only at hcl hdl
        subst hcl; subst hdl
        have hol' : (s.heap.push { cls := .type "set", dict := none, data := .set #[] 0 (.fresh 0 0 (!w.params.followText "set-order")) }).get? l = some { cls := .type "list", dict := odict, data := .seq items nl, slots := oslots } := Heap.get?_push_of_some _ hol
        have hsls := F.sub_list_set
        have hslf := F.sub_list_frozenset
        have hne : (Value.type "list" == Value.type "dict") = false := by decide
        have hl1 : (s.heap.push { cls := .type "set", dict := none, data := .set #[] 0 (.fresh 0 0 (!w.params.followText "set-order")) }).IsList l items := ⟨_, hol', rfl, nl, rfl⟩
        unfold Builtin.«set.__init__» noKeywords Builtin.Frozenset.updateFrom
        generalize hPI : pyIter = PI
        wp_walk
        subst hPI
        refine wpAny_pyIter_list hl1 ?_
        refine wpAny_bind (wpAny_runValue ?_)
        have hlS : l < s.heap.objs.size := Heap.lt_size hol
        have hh3 : A.in1.in1.in1.handled = none := by simp [hh]
        have hneI : l ≠ (s.heap.push { cls := .type "set", dict := none, data := .set #[] 0 (.fresh 0 0 (!w.params.followText "set-order")) }).objs.size := by
          rw [Heap.size_push]; exact Nat.ne_of_lt (Nat.lt_succ_of_lt hlS)
        have hSf : s.heap.objs.size ∉ [(s.heap.push { cls := .type "set", dict := none, data := .set #[] 0 (.fresh 0 0 (!w.params.followText "set-order")) }).objs.size, l] := by
          rw [Heap.size_push]; simp only [List.mem_cons, List.mem_singleton, List.not_mem_nil, or_false, not_or]
          exact ⟨Nat.ne_of_lt (Nat.lt_succ_self _), Nat.ne_of_gt hlS⟩
        have hval : ∀ (i : Nat) (v : Value), items[i]? = some v → ∃ x t, xs[i]? = some x ∧ v = .str x t := fun i v hv => by
          obtain ⟨t, e⟩ := SS.strs_at hit i v (by rw [Array.getElem?_toList]; exact hv)
          have hi : i < xs.length := by
            rw [← hisz]
            exact (Array.getElem?_eq_some_iff.mp hv).1
          exact ⟨xs[i], t, List.getElem?_eq_getElem hi, by rw [e, List.getD_eq_getElem?_getD, List.getElem?_eq_getElem hi] <;> rfl⟩
        refine tset_loop ((Walks.list hh3 _ l hneI items).toS) s.heap.objs.size
          hSf xs hisz hfew hval (items.size - 0) 0 _ (by omega) (Nat.zero_le _)
          ⟨⟨_, Heap.get?_push_size _ rfl, rfl, rfl⟩, (hl1.push _)⟩ ?hS0 ?hR
        case hS0 =>
          have hget : ((s.heap.push { cls := .type "set", dict := none, data := .set #[] 0 (.fresh 0 0 (!w.params.followText "set-order")) }).push { cls := .type "list_iterator", data := .fields #[.ref l, .int 0 0] }).get? s.heap.objs.size
              = some { cls := .type "set", dict := none, data := .set #[] 0 (.fresh 0 0 (!w.params.followText "set-order")) } := Heap.get?_push_of_some _ hS
          exact ⟨0, Nat.le_refl _, tset_fresh hget⟩
        case hR =>
          intro s' c hm hc hS'
          obtain ⟨h', g2, d', tk', os'⟩ := s'
          have eg : g2 = s.gens := hm.gens
          have ed : d' = s.drawn := hm.drawn
          have eo : os' = s.os := hm.os
          subst eg; subst ed; subst eo
          show wpAny _ _ _ _ _ _
          refine wpAny_pure ?_
          show wpAny _ _ (ret Value.none) _ _ _
          rw [hisz] at hS' hc
          refine wpAny_pure ⟨rfl, h', tk', c, rfl, hc, hS', fun b o e => ?_⟩
          have hb := Heap.lt_size e
          have hb1 : b ≠ s.heap.objs.size := Nat.ne_of_lt hb
          have hb2 : b ≠ (s.heap.push { cls := .type "set", dict := none, data := .set #[] 0 (.fresh 0 0 (!w.params.followText "set-order")) }).objs.size := by
            rw [Heap.size_push]; exact Nat.ne_of_lt (Nat.lt_succ_of_lt hb)
          exact hm.heap b o (by simp only [List.mem_cons, List.mem_singleton, List.not_mem_nil, or_false, not_or]; exact ⟨hb1, hb2⟩) (Heap.get?_push_of_some _ (Heap.get?_push_of_some _ e))
      · cases r₂ with
        | error e => exact hr₂
        | ok fl₂ =>
          cases fl₂ with
          | ret r =>
            obtain ⟨rfl, h', tk, c, rfl, hc, hS', hk'⟩ := hr₂
            repeat (any_goals (first | assumption | wp_step))
            exact h _ _ _ hc hS' hk'
          | _ => exact hr₂.elim
    | _ => exact hr.elim
theorem strs_of : ∀ (l : List Value), (∀ v ∈ l, ∃ x tk, v = Value.str x tk) → StrsAre l (l.map fun v => match v with | .str x _ => x | _ => Str.empty)
  | [], _ => .nil
  | v :: l, h => by
    obtain ⟨x, tk, rfl⟩ := h v List.mem_cons_self
    exact .cons x tk (strs_of l fun u hu => h u (List.mem_cons_of_mem _ hu))
/-- sorted(a set of texts) -/
theorem sorted_texts {m : Str → Bool} {n : Nat} {Q : Value → Shared → Prop} (R : TSet P w s.heap a m n) (hh : A.handled = none) (h64 : n < 100000)
    (hQ : ∀ s' p (out : Array Value) (c : Nat) (ns : List Str), (∀ b o, s.heap.get? b = some o → s'.heap.get? b = some o) → s'.gens = s.gens → s'.os = s.os → s.heap.objs.size ≤ p →
      s'.heap.get? p = some (seqObj "list" out c) → StrsAre out.toList ns → sortedS ns = true → ns.Nodup → (∀ k, k ∈ ns ↔ m k = true) → ns.length = n → Q (.ref p) s') :
    wpAny (model P w) A (call (.builtin "sorted") [.ref a]) Q E s := by
  obtain ⟨o, es, ep, t, ho, hex, hd, g, nd, hm, hb, hf, hn, hr, hl⟩ := R
  refine Calls.call_function_entry kind_sorted plain_sorted entry_sorted (args_sorted1 _) ?_
  unfold Builtin.«sorted»
  refine wpAny_bind (m := checkCount "sorted" 1 1 _) (wpAny_pure ?_)
  refine wpAny_bind (collect_set (A := A.in1) hh ⟨o, ho, hex.1, hd⟩ hf hb hr hl fun s1 vs k1 hz g1 o1 pm => ?_)
  have hvl : vs.length = n := by rw [pm.length_eq, List.length_map, Array.length_toList]; exact hn
  have hI : StrsAre vs (vs.map fun v => match v with | .str x _ => x | _ => Str.empty) := strs_of vs fun v hv => by
    obtain ⟨e, he, q⟩ := List.mem_map.mp (pm.mem_iff.mp hv)
    obtain ⟨k, tk, h1, _⟩ := g e he
    exact ⟨k, tk, by rw [← q]; exact h1⟩
  have pk : (vs.map fun v => match v with | .str x _ => x | _ => Str.empty).Perm (es.toList.map txOf) := by
    have q := pm.map fun v => match v with | .str x _ => x | _ => Str.empty
    rw [List.map_map] at q
    exact q
  refine wpAny_bind (wpAny_newList ?_ (by rw [hvl, sizeLine_eq]; omega))
  have hoL : (s1.heap.push (seqObj "list" vs.toArray 0)).get? s1.heap.objs.size = some (seqObj "list" vs.toArray 0) := Heap.get?_push_size _ rfl
  show wpAny _ _ _ _ _ { s1 with heap := s1.heap.push (seqObj "list" vs.toArray 0) }
  refine wpAny_bind (wpAny_holding (wpAny_call_entry PyProof.Rows.slot_list_sort ⟨_, hoL, rfl⟩ PyProof.Rows.entry_list_sort
    (PyProof.Rows.list_sort_treeKAny strKind_oneLt (s := { s1 with heap := s1.heap.push (seqObj "list" vs.toArray 0) }) hoL hI.keysOf (fun v₁ v₂ rest e => keyKind_strs (by rw [← e]; exact hI)) (by rw [hvl]; exact Nat.le_of_lt (Nat.lt_of_lt_of_le h64 (by decide))) fun st' hp hs => ⟨_, rfl, ?_⟩)
    (PyProof.Rows.args_list_sort _)))
  obtain ⟨ys, a1, a2, a3⟩ := sorted_out_str hI hp hs
  obtain ⟨c, hc⟩ := PyProof.Rows.sortedHeap_at (vs := vs) (out := (arrOf st').map (·.2)) hoL
  have pn : ys.Perm (es.toList.map txOf) := a2.trans pk
  refine wpAny_pure ⟨_, rfl, hQ _ s1.heap.objs.size _ c ys (fun b u e => ?_) g1 o1 hz hc a1 a3 (pn.nodup_iff.mpr nd) (fun k => by rw [pn.mem_iff, ← hm k]) ?_⟩
  · have q := k1 b u e
    have hlt := Heap.lt_size q
    show (sortedHeap (s1.heap.push (seqObj "list" vs.toArray 0)) s1.heap.objs.size vs _).get? b = some u
    rw [sortedHeap_old (Nat.ne_of_lt hlt) (by rw [Heap.size_push]; exact Nat.lt_succ_of_lt hlt)]
    exact Heap.get?_push_of_some _ q
  · rw [pn.length_eq, List.length_map, Array.length_toList]; exact hn
end
/-- a set of texts on the hand layer's heap -/
def TSetO (P : Program) (w : World) (a : Addr) (m : Str → Bool) (n : Nat) : HO := .ext fun h => TSet P w h a m n
theorem tsetO_new {P : Program} {w : World} {H : Hp} {h : Heap} {a : Addr} {m : Str → Bool} {n : Nat} (R : TSet P w h a m n) : ObjOk P w H h a (TSetO P w a m n) := by
  have ⟨o, es, ep, t, ho, r⟩ := R
  exact ⟨R, ⟨o, ho⟩, fun h1 h2 p k => TSet.keep p k⟩
section
variable {X : Cx}
/-- set(xs), xs a list of texts -/
def rSetOfS (K : PySem.W.Frag) (P : Program) (w : World) : List V → Hp → VK → Prop := fun xs H Q => ∃ (l : Addr) (ks : List Str), xs = [V.ref l] ∧ SqL K H l (ks.map V.str) ∧ ks.length < 4000 ∧
  ∀ a c, c ≤ ks.length → H a = none → Q (.ref a) (upd H a (TSetO P w a (fun k => decide (k ∈ ks)) c))
theorem cr_setOfS (hc : X.calm = true) : CallR X (.type "set") (rSetOfS X.K X.prog X.w) := by
  intro pins s σ H xs us Q I r h
  obtain ⟨l, ks, rfl, hl, hf, q⟩ := h
  rw [Vals.ref1 r]
  obtain ⟨its, rv, pl, hz⟩ := I.list hl
  have hn : H s.heap.objs.size = none := I.hok.fresh (Nat.le_refl _)
  refine call_set_texts (P := X.prog) (w := X.w) ks (I.ok.hd hc) pl.isList (by simpa using rv.strs) hf fun h' tk c hc' R k => ?_
  have e : inS ks ks.length = fun k => decide (k ∈ ks) := by
    funext k
    unfold inS
    rw [List.take_length]
  rw [e] at R
  exact ⟨.ref s.heap.objs.size, upd H s.heap.objs.size (TSetO X.prog X.w s.heap.objs.size _ c), I.laid (t' := tk) k (Nat.le_refl _) (tsetO_new R), rfl, q _ c hc' hn⟩
/-- sorted(set of texts) -/
def rSortedSS (P : Program) (w : World) : List V → Hp → VK → Prop := fun vs H Q => ∃ (a : Addr) (m : Str → Bool) (n : Nat), vs = [V.ref a] ∧ H a = some (TSetO P w a m n) ∧ (∃ D : List Str, D.length < 100000 ∧ ∀ k, m k = true → k ∈ D) ∧
  ∀ (ys : List Str) (p : Addr), sortedS ys = true → ys.Nodup → (∀ k, k ∈ ys ↔ m k = true) → H p = none → Q (.ref p) (upd H p (.lst (ys.map V.str)))
theorem cr_sortedSS (hc : X.calm = true) : CallR X (.builtin "sorted") (rSortedSS X.prog X.w) := by
  intro pins s σ H vs us Q I r h
  obtain ⟨a, m, n, rfl, ha, ⟨D, hD1, hD2⟩, q⟩ := h
  have R : TSet X.prog X.w s.heap a m n := (I.hok a _ ha).1
  have h64 : n < 100000 := by
    obtain ⟨_, es, _, _, _, _, _, _, nd, hm, _, _, hn, _⟩ := id R
    have := nodup_few nd fun x hx => hD2 x ((hm x).mpr hx)
    rw [List.length_map, Array.length_toList, hn] at this
    omega
  rw [Vals.ref1 r]
  refine sorted_texts R (I.ok.hd hc) h64 fun s' p out c ys k g o hp hg hs h1 h2 h3 h4 => ?_
  have hlen : (ys.map V.str).length ≤ sizeLine := by rw [List.length_map, sizeLine_eq]; omega
  have hn : H p = none := I.hok.fresh hp
  have J : Inv X pins σ (upd H p (.lst (ys.map V.str))) { s with heap := s'.heap, gens := s'.gens, drawn := s'.drawn, toks := s'.toks } :=
    I.call (ch := []) (Un.laid k hp hn) (I.hok.laid k hp ⟨hlen, out.toList, c, vals_of_strs hs, hg⟩) (by rw [g]; exact I.bare) (fun _ z => nomatch z)
  have e : s' = { s with heap := s'.heap, gens := s'.gens, drawn := s'.drawn, toks := s'.toks } := by
    cases s'
    cases s
    cases o
    rfl
  rw [e]
  exact ⟨.ref p, _, J, rfl, q ys p h1 h2 h3 hn⟩
end
end Lw

namespace Lw
open PySem L2
open PyProof.Rows (envOfC)
def top (i : Nat) : Stmt := PySem.Challenge.pw_layerwharf_k05_collector.main.body.getD i (.Pass ⟨0, 0, 0, 0⟩)
abbrev s__wall : Stmt := top 0
abbrev n__wall : List Str := ["k"]
theorem sc__wall : FnScope n__wall ["k"] (defScope s__wall) := ⟨rfl, rfl, rfl, by decide +kernel, rfl, by decide +kernel, by decide +kernel⟩
abbrev s_Collector___init__ : Stmt := inClass (top 2) 0
abbrev n_Collector___init__ : List Str := ["self", "store"]
theorem sc_Collector___init__ : FnScope n_Collector___init__ ["self", "store"] (defScope s_Collector___init__) := ⟨rfl, rfl, rfl, by decide +kernel, rfl, by decide +kernel, by decide +kernel⟩
abbrev s_Collector_stop : Stmt := inClass (top 2) 1
abbrev n_Collector_stop : List Str := ["self"]
theorem sc_Collector_stop : FnScope n_Collector_stop ["self"] (defScope s_Collector_stop) := ⟨rfl, rfl, rfl, by decide +kernel, rfl, by decide +kernel, by decide +kernel⟩
abbrev s_Collector_shade : Stmt := inClass (top 2) 2
abbrev n_Collector_shade : List Str := ["self", "address", "other"]
theorem sc_Collector_shade : FnScope n_Collector_shade ["self", "address"] (defScope s_Collector_shade) := ⟨rfl, rfl, rfl, by decide +kernel, rfl, by decide +kernel, by decide +kernel⟩
abbrev s_Collector_step : Stmt := inClass (top 2) 3
abbrev n_Collector_step : List Str := ["self", "roots"]
theorem sc_Collector_step : FnScope n_Collector_step ["self", "roots"] (defScope s_Collector_step) := ⟨rfl, rfl, rfl, by decide +kernel, rfl, by decide +kernel, by decide +kernel⟩
abbrev s_Collector_mark_one : Stmt := inClass (top 2) 4
abbrev n_Collector_mark_one : List Str := ["self", "address"]
theorem sc_Collector_mark_one : FnScope n_Collector_mark_one ["self"] (defScope s_Collector_mark_one) := ⟨rfl, rfl, rfl, by decide +kernel, rfl, by decide +kernel, by decide +kernel⟩
abbrev s_Collector_sweep_one : Stmt := inClass (top 2) 5
abbrev n_Collector_sweep_one : List Str := ["self", "address"]
theorem sc_Collector_sweep_one : FnScope n_Collector_sweep_one ["self"] (defScope s_Collector_sweep_one) := ⟨rfl, rfl, rfl, by decide +kernel, rfl, by decide +kernel, by decide +kernel⟩
abbrev s_address_of : Stmt := top 7
abbrev n_address_of : List Str := ["kind", "text", "value", "character"]
theorem sc_address_of : FnScope n_address_of ["kind", "text"] (defScope s_address_of) := ⟨rfl, rfl, rfl, by decide +kernel, rfl, by decide +kernel, by decide +kernel⟩
abbrev s_is_address : Stmt := top 8
abbrev n_is_address : List Str := ["text", "character"]
theorem sc_is_address : FnScope n_is_address ["text"] (defScope s_is_address) := ⟨rfl, rfl, rfl, by decide +kernel, rfl, by decide +kernel, by decide +kernel⟩
abbrev s_Malformed___init__ : Stmt := inClass (top 11) 0
abbrev n_Malformed___init__ : List Str := ["self", "line"]
theorem sc_Malformed___init__ : FnScope n_Malformed___init__ ["self", "line"] (defScope s_Malformed___init__) := ⟨rfl, rfl, rfl, by decide +kernel, rfl, by decide +kernel, by decide +kernel⟩
abbrev s_image_text : Stmt := top 15
abbrev n_image_text : List Str := ["layers", "address"]
theorem sc_image_text : FnScope n_image_text ["layers"] (defScope s_image_text) := ⟨rfl, rfl, rfl, by decide +kernel, rfl, by decide +kernel, by decide +kernel⟩
abbrev s_bundle_text : Stmt := top 16
abbrev n_bundle_text : List Str := ["entries", "platform", "address"]
theorem sc_bundle_text : FnScope n_bundle_text ["entries"] (defScope s_bundle_text) := ⟨rfl, rfl, rfl, by decide +kernel, rfl, by decide +kernel, by decide +kernel⟩
abbrev s_lines_of : Stmt := top 17
abbrev n_lines_of : List Str := ["text", "head", "lines"]
theorem sc_lines_of : FnScope n_lines_of ["text", "head"] (defScope s_lines_of) := ⟨rfl, rfl, rfl, by decide +kernel, rfl, by decide +kernel, by decide +kernel⟩
abbrev s_read_image : Stmt := top 18
abbrev n_read_image : List Str := ["text", "lines", "index"]
theorem sc_read_image : FnScope n_read_image ["text"] (defScope s_read_image) := ⟨rfl, rfl, rfl, by decide +kernel, rfl, by decide +kernel, by decide +kernel⟩
abbrev s_is_platform : Stmt := top 19
abbrev n_is_platform : List Str := ["word", "character"]
theorem sc_is_platform : FnScope n_is_platform ["word"] (defScope s_is_platform) := ⟨rfl, rfl, rfl, by decide +kernel, rfl, by decide +kernel, by decide +kernel⟩
abbrev s_read_bundle : Stmt := top 20
abbrev n_read_bundle : List Str := ["text", "lines", "entries", "seen", "index", "words"]
theorem sc_read_bundle : FnScope n_read_bundle ["text"] (defScope s_read_bundle) := ⟨rfl, rfl, rfl, by decide +kernel, rfl, by decide +kernel, by decide +kernel⟩
abbrev s_references : Stmt := top 21
abbrev n_references : List Str := ["kind", "text", "platform", "address"]
theorem sc_references : FnScope n_references ["kind", "text"] (defScope s_references) := ⟨rfl, rfl, rfl, by decide +kernel, rfl, by decide +kernel, by decide +kernel⟩
abbrev s_Store___init__ : Stmt := inClass (top 23) 0
abbrev n_Store___init__ : List Str := ["self"]
theorem sc_Store___init__ : FnScope n_Store___init__ ["self"] (defScope s_Store___init__) := ⟨rfl, rfl, rfl, by decide +kernel, rfl, by decide +kernel, by decide +kernel⟩
abbrev s_Store_keep : Stmt := inClass (top 23) 1
abbrev n_Store_keep : List Str := ["self", "kind", "text", "address"]
theorem sc_Store_keep : FnScope n_Store_keep ["self", "kind", "text"] (defScope s_Store_keep) := ⟨rfl, rfl, rfl, by decide +kernel, rfl, by decide +kernel, by decide +kernel⟩
abbrev s_Store_remove_blob : Stmt := inClass (top 23) 3
abbrev n_Store_remove_blob : List Str := ["self", "address"]
theorem sc_Store_remove_blob : FnScope n_Store_remove_blob ["self", "address"] (defScope s_Store_remove_blob) := ⟨rfl, rfl, rfl, by decide +kernel, rfl, by decide +kernel, by decide +kernel⟩
abbrev s_Store_addresses : Stmt := inClass (top 23) 4
abbrev n_Store_addresses : List Str := ["self"]
theorem sc_Store_addresses : FnScope n_Store_addresses ["self"] (defScope s_Store_addresses) := ⟨rfl, rfl, rfl, by decide +kernel, rfl, by decide +kernel, by decide +kernel⟩
abbrev s_Store_below : Stmt := inClass (top 23) 5
abbrev n_Store_below : List Str := ["self", "address", "kind", "text"]
theorem sc_Store_below : FnScope n_Store_below ["self", "address"] (defScope s_Store_below) := ⟨rfl, rfl, rfl, by decide +kernel, rfl, by decide +kernel, by decide +kernel⟩
abbrev s_Store_closure : Stmt := inClass (top 23) 7
abbrev n_Store_closure : List Str := ["self", "address", "found", "other", "inner"]
theorem sc_Store_closure : FnScope n_Store_closure ["self", "address"] (defScope s_Store_closure) := ⟨rfl, rfl, rfl, by decide +kernel, rfl, by decide +kernel, by decide +kernel⟩
abbrev s__law_state : Stmt := top 25
abbrev n__law_state : List Str := ["_law_script", "_law_cells", "_law_cell"]
theorem sc__law_state : FnScope n__law_state ["_law_script"] (defScope s__law_state) := ⟨rfl, rfl, rfl, by decide +kernel, rfl, by decide +kernel, by decide +kernel⟩
abbrev s__law_take : Stmt := top 26
abbrev n__law_take : List Str := ["_law_state_here", "_law_most", "_law_cells", "_law_at", "_law_cell", "_law_mixed"]
theorem sc__law_take : FnScope n__law_take ["_law_state_here", "_law_most"] (defScope s__law_take) := ⟨rfl, rfl, rfl, by decide +kernel, rfl, by decide +kernel, by decide +kernel⟩
abbrev s__law_text : Stmt := top 28
abbrev n__law_text : List Str := ["_law_state_here", "_law_most", "_law_k"]
theorem sc__law_text : FnScope n__law_text ["_law_state_here", "_law_most"] (defScope s__law_text) := ⟨rfl, rfl, rfl, by decide +kernel, rfl, by decide +kernel, by decide +kernel⟩
abbrev s__law_some : Stmt := top 29
abbrev n__law_some : List Str := ["_law_state_here", "_law_known", "_law_most", "_law_k"]
theorem sc__law_some : FnScope n__law_some ["_law_state_here", "_law_known", "_law_most"] (defScope s__law_some) := ⟨rfl, rfl, rfl, by decide +kernel, rfl, by decide +kernel, by decide +kernel⟩
abbrev s__law_fill : Stmt := top 30
abbrev n__law_fill : List Str := ["_law_state_here", "_law_store", "_law_below", "_law_layers", "_law_k", "_law_images", "_law_refs"]
theorem sc__law_fill : FnScope n__law_fill ["_law_state_here", "_law_store", "_law_below"] (defScope s__law_fill) := ⟨rfl, rfl, rfl, by decide +kernel, rfl, by decide +kernel, by decide +kernel⟩
abbrev s__law_closure : Stmt := top 31
abbrev n__law_closure : List Str := ["_law_below", "_law_address", "_law_found", "_law_other", "_law_inner"]
theorem sc__law_closure : FnScope n__law_closure ["_law_below", "_law_address"] (defScope s__law_closure) := ⟨rfl, rfl, rfl, by decide +kernel, rfl, by decide +kernel, by decide +kernel⟩
abbrev s__law_is_whole : Stmt := top 32
abbrev n__law_is_whole : List Str := ["_law_store", "_law_below", "_law_address", "_law_there", "_law_other"]
theorem sc__law_is_whole : FnScope n__law_is_whole ["_law_store", "_law_below", "_law_address"] (defScope s__law_is_whole) := ⟨rfl, rfl, rfl, by decide +kernel, rfl, by decide +kernel, by decide +kernel⟩
abbrev s__law_step : Stmt := top 33
abbrev n__law_step : List Str := ["_law_phase", "_law_lists", "_law_blobs", "_law_below", "_law_roots", "_law_todo", "_law_marked", "_law_doomed", "_law_address", "_law_a"]
theorem sc__law_step : FnScope n__law_step ["_law_phase", "_law_lists", "_law_blobs", "_law_below", "_law_roots"] (defScope s__law_step) := ⟨rfl, rfl, rfl, by decide +kernel, rfl, by decide +kernel, by decide +kernel⟩
abbrev s_law : Stmt := top 34
abbrev n_law : List Str := ["_law_script", "_law_state_here", "_law_store", "_law_below", "_law_roots", "_law_collector", "_law_phase", "_law_lists", "_law_blobs", "_law_turn", "_law_kind", "_law_address", "_law_word"]
theorem sc_law : FnScope n_law ["_law_script"] (defScope s_law) := ⟨rfl, rfl, rfl, by decide +kernel, rfl, by decide +kernel, by decide +kernel⟩
/-- the fields of Collector -/
def f_Collector (x_store x_phase x_marked x_todo x_doomed : V) : List (Str × V) := [("store", x_store), ("phase", x_phase), ("marked", x_marked), ("todo", x_todo), ("doomed", x_doomed)]
theorem f_Collector_store {x_store x_phase x_marked x_todo x_doomed : V} : (f_Collector x_store x_phase x_marked x_todo x_doomed).lookup ("store" : Str) = some x_store := lk_eq
theorem f_Collector_put_store {x_store x_phase x_marked x_todo x_doomed y : V} : putF "store" y (f_Collector x_store x_phase x_marked x_todo x_doomed) = f_Collector y x_phase x_marked x_todo x_doomed := pf_eq
theorem f_Collector_phase {x_store x_phase x_marked x_todo x_doomed : V} : (f_Collector x_store x_phase x_marked x_todo x_doomed).lookup ("phase" : Str) = some x_phase := (lk_ne (by decide +kernel)).trans (lk_eq)
theorem f_Collector_put_phase {x_store x_phase x_marked x_todo x_doomed y : V} : putF "phase" y (f_Collector x_store x_phase x_marked x_todo x_doomed) = f_Collector x_store y x_marked x_todo x_doomed := (pf_ne (by decide +kernel)).trans (congrArg _ (pf_eq))
theorem f_Collector_marked {x_store x_phase x_marked x_todo x_doomed : V} : (f_Collector x_store x_phase x_marked x_todo x_doomed).lookup ("marked" : Str) = some x_marked := (lk_ne (by decide +kernel)).trans ((lk_ne (by decide +kernel)).trans (lk_eq))
theorem f_Collector_put_marked {x_store x_phase x_marked x_todo x_doomed y : V} : putF "marked" y (f_Collector x_store x_phase x_marked x_todo x_doomed) = f_Collector x_store x_phase y x_todo x_doomed := (pf_ne (by decide +kernel)).trans (congrArg _ ((pf_ne (by decide +kernel)).trans (congrArg _ (pf_eq))))
theorem f_Collector_todo {x_store x_phase x_marked x_todo x_doomed : V} : (f_Collector x_store x_phase x_marked x_todo x_doomed).lookup ("todo" : Str) = some x_todo := (lk_ne (by decide +kernel)).trans ((lk_ne (by decide +kernel)).trans ((lk_ne (by decide +kernel)).trans (lk_eq)))
theorem f_Collector_put_todo {x_store x_phase x_marked x_todo x_doomed y : V} : putF "todo" y (f_Collector x_store x_phase x_marked x_todo x_doomed) = f_Collector x_store x_phase x_marked y x_doomed := (pf_ne (by decide +kernel)).trans (congrArg _ ((pf_ne (by decide +kernel)).trans (congrArg _ ((pf_ne (by decide +kernel)).trans (congrArg _ (pf_eq))))))
theorem f_Collector_doomed {x_store x_phase x_marked x_todo x_doomed : V} : (f_Collector x_store x_phase x_marked x_todo x_doomed).lookup ("doomed" : Str) = some x_doomed := (lk_ne (by decide +kernel)).trans ((lk_ne (by decide +kernel)).trans ((lk_ne (by decide +kernel)).trans ((lk_ne (by decide +kernel)).trans (lk_eq))))
theorem f_Collector_put_doomed {x_store x_phase x_marked x_todo x_doomed y : V} : putF "doomed" y (f_Collector x_store x_phase x_marked x_todo x_doomed) = f_Collector x_store x_phase x_marked x_todo y := (pf_ne (by decide +kernel)).trans (congrArg _ ((pf_ne (by decide +kernel)).trans (congrArg _ ((pf_ne (by decide +kernel)).trans (congrArg _ ((pf_ne (by decide +kernel)).trans (congrArg _ (pf_eq))))))))
theorem f_Collector_no {x_store x_phase x_marked x_todo x_doomed : V} {m : Str} (h : (["store", "phase", "marked", "todo", "doomed"] : List Str).all (fun f => !(m == f)) = true) : (f_Collector x_store x_phase x_marked x_todo x_doomed).lookup m = none := lk_no h
theorem f_Collector_len {x_store x_phase x_marked x_todo x_doomed : V} : (f_Collector x_store x_phase x_marked x_todo x_doomed).length < 1000 := (by decide : 5 < 1000)
theorem f_Collector_mk {x_store x_phase x_marked x_todo x_doomed : V} : putF "doomed" x_doomed (putF "todo" x_todo (putF "marked" x_marked (putF "phase" x_phase (putF "store" x_store ([]))))) = f_Collector x_store x_phase x_marked x_todo x_doomed := by
  unfold f_Collector; simp only [putF]; first | rfl | (repeat' (first | rfl | rw [if_neg (by decide +kernel)]))
/-- the fields of Store -/
def f_Store (x_blobs : V) : List (Str × V) := [("blobs", x_blobs)]
theorem f_Store_blobs {x_blobs : V} : (f_Store x_blobs).lookup ("blobs" : Str) = some x_blobs := lk_eq
theorem f_Store_put_blobs {x_blobs y : V} : putF "blobs" y (f_Store x_blobs) = f_Store y := pf_eq
theorem f_Store_no {x_blobs : V} {m : Str} (h : (["blobs"] : List Str).all (fun f => !(m == f)) = true) : (f_Store x_blobs).lookup m = none := lk_no h
theorem f_Store_len {x_blobs : V} : (f_Store x_blobs).length < 1000 := (by decide : 1 < 1000)
theorem f_Store_mk {x_blobs : V} : putF "blobs" x_blobs ([]) = f_Store x_blobs := by
  unfold f_Store; simp only [putF]; first | rfl | (repeat' (first | rfl | rw [if_neg (by decide +kernel)]))
structure Txt (w : World) (K : PySem.W.Frag) (mg : Str → Option Value) (C_Collector : Addr) (C_Store : Addr) (C_Refused : Addr) (C_Malformed : Addr) (a_KINDS : Addr) : Prop where
  cl_Collector : Cls K C_Collector
  na_Collector_store : NoAttr K C_Collector "store"
  na_Collector_phase : NoAttr K C_Collector "phase"
  na_Collector_marked : NoAttr K C_Collector "marked"
  na_Collector_todo : NoAttr K C_Collector "todo"
  na_Collector_doomed : NoAttr K C_Collector "doomed"
  i_Collector : IniAt K mg "Collector" C_Collector "Collector.__init__" s_Collector___init__ ["self", "store"]
  m_Collector_stop : MetAt K C_Collector "stop" "Collector.stop" s_Collector_stop ["self"]
  m_Collector_shade : MetAt K C_Collector "shade" "Collector.shade" s_Collector_shade ["self", "address"]
  m_Collector_step : MetAt K C_Collector "step" "Collector.step" s_Collector_step ["self", "roots"]
  m_Collector_mark_one : MetAt K C_Collector "mark_one" "Collector.mark_one" s_Collector_mark_one ["self"]
  m_Collector_sweep_one : MetAt K C_Collector "sweep_one" "Collector.sweep_one" s_Collector_sweep_one ["self"]
  cl_Store : Cls K C_Store
  na_Store_blobs : NoAttr K C_Store "blobs"
  i_Store : IniAt K mg "Store" C_Store "Store.__init__" s_Store___init__ ["self"]
  m_Store_keep : MetAt K C_Store "keep" "Store.keep" s_Store_keep ["self", "kind", "text"]
  m_Store_remove_blob : MetAt K C_Store "remove_blob" "Store.remove_blob" s_Store_remove_blob ["self", "address"]
  m_Store_addresses : MetAt K C_Store "addresses" "Store.addresses" s_Store_addresses ["self"]
  m_Store_below : MetAt K C_Store "below" "Store.below" s_Store_below ["self", "address"]
  m_Store_closure : MetAt K C_Store "closure" "Store.closure" s_Store_closure ["self", "address"]
  gx_Refused : mg "Refused" = some (.ref C_Refused)
  gx_Malformed : mg "Malformed" = some (.ref C_Malformed)
  ox_Malformed : OexC K C_Malformed
  xf_Malformed : XfC K C_Malformed
  xi_Malformed : XiC K C_Malformed
  te_Malformed : PySem.W.exmOne K (.ref C_Malformed) (.ref C_Malformed) = some true
  na_Malformed_line : PySem.W.findIn K (.ref C_Malformed) "line" = some none
  i_Malformed : ExiAt K mg "Malformed" C_Malformed "Malformed.__init__" s_Malformed___init__ ["self", "line"]
  d__wall : DefAt K mg "_wall" s__wall ["k"]
  d_address_of : DefAt K mg "address_of" s_address_of ["kind", "text"]
  d_is_address : DefAt K mg "is_address" s_is_address ["text"]
  d_image_text : DefAt K mg "image_text" s_image_text ["layers"]
  d_bundle_text : DefAt K mg "bundle_text" s_bundle_text ["entries"]
  d_lines_of : DefAt K mg "lines_of" s_lines_of ["text", "head"]
  d_read_image : DefAt K mg "read_image" s_read_image ["text"]
  d_is_platform : DefAt K mg "is_platform" s_is_platform ["word"]
  d_read_bundle : DefAt K mg "read_bundle" s_read_bundle ["text"]
  d_references : DefAt K mg "references" s_references ["kind", "text"]
  d__law_state : DefAt K mg "_law_state" s__law_state ["_law_script"]
  d__law_take : DefAt K mg "_law_take" s__law_take ["_law_state_here", "_law_most"]
  d__law_text : DefAt K mg "_law_text" s__law_text ["_law_state_here", "_law_most"]
  d__law_some : DefAt K mg "_law_some" s__law_some ["_law_state_here", "_law_known", "_law_most"]
  d__law_fill : DefAt K mg "_law_fill" s__law_fill ["_law_state_here", "_law_store", "_law_below"]
  d__law_closure : DefAt K mg "_law_closure" s__law_closure ["_law_below", "_law_address"]
  d__law_is_whole : DefAt K mg "_law_is_whole" s__law_is_whole ["_law_store", "_law_below", "_law_address"]
  d__law_step : DefAt K mg "_law_step" s__law_step ["_law_phase", "_law_lists", "_law_blobs", "_law_below", "_law_roots"]
  n_abs : mg "abs" = none
  n_int : mg "int" = none
  n_len : mg "len" = none
  n_list : mg "list" = none
  n_ord : mg "ord" = none
  n_range : mg "range" = none
  n_set : mg "set" = none
  n_sorted : mg "sorted" = none
  g_DIGITS : ∃ u, mg "DIGITS" = some u ∧ RelV (.str "0123456789abcdef") u
  g_LETTERS : ∃ u, mg "LETTERS" = some u ∧ RelV (.str "abcdefghijklmnopqrstuvwxyz") u
  g_MAX_LINES : ∃ u, mg "MAX_LINES" = some u ∧ RelV (.int 50) u
  g_PRIME : ∃ u, mg "PRIME" = some u ∧ RelV (.int 2305843009213693951) u
  g_KINDS : ∃ u, mg "KINDS" = some u ∧ RelV (.ref a_KINDS) u
  at_KINDS : ∃ o its n, K.lookup a_KINDS = some o ∧ o.cls = .type "tuple" ∧ o.dict = none ∧ o.data = .seq its n ∧ its.size ≤ sizeLine ∧ Vals (kinds3.map V.str) its.toList
end Lw
local macro_rules | `(tactic| walk_at "lw side") => `(tactic| first | assumption | decide | omega | exact Or.inr ⟨by decide, by decide⟩ | exact Or.inl ⟨by decide, by decide⟩ | exact ⟨by decide, by decide⟩ | exact ⟨by omega, by omega⟩)
local macro_rules | `(tactic| walk_at "lw ne") => `(tactic| first | assumption | exact Ne.symm (by assumption) | exact L2.ne_of_none (by assumption) (by assumption) | exact Ne.symm (L2.ne_of_none (by assumption) (by assumption)))
local macro_rules | `(tactic| walk_at "lw hp") => `(tactic| first | assumption | exact L2.upd_same | (refine Eq.trans (L2.upd_ne (by walk_at "lw ne")) ?_; walk_at "lw hp"))
local macro_rules | `(tactic| walk_at "lw sq") => `(tactic| first | assumption | exact L2.SqL.of (by walk_at "lw hp") | exact L2.SqT.of (by walk_at "lw hp"))
local macro_rules | `(tactic| walk_at "lw go") => `(tactic| first
  | (with_reducible refine Lw.g_seq ?_)
  | ((with_reducible refine' Lw.g_var ?h1 ?k1); (case h1 => rfl))
  | (with_reducible refine Lw.g_c ?_)
  | (with_reducible refine Lw.g_op ?_)
  | (with_reducible refine Lw.g_I0 ?_)
  | ((with_reducible refine' Lw.g_I ?h1 ?k1); (case h1 => walk_at "lw side"))
  | ((with_reducible refine' Lw.g_eq ?h1 ?k1); (case h1 => rfl))
  | ((with_reducible refine' Lw.g_ne ?h1 ?k1); (case h1 => rfl))
  | (with_reducible refine Lw.g_nil ?_)
  | (with_reducible refine Lw.g_cons ?_)
  | (with_reducible refine Lw.g_cb ?_)
  | (with_reducible refine Lw.g_call ?_)
  | (with_reducible refine Lw.g_test ?_)
  | (with_reducible refine Lw.g_B ?_)
  | (with_reducible refine Lw.g_exb ?_)
  | (with_reducible refine Lw.g_not ?_)
  | (with_reducible refine Lw.g_and ?_)
  | (with_reducible refine Lw.g_or ?_)
  | (with_reducible refine Lw.g_tup ?_)
  | (with_reducible refine Lw.g_lst ?_)
  | (with_reducible refine Lw.g_ifx ?_)
  | (with_reducible refine Lw.g_fld ?_)
  | (with_reducible refine Lw.g_asg ?_)
  | (with_reducible refine Lw.g_name ?_)
  | (with_reducible refine Lw.g_ret ?_)
  | (with_reducible refine Lw.g_drop ?_)
  | (with_reducible refine Lw.g_next ?_)
  | (with_reducible refine Lw.g_ifs ?_)
  | (with_reducible refine Lw.g_pnx ?_)
  | (with_reducible refine Lw.g_prt ?_)
  | (with_reducible refine Lw.g_pbk ?_)
  | (with_reducible refine Lw.g_pct ?_)
  | (with_reducible refine Lw.g_sl ?_)
  | (with_reducible refine Lw.g_nopart ?_)
  | (with_reducible refine Lw.g_part ?_)
  | (with_reducible refine Lw.g_rpart ?_)
  | (with_reducible refine Lw.g_m1 ?_)
  | (with_reducible refine Lw.g_m0 ?_)
  | (with_reducible refine Lw.g_rstr ?_)
  | (with_reducible refine Lw.g_bm0 ?_)
  | (with_reducible refine Lw.g_bm ?_)
  | (with_reducible refine Lw.g_isN ?_)
  | (with_reducible refine Lw.g_isB ?_)
  | (with_reducible refine Lw.g_notB ?_)
  | (with_reducible refine Lw.g_andV ?_)
  | (with_reducible refine Lw.g_orV ?_)
  | (with_reducible refine Lw.g_notV ?_)
  | (with_reducible refine Lw.g_notN ?_)
  | (with_reducible refine L2.iteT ?_)
  | (with_reducible refine L2.iteF ?_)
  | (with_reducible refine Lw.g_int1 ?_)
  | (with_reducible refine Lw.g_int1b ?_)
  | (with_reducible refine Lw.g_sub ?_)
  | (with_reducible refine Lw.g_forR ?_)
  | (with_reducible refine Lw.g_for ?_)
  | (with_reducible refine Lw.g_lc ?_)
  | (with_reducible refine Lw.g_iStr ?_)
  | (with_reducible refine Lw.g_ritS ?_)
  | (with_reducible refine Lw.g_tyS ?_)
  | (with_reducible refine Lw.g_iList ?_)
  | (with_reducible refine Lw.g_iTup ?_)
  | (with_reducible refine Lw.g_iRng ?_)
  | (with_reducible refine Lw.g_inSg ?_)
  | (with_reducible refine Lw.g_notInSg ?_)
  | (with_reducible refine Lw.g_ord ?_)
  | (with_reducible refine Lw.g_reprB ?_)
  | (with_reducible refine Lw.g_sfld ?_)
  | (with_reducible refine Lw.g_meth ?_)
  | (with_reducible refine Lw.g_make ?_)
  | (with_reducible refine Lw.g_dget ?_)
  | (with_reducible refine Lw.g_din ?_)
  | (with_reducible refine Lw.g_dnotin ?_)
  | (with_reducible refine Lw.g_dput ?_)
  | (with_reducible refine Lw.g_ddel ?_)
  | (with_reducible refine Lw.g_dpop1 ?_)
  | (with_reducible refine Lw.g_dget1 ?_)
  | (with_reducible refine Lw.g_iKeys ?_)
  | (with_reducible refine Lw.g_fldaug ?_)
  | ((with_reducible refine' Lw.g_lenL ?h1 ?k1); (case h1 => walk_at "lw sq"))
  | ((with_reducible refine' Lw.g_lenD ?h1 ?k1); (case h1 => walk_at "lw hp")))
local macro_rules | `(tactic| walk_at "lw") => `(tactic| repeat walk_at "lw go")
local macro_rules | `(tactic| walk_at "lw side") => `(tactic| first | assumption | decide | omega | exact Or.inr ⟨by decide, by decide⟩ | exact Or.inl ⟨by decide, by decide⟩ | exact ⟨by decide, by decide⟩ | exact ⟨by omega, by omega⟩)
local macro_rules | `(tactic| walk_at "lw ne") => `(tactic| first | assumption | exact Ne.symm (by assumption) | exact L2.ne_of_none (by assumption) (by assumption) | exact Ne.symm (L2.ne_of_none (by assumption) (by assumption)))
local macro_rules | `(tactic| walk_at "lw hp") => `(tactic| first | assumption | exact L2.upd_same | (refine Eq.trans (L2.upd_ne (by walk_at "lw ne")) ?_; walk_at "lw hp"))
local macro_rules | `(tactic| walk_at "lw sq") => `(tactic| first | assumption | exact L2.SqL.of (by walk_at "lw hp") | exact L2.SqT.of (by walk_at "lw hp"))
local macro_rules | `(tactic| walk_at "lw go") => `(tactic| first
  | (with_reducible refine Lw.g_seq ?_)
  | ((with_reducible refine' Lw.g_var ?h1 ?k1); (case h1 => rfl))
  | (with_reducible refine Lw.g_c ?_)
  | (with_reducible refine Lw.g_op ?_)
  | (with_reducible refine Lw.g_I0 ?_)
  | ((with_reducible refine' Lw.g_I ?h1 ?k1); (case h1 => walk_at "lw side"))
  | ((with_reducible refine' Lw.g_eq ?h1 ?k1); (case h1 => rfl))
  | ((with_reducible refine' Lw.g_ne ?h1 ?k1); (case h1 => rfl))
  | (with_reducible refine Lw.g_nil ?_)
  | (with_reducible refine Lw.g_cons ?_)
  | (with_reducible refine Lw.g_cb ?_)
  | (with_reducible refine Lw.g_call ?_)
  | (with_reducible refine Lw.g_test ?_)
  | (with_reducible refine Lw.g_B ?_)
  | (with_reducible refine Lw.g_exb ?_)
  | (with_reducible refine Lw.g_not ?_)
  | (with_reducible refine Lw.g_and ?_)
  | (with_reducible refine Lw.g_or ?_)
  | (with_reducible refine Lw.g_tup ?_)
  | (with_reducible refine Lw.g_lst ?_)
  | (with_reducible refine Lw.g_ifx ?_)
  | (with_reducible refine Lw.g_fld ?_)
  | (with_reducible refine Lw.g_asg ?_)
  | (with_reducible refine Lw.g_name ?_)
  | (with_reducible refine Lw.g_ret ?_)
  | (with_reducible refine Lw.g_drop ?_)
  | (with_reducible refine Lw.g_next ?_)
  | (with_reducible refine Lw.g_ifs ?_)
  | (with_reducible refine Lw.g_pnx ?_)
  | (with_reducible refine Lw.g_prt ?_)
  | (with_reducible refine Lw.g_pbk ?_)
  | (with_reducible refine Lw.g_pct ?_)
  | (with_reducible refine Lw.g_sl ?_)
  | (with_reducible refine Lw.g_nopart ?_)
  | (with_reducible refine Lw.g_part ?_)
  | (with_reducible refine Lw.g_rpart ?_)
  | (with_reducible refine Lw.g_m1 ?_)
  | (with_reducible refine Lw.g_m0 ?_)
  | (with_reducible refine Lw.g_rstr ?_)
  | (with_reducible refine Lw.g_bm0 ?_)
  | (with_reducible refine Lw.g_bm ?_)
  | (with_reducible refine Lw.g_isN ?_)
  | (with_reducible refine Lw.g_isB ?_)
  | (with_reducible refine Lw.g_notB ?_)
  | (with_reducible refine Lw.g_andV ?_)
  | (with_reducible refine Lw.g_orV ?_)
  | (with_reducible refine Lw.g_notV ?_)
  | (with_reducible refine Lw.g_notN ?_)
  | (with_reducible refine L2.iteT ?_)
  | (with_reducible refine L2.iteF ?_)
  | (with_reducible refine Lw.g_int1 ?_)
  | (with_reducible refine Lw.g_int1b ?_)
  | (with_reducible refine Lw.g_sub ?_)
  | (with_reducible refine Lw.g_forR ?_)
  | (with_reducible refine Lw.g_for ?_)
  | (with_reducible refine Lw.g_lc ?_)
  | (with_reducible refine Lw.g_iStr ?_)
  | (with_reducible refine Lw.g_ritS ?_)
  | (with_reducible refine Lw.g_tyS ?_)
  | (with_reducible refine Lw.g_iList ?_)
  | (with_reducible refine Lw.g_iTup ?_)
  | (with_reducible refine Lw.g_iRng ?_)
  | (with_reducible refine Lw.g_inSg ?_)
  | (with_reducible refine Lw.g_notInSg ?_)
  | (with_reducible refine Lw.g_ord ?_)
  | (with_reducible refine Lw.g_reprB ?_)
  | (with_reducible refine Lw.g_sfld ?_)
  | (with_reducible refine Lw.g_meth ?_)
  | (with_reducible refine Lw.g_make ?_)
  | (with_reducible refine Lw.g_dget ?_)
  | (with_reducible refine Lw.g_din ?_)
  | (with_reducible refine Lw.g_dnotin ?_)
  | (with_reducible refine Lw.g_dput ?_)
  | (with_reducible refine Lw.g_ddel ?_)
  | (with_reducible refine Lw.g_dpop1 ?_)
  | (with_reducible refine Lw.g_dget1 ?_)
  | (with_reducible refine Lw.g_iKeys ?_)
  | (with_reducible refine Lw.g_fldaug ?_)
  | ((with_reducible refine' Lw.g_lenL ?h1 ?k1); (case h1 => walk_at "lw sq"))
  | ((with_reducible refine' Lw.g_lenD ?h1 ?k1); (case h1 => walk_at "lw hp")))
local macro_rules | `(tactic| walk_at "lw") => `(tactic| repeat walk_at "lw go")
local macro_rules | `(tactic| walk_at "lw hp") => `(tactic| first | assumption | exact L2.upd_same | exact L2.Same.at (by assumption) (by walk_at "lw hp") | (refine Eq.trans (L2.upd_ne (by walk_at "lw ne")) ?_; walk_at "lw hp"))
local macro_rules | `(tactic| walk_at "lw go") => `(tactic| first
  | ((with_reducible refine Lw.g_kinT (b := true) (by decide) rfl rfl (by decide +kernel) ?_); intro _ _)
  | ((with_reducible refine Lw.g_kinT (b := false) (by decide) rfl rfl (by decide +kernel) ?_); intro _ _)
  | ((with_reducible refine Lw.g_kninT (b := true) (by decide) rfl rfl (by decide +kernel) ?_); intro _ _)
  | ((with_reducible refine Lw.g_kninT (b := false) (by decide) rfl rfl (by decide +kernel) ?_); intro _ _)
  | ((with_reducible refine Lw.g_kinL (b := true) (by decide) rfl rfl (by decide +kernel) ?_); intro _ _)
  | ((with_reducible refine Lw.g_kinL (b := false) (by decide) rfl rfl (by decide +kernel) ?_); intro _ _)
  | ((with_reducible refine Lw.g_kninL (b := true) (by decide) rfl rfl (by decide +kernel) ?_); intro _ _)
  | ((with_reducible refine Lw.g_kninL (b := false) (by decide) rfl rfl (by decide +kernel) ?_); intro _ _)
  | (with_reducible refine Lw.g_pairs1 ?_)
  | (with_reducible refine Lw.g_pairs0 ?_)
  | (with_reducible refine Lw.g_gcons ?_)
  | (with_reducible refine Lw.g_gnil ?_)
  | (with_reducible refine Lw.ifT (by decide +kernel) ?_)
  | (with_reducible refine Lw.ifF (by decide +kernel) ?_))
local macro_rules | `(tactic| walk_at "lw same") => `(tactic| first | assumption | exact L2.Same.refl _ | (refine L2.Same.trans ?_ (by assumption); walk_at "lw same"))
local macro_rules | `(tactic| walk_at "lw go") => `(tactic| first
  | ((with_reducible refine' Lw.g_rfld (f := "store") ?h1 ?h2 ?h3 Lw.f_Collector_store ?k1); (case h1 => walk_at "lw hp"); (case h2 => exact Lw.Txt.cl_Collector (by assumption)); (case h3 => exact Lw.Txt.na_Collector_store (by assumption)))
  | ((with_reducible refine' Lw.g_rfld (f := "phase") ?h1 ?h2 ?h3 Lw.f_Collector_phase ?k1); (case h1 => walk_at "lw hp"); (case h2 => exact Lw.Txt.cl_Collector (by assumption)); (case h3 => exact Lw.Txt.na_Collector_phase (by assumption)))
  | ((with_reducible refine' Lw.g_rfld (f := "marked") ?h1 ?h2 ?h3 Lw.f_Collector_marked ?k1); (case h1 => walk_at "lw hp"); (case h2 => exact Lw.Txt.cl_Collector (by assumption)); (case h3 => exact Lw.Txt.na_Collector_marked (by assumption)))
  | ((with_reducible refine' Lw.g_rfld (f := "todo") ?h1 ?h2 ?h3 Lw.f_Collector_todo ?k1); (case h1 => walk_at "lw hp"); (case h2 => exact Lw.Txt.cl_Collector (by assumption)); (case h3 => exact Lw.Txt.na_Collector_todo (by assumption)))
  | ((with_reducible refine' Lw.g_rfld (f := "doomed") ?h1 ?h2 ?h3 Lw.f_Collector_doomed ?k1); (case h1 => walk_at "lw hp"); (case h2 => exact Lw.Txt.cl_Collector (by assumption)); (case h3 => exact Lw.Txt.na_Collector_doomed (by assumption)))
  | ((with_reducible refine' Lw.g_rmeth ?h1 (Lw.f_Collector_no (by decide +kernel)) ?k1); (case h1 => walk_at "lw hp")))
local macro_rules | `(tactic| walk_at "lw go") => `(tactic| first
  | ((with_reducible refine' Lw.g_rfld (f := "blobs") ?h1 ?h2 ?h3 Lw.f_Store_blobs ?k1); (case h1 => walk_at "lw hp"); (case h2 => exact Lw.Txt.cl_Store (by assumption)); (case h3 => exact Lw.Txt.na_Store_blobs (by assumption)))
  | ((with_reducible refine' Lw.g_rmeth ?h1 (Lw.f_Store_no (by decide +kernel)) ?k1); (case h1 => walk_at "lw hp")))
local macro_rules | `(tactic| walk_at "lw go") => `(tactic| first
  | (with_reducible refine Lw.g_callS ?_)
  | (with_reducible refine Lw.g_raise ?_)
  | (with_reducible refine Lw.g_tryAs ?_)
  | (with_reducible refine Lw.g_xf ?_))
/-! ## the law's draws: any number below the bound may come -/
namespace Lw
open PySem L2
open PyProof.Rows (envOfC)
theorem at_in {α : Type} {xs : List α} {i : Int} (h0 : 0 ≤ i) (h1 : i < xs.length) : ∃ v, xs[i.toNat]? = some v ∧ atI xs i = some v := by
  have hl : i.toNat < xs.length := by omega
  refine ⟨xs[i.toNat], List.getElem?_eq_getElem hl, ?_⟩
  have := atI_nat (xs := xs) (j := i.toNat) (v := xs[i.toNat]) (List.getElem?_eq_getElem hl)
  rw [show ((i.toNat : Nat) : Int) = i by omega] at this
  exact this
theorem ix_in {n : Nat} {i : Int} (h0 : 0 ≤ i) (h1 : i < n) : ixN n i = some i.toNat := by
  unfold ixN
  rw [if_pos h0, if_pos h1]
theorem map_int_set (l : List Int) (j : Nat) (z : Int) : (l.map V.int).set j (.int z) = (l.set j z).map V.int := by rw [List.map_set]
/-- the state of the draws at S: its place, its cells at C -/
structure StateAt (c : Addr → Nat) (H : Hp) (S : Addr) : Prop where
  ex : ∃ (C : Addr) (pos : Int) (cells : List Int), c S = 0 ∧ c C = 0 ∧ S ≠ C ∧ H S = some (.lst [.int pos, .ref C]) ∧ H C = some (.lst (cells.map V.int)) ∧ cells ≠ [] ∧ (∀ x ∈ cells, 0 ≤ x) ∧ 0 ≤ pos
theorem StateAt.frame {I : Nat → Prop} {c c' : Addr → Nat} {H H' : Hp} {S : Addr} (h : StateAt c H S) (s : Stp I c c' H H') (hi : ¬ I 0 := by decide) : StateAt c' H' S := by
  obtain ⟨C, pos, cells, h1, h2, h3, h4, h5, h6⟩ := h.ex
  exact ⟨C, pos, cells, by rw [s.col _ _ h4, h1], by rw [s.col _ _ h5, h2], h3, s.keep _ _ h4 (by rw [h1]; exact hi), s.keep _ _ h5 (by rw [h2]; exact hi), h6⟩
def spState (K : PySem.W.Frag) : Sp := fun vs H Q _ => ∃ (a : Addr) (ns : List Int) (c : Addr → Nat), vs = [.ref a] ∧ SqL K H a (ns.map V.int) ∧ ns.length ≤ 63 ∧
  ∀ S c' H', StateAt c' H' S → Stp (fun _ => False) c c' H H' → Q (.ref S) H'
def spTake : Sp := fun vs H Q _ => ∃ (c : Addr → Nat) (S : Addr) (m : Int), vs = [.ref S, .int m] ∧ StateAt c H S ∧ 0 < m ∧ m < 1073741824 ∧
  ∀ (r : Int) c' H', 0 ≤ r → r < m → StateAt c' H' S → Stp (fun i => i = 0) c c' H H' → Q (.int r) H'
section
variable {P : Program} {w : World} {K : PySem.W.Frag} {mg : Str → Option Value} {base : Heap} {C_Collector C_Store C_Refused C_Malformed a_KINDS : Addr}
theorem ok__law_state (T : Txt w K mg C_Collector C_Store C_Refused C_Malformed a_KINDS) : Cal P w K mg base 1 "_law_state" (spState K) := by
  refine cal_mk T.d__law_state sc__law_state (fun vs H Q E h => ?_) (fun f cdv A outer s H vs Q E hr h => ?_)
  · obtain ⟨a, ns, c, rfl, _⟩ := h
    rfl
  · obtain ⟨a, ns, c, rfl, hS, hlen, k⟩ := h
    refine ⟨_, (pss_cons (ps_setLc (i := 1) (own := [("_law_cell", 2)]) (g := (gName 2)) (by rfl) sc__law_state.nd rfl rfl (sw_true rfl rfl rfl (by decide +kernel)) (pi_list (pe_slice sl_list (pv 0) po_none (po_some (pe_int)))) (blkOk_by (own := [("_law_cell", 2)]) (N := n__law_state) (sc := defScope s__law_state) (by decide +kernel)) (fun _ _ _ _ _ => (pg_name (i := 2) sc__law_state.nd rfl (by first | exact Or.inl rfl | exact Or.inr rfl))) (fun _ _ _ _ _ => pts_nil) (fun _ _ _ _ _ => (pe_callB call_abs (by rfl) T.n_abs (by decide +kernel) (pa_cons (pv 2) pa_nil))))
      (pss_cons (ps_if (pt_cmpR op_eq (pe_callB call_len_seq' (by rfl) T.n_len (by decide +kernel) (pa_cons (pv 1) pa_nil)) (pe_int) (nomark _)) (pss_one (ps_set (i := 1) sc__law_state.nd rfl (by first | exact Or.inl rfl | exact Or.inr rfl) (pe_lst (pa_cons (pe_int) pa_nil)))) pss_nil)
      (pss_one (ps_ret (pe_lst (pa_cons (pe_int) (pa_cons (pv 1) pa_nil))))))), ?_⟩
    refine ⟨_, rfl, 63, rfl, a, _, rfl, hS, fun p np => ?_⟩
    have e63 : (cutV (ns.map V.int) none (some 63)) = ns.map V.int := by
      unfold cutV
      rw [HT.sIx_none, show ((63 : Int)) = ((63 : Nat) : Int) from rfl, HT.sIx_nat, List.drop_zero, List.take_of_length_le (by rw [List.length_map]; omega)]
    rw [e63]
    refine ⟨p, rfl, ⟨_, SqL.of upd_same⟩, fun D hD => ?_⟩
    have hDp : D ≠ p := fun z => by subst z; rw [upd_same] at hD; cases hD
    have hD0 : H D = none := by rw [upd_ne hDp] at hD; exact hD
    refine lc_list (K := K) (a := p) (xs := ns.map V.int) (fun i H2 => ∃ l : List Int, l.length = i ∧ (∀ x ∈ l, 0 ≤ x) ∧ Same H H2 ∧ H2 p = some (.lst (ns.map V.int)) ∧ H2 D = some (.lst (l.map V.int)))
      ⟨[], rfl, by simp, (Same.new np).thenNew hD, by rw [upd_ne (Ne.symm hDp)]; exact upd_same, upd_same⟩
      (fun i H2 hi h => by obtain ⟨l, _, _, _, h2, _⟩ := h; exact SqL.of h2) (fun i x H2 hx h => ?_) (fun H2 h => ?_)
    · obtain ⟨l, h1, h2, h3, h4, h5⟩ := h
      obtain ⟨z, hz, rfl⟩ : ∃ z, ns[i]? = some z ∧ V.int z = x := by
        rw [List.getElem?_map] at hx
        cases e : ns[i]? with
        | none => rw [e] at hx; cases hx
        | some z => rw [e] at hx; exact ⟨z, rfl, Option.some.inj hx⟩
      refine ⟨rfl, ?_⟩
      refine ⟨_, rfl, z, rfl, l.map V.int, h5, ?_, l ++ [if z < 0 then -z else z], by simp [h1], ?_, h3.grow hD0, by rw [upd_ne (Ne.symm hDp)]; exact h4, by rw [upd_same]; simp⟩
      · have hi := (List.getElem?_eq_some_iff.mp hz).1
        rw [List.length_map, h1]
        exact small1000 (by omega)
      · intro x hx
        rcases List.mem_append.mp hx with q | q
        · exact h2 x q
        · rw [List.mem_singleton.mp q]
          split <;> omega
    · obtain ⟨l, h1, h2, h3, h4, h5⟩ := h
      rw [List.length_map] at h1
      refine ⟨_, rfl, D, l.map V.int, rfl, Or.inl (SqL.of h5), ?_⟩
      refine ⟨rfl, _, rfl, ?_⟩
      refine if2 (fun hz => ?_) (fun hz => ?_)
      · refine ⟨(by show 1 ≤ sizeLine; decide), fun q nq => ?_⟩
        refine ⟨_, rfl, (by show 2 ≤ sizeLine; decide), fun S nS => ?_⟩
        have hqS : q ≠ S := fun z => by subst z; rw [upd_same] at nS; cases nS
        refine k S (Stp.paint (Stp.paint c q 0) S 0) _ ⟨q, 0, [0], Stp.paint_same, by rw [Stp.paint_ne hqS]; exact Stp.paint_same, Ne.symm hqS, upd_same, by rw [upd_ne hqS]; exact upd_same, by simp, by simp, by decide⟩ ?_
        exact ((Stp.same h3).trans (Stp.newc nq)).trans (Stp.newc nS)
      · refine ⟨_, rfl, (by show 2 ≤ sizeLine; decide), fun S nS => ?_⟩
        have hDS : D ≠ S := ne_of_none h5 nS
        refine k S (Stp.paint (Stp.paint c D 0) S 0) _ ⟨D, 0, l, Stp.paint_same, by rw [Stp.paint_ne hDS]; exact Stp.paint_same, Ne.symm hDS, upd_same, by rw [upd_ne hDS]; exact h5, fun e => hz (by rw [int_eq, e]; rfl), h2, by decide⟩ ?_
        have s1 : Stp (fun _ => False) c (Stp.paint c D 0) H H2 := ⟨fun b o e _ => h3 b o e, fun b o e => Stp.paint_ne (ne_of_none e hD0), fun b xs e => h3 b _ e, fun b e => h3.free e⟩
        exact s1.trans (Stp.newc nS)
theorem ok__law_take (T : Txt w K mg C_Collector C_Store C_Refused C_Malformed a_KINDS) : Cal P w K mg base 1 "_law_take" spTake := by
  refine cal_mk T.d__law_take sc__law_take (fun vs H Q E h => ?_) (fun f cdv A outer s H vs Q E hr h => ?_)
  · obtain ⟨c, S, m, rfl, _⟩ := h
    rfl
  · obtain ⟨c, S, m, rfl, hS, hm0, hm1, k⟩ := h
    obtain ⟨C, pos, cells, c1, c2, ne, h1, h2, h3, h4, h5⟩ := hS.ex
    have hcl : 0 < cells.length := List.length_pos_iff.mpr h3
    refine ⟨_, (pss_cons (ps_set (i := 2) sc__law_take.nd rfl (by first | exact Or.inl rfl | exact Or.inr rfl) (pe_ix ix_list (pv 0) (pe_int) (fun _ _ => rfl)))
      (pss_cons (ps_set (i := 3) sc__law_take.nd rfl (by first | exact Or.inl rfl | exact Or.inr rfl) (pe_op op_mod (pe_ix ix_list (pv 0) (pe_int) (fun _ _ => rfl)) (pe_callB call_len_seq' (by rfl) T.n_len (by decide +kernel) (pa_cons (pv 2) pa_nil))))
      (pss_cons (ps_set (i := 4) sc__law_take.nd rfl (by first | exact Or.inl rfl | exact Or.inr rfl) (pe_ix ix_list (pv 2) (pv 3) (fun _ _ => rfl)))
      (pss_cons (ps_if (pt_cmpR op_ge (pv 4) (pe_int) (nomark _)) (pss_cons (ps_asg (pe_op op_fdiv (pv 4) (pv 1)) (pg_sub (pv 2) (pv 3) set_list))
      (pss_one (ps_ret (pe_op op_mod (pv 4) (pv 1))))) pss_nil)
      (pss_cons (ps_asg (pe_op op_add (pe_ix ix_list (pv 0) (pe_int) (fun _ _ => rfl)) (pe_int)) (pg_sub (pv 0) (pe_int) set_list))
      (pss_cons (ps_set (i := 5) sc__law_take.nd rfl (by first | exact Or.inl rfl | exact Or.inr rfl) (pe_op op_mod (pe_callTy call_int1' (by rfl) T.n_int (by decide +kernel) (pa_cons (pe_op op_add (pe_op op_mul (pv 4) (pe_int)) (pe_op op_mul (pe_ix ix_list (pv 0) (pe_int) (fun _ _ => rfl)) (pe_int))) pa_nil)) (pe_int)))
      (pss_cons (ps_set (i := 5) sc__law_take.nd rfl (by first | exact Or.inl rfl | exact Or.inr rfl) (pe_op op_mod (pe_callTy call_int1' (by rfl) T.n_int (by decide +kernel) (pa_cons (pe_op op_add (pe_op op_mul (pv 5) (pe_int)) (pe_op op_mul (pe_ix ix_list (pv 0) (pe_int) (fun _ _ => rfl)) (pe_int))) pa_nil)) (pe_int)))
      (pss_one (ps_ret (pe_op op_mod (pe_op op_fdiv (pv 5) (pe_int)) (pv 1))))))))))), ?_⟩
    refine ⟨_, rfl, S, _, 1, .ref C, rfl, rfl, SqL.of h1, atI_nat (j := 1) rfl, ?_⟩
    refine ⟨_, rfl, S, _, 0, .int pos, rfl, rfl, SqL.of h1, atI_nat (j := 0) rfl, ?_⟩
    have hpl : 0 ≤ pos % (cells.length : Int) ∧ pos % (cells.length : Int) < (cells.length : Int) := ⟨Int.emod_nonneg _ (by omega), Int.emod_lt_of_pos _ (by omega)⟩
    refine ⟨_, rfl, C, _, rfl, Or.inl (SqL.of h2), _, _, rfl, rfl, by show (0 : Int) < ((cells.map V.int).length : Int); rw [List.length_map]; omega, ?_⟩
    rw [List.length_map]
    obtain ⟨v, hv, hat⟩ := at_in (xs := cells.map V.int) (i := pos % (cells.length : Int)) hpl.1 (by rw [List.length_map]; exact hpl.2)
    obtain ⟨x, hx, rfl⟩ : ∃ x, x ∈ cells ∧ V.int x = v := by
      rw [List.getElem?_map] at hv
      cases e : cells[(pos % (cells.length : Int)).toNat]? with
      | none => rw [e] at hv; cases hv
      | some x => rw [e] at hv; exact ⟨x, List.mem_of_getElem? e, Option.some.inj hv⟩
    have hx0 := h4 x hx
    refine ⟨_, rfl, _, rfl, C, _, _, _, rfl, rfl, SqL.of h2, hat, ?_⟩
    refine ⟨_, rfl, _, _, rfl, rfl, _, rfl, ?_⟩
    refine if2 (fun hz => ?_) (fun hz => ?_)
    · refine ⟨_, rfl, _, rfl, _, _, rfl, rfl, ⟨hm0, hm1⟩, ?_⟩
      refine ⟨_, rfl, _, rfl, C, _, _, _, rfl, rfl, h2, by rw [List.length_map]; exact ix_in hpl.1 hpl.2, ?_⟩
      refine ⟨_, rfl, _, rfl, _, _, rfl, rfl, hm0, ?_⟩
      refine k _ c _ (Int.emod_nonneg _ (by omega)) (Int.emod_lt_of_pos _ hm0) ⟨C, pos, cells.set (pos % (cells.length : Int)).toNat (x / m), c1, c2, ne, by rw [upd_ne ne]; exact h1, by rw [upd_same, map_int_set], ?_, ?_, h5⟩ ?_
      · intro e
        have := congrArg List.length e
        rw [List.length_set, List.length_nil] at this
        omega
      · intro y hy
        rcases List.mem_or_eq_of_mem_set hy with q | q
        · exact h4 y q
        · rw [q]; exact Int.ediv_nonneg hx0 (by omega)
      · exact Stp.own h2 c2 (fun xs z => by cases z)
    · refine ⟨_, rfl, S, _, 0, .int pos, rfl, rfl, SqL.of h1, atI_nat (j := 0) rfl, _, _, rfl, rfl, ?_⟩
      refine ⟨_, rfl, S, _, _, 0, rfl, rfl, h1, rfl, ?_⟩
      have h1' : (upd H S (.lst [.int (pos + 1), .ref C])) S = some (.lst [.int (pos + 1), .ref C]) := upd_same
      refine ⟨_, rfl, _, _, rfl, rfl, .inr ⟨by decide, by decide⟩, ?_⟩
      refine ⟨_, rfl, S, _, 0, .int (pos + 1), rfl, rfl, SqL.of h1', atI_nat (j := 0) rfl, _, _, rfl, rfl, .inr ⟨by decide, by decide⟩, _, _, rfl, rfl, ?_⟩
      refine Or.inl ⟨_, rfl, _, _, rfl, rfl, (by show (0 : Int) < 2147483647; decide), ?_⟩
      refine ⟨_, rfl, _, _, rfl, rfl, .inr ⟨by decide, by decide⟩, ?_⟩
      refine ⟨_, rfl, S, _, 0, .int (pos + 1), rfl, rfl, SqL.of h1', atI_nat (j := 0) rfl, _, _, rfl, rfl, .inr ⟨by decide, by decide⟩, _, _, rfl, rfl, ?_⟩
      refine Or.inl ⟨_, rfl, _, _, rfl, rfl, (by show (0 : Int) < 1000000007; decide), ?_⟩
      refine ⟨_, rfl, _, _, rfl, rfl, ⟨by decide, by decide⟩, ?_⟩
      refine ⟨_, rfl, _, _, rfl, rfl, hm0, ?_⟩
      refine k _ c _ (Int.emod_nonneg _ (by omega)) (Int.emod_lt_of_pos _ hm0) ⟨C, pos + 1, cells, c1, c2, ne, h1', by rw [upd_ne ne.symm]; exact h2, h3, h4, by omega⟩ ?_
      exact Stp.own h1 c1 (fun xs z => by cases z)
end
end Lw
namespace Lw
open PySem L2
/-- a comprehension whose items are drawn -/
theorem lc_draw {α : Type} {J : It} {xs : List V} {vs : List Nat} {σ : L2.St} {te : TE} {j : Nat} {Q : VK} {c : Addr → Nat} {H : Hp} {S : Addr} (w : Walk J xs.length (fun _ => True) (YAt xs)) (hz : xs.length ≤ 100000) (F : α → V) (G : α → Prop) (hS : StateAt c H S)
    (hw : ∀ x, wipe ((wipe σ vs).set j (some x)) vs = wipe σ vs)
    (he : ∀ x c1 H1 (R : VK), StateAt c1 H1 S → Stp (fun i => i = 0) c c1 H H1 → (∀ a c2 H2, G a → StateAt c2 H2 S → Stp (fun i => i = 0) c1 c2 H1 H2 → R (F a) H2) → te ((wipe σ vs).set j (some x)) H1 R)
    (k : ∀ q (l : List α) c' H', H q = none → l.length = xs.length → (∀ a ∈ l, G a) → StateAt c' H' S → Stp (fun i => i = 0) c c' H H' → H' q = some (.lst (l.map F)) → c' q = 9 → Q (.ref q) H') : kLc (gName j) tYes te vs σ Q J H := by
  intro D hD
  refine lc_it w (fun i H2 => ∃ (l : List α) (c2 : Addr → Nat), l.length = i ∧ (∀ a ∈ l, G a) ∧ StateAt c2 H2 S ∧ Stp (fun i => i = 0) c c2 H H2 ∧ c2 D = 9 ∧ H2 D = some (.lst (l.map F)))
    ⟨[], Stp.paint c D 9, rfl, by simp, hS.frame (I := fun _ => False) (Stp.newc hD) (by decide), Stp.newc hD, Stp.paint_same, upd_same⟩ (fun _ _ _ _ => trivial) (fun i x H2 H2' hi h y => ?_) (fun H2 h => ?_)
  · obtain ⟨e, hx⟩ := y
    subst e
    obtain ⟨l, c2, h1, h2, S2, st2, cD, hl⟩ := h
    refine ⟨hw x, ?_⟩
    show te _ H2' _
    refine he x c2 H2' _ S2 st2 fun a c3 H3 ga S3 st3 => ?_
    have hD3 := st3.keep _ _ hl (by rw [cD]; decide)
    refine ⟨_, hD3, ?_, l ++ [a], c3, by rw [List.length_append, h1]; rfl, fun b hb => ?_, S3.frame (I := fun i => i = 9) (Stp.own hD3 (by rw [st3.col _ _ hl, cD]) (fun xs z => by cases z)) (by decide), ?_, by rw [st3.col _ _ hl, cD], by rw [upd_same, List.map_append]; rfl⟩
    · rw [List.length_map, h1]
      exact Nat.lt_of_lt_of_le (show i < 200000 by omega) (by decide)
    · rcases List.mem_append.mp hb with z | z
      · exact h2 b z
      · rw [List.mem_singleton.mp z]; exact ga
    · have st4 := st2.trans st3
      exact ⟨fun b o e n => by rw [upd_ne (ne_of_none e hD)]; exact st4.keep b o e n, st4.col, fun b xs e => by rw [upd_ne (ne_of_none e hD)]; exact st4.tup b xs e, fun b e => by
        by_cases z : b = D
        · subst z; rw [upd_same] at e; cases e
        · rw [upd_ne z] at e; exact st4.fre b e⟩
  · obtain ⟨l, c2, h1, h2, S2, st2, cD, hl⟩ := h
    exact k D l c2 H2 hD h1 h2 S2 st2 hl cD
end Lw

/-! ## a drawn text -/
namespace Lw
open PySem L2
open PyProof.Rows (envOfC)
def signs8 : List Nat := [97, 98, 99, 88, 89, 32, 48, 49]
theorem signs8_eq : ("abcXY 01" : Str) = SX.S signs8 := by decide +kernel
def spText : Sp := fun vs H Q _ => ∃ (c : Addr → Nat) (S : Addr) (m : Int), vs = [.ref S, .int m] ∧ StateAt c H S ∧ 0 ≤ m ∧ m ≤ 1000 ∧
  ∀ (l : List Nat) c' H', (l.length : Int) ≤ m → (∀ x ∈ l, x ∈ signs8) → StateAt c' H' S → Stp (fun i => i = 0) c c' H H' → Q (.str (SX.S l)) H'
section
variable {P : Program} {w : World} {K : PySem.W.Frag} {mg : Str → Option Value} {base : Heap} {C_Collector C_Store C_Refused C_Malformed a_KINDS : Addr}
theorem ok__law_text (T : Txt w K mg C_Collector C_Store C_Refused C_Malformed a_KINDS) : Cal P w K mg base 2 "_law_text" spText := by
  have c__law_take : Cal P w K mg base 1 "_law_take" spTake := ok__law_take T
  refine cal_mk T.d__law_text sc__law_text (fun vs H Q E h => ?_) (fun f cdv A outer s H vs Q E hr h => ?_)
  · obtain ⟨c, S, m, rfl, _⟩ := h
    rfl
  · obtain ⟨c, S, m, rfl, hS, hm0, hm1, k⟩ := h
    refine ⟨_, (pss_one (ps_ret (pe_join (pe_str) (pe_lc (own := [("_law_k", 2)]) (g := (gName 2)) (by rfl) sc__law_text.nd (pi_range1 (by rfl) T.n_range (pa_cons (pe_c c__law_take hr (by first | decide | omega) rfl (pa_cons (pv 0) (pa_cons (pe_op op_add (pv 1) (pe_int)) pa_nil))) pa_nil)) (blkOk_by (own := [("_law_k", 2)]) (N := n__law_text) (sc := defScope s__law_text) (by decide +kernel)) (fun _ _ _ _ _ => (pg_name (i := 2) sc__law_text.nd rfl (by first | exact Or.inl rfl | exact Or.inr rfl))) (fun _ _ _ _ _ => pts_nil) (fun _ _ _ _ _ => (pe_ix ix_str (pe_str) (pe_c c__law_take hr (by first | decide | omega) rfl (pa_cons (pv 0) (pa_cons (pe_int) pa_nil))) (fun _ _ => rfl))))))), ?_⟩
    refine ⟨⟨_, rfl⟩, ?_⟩
    refine ⟨_, rfl, _, rfl, _, _, rfl, rfl, ?_⟩
    refine ⟨c, S, m + 1, rfl, hS, by omega, by omega, fun r c1 H1 r0 r1 S1 st1 => ?_⟩
    refine ⟨r, rfl, by omega, by omega, fun D hD => ?_⟩
    refine lc_range (lo := 0) (n := r.toNat) (fun i H2 => ∃ (l : List Nat) (c2 : Addr → Nat), l.length = i ∧ (∀ x ∈ l, x ∈ signs8) ∧ StateAt c2 H2 S ∧ Stp (fun i => i = 0) c1 c2 H1 H2 ∧ c2 D = 9 ∧ H2 D = some (.lst ((l.map fun c => SX.S [c]).map V.str)))
      ⟨[], Stp.paint c1 D 9, rfl, by simp, S1.frame (I := fun _ => False) (Stp.newc hD) (by decide), Stp.newc hD, Stp.paint_same, upd_same⟩ (fun i H2 hi h => ?_) (fun H2 h => ?_)
    · obtain ⟨l, c2, h1, h2, S2, st2, cD, hl⟩ := h
      refine ⟨rfl, _, rfl, ?_⟩
      refine ⟨c2, S, 8, rfl, S2, by decide, by decide, fun q c3 H3 q0 q1 S3 st3 => ?_⟩
      have hD3 := st3.keep _ _ hl (by rw [cD]; decide)
      obtain ⟨ch, hch, hat⟩ := at_in (xs := signs8) (i := q) q0 q1
      refine ⟨"abcXY 01", q, ch, rfl, rfl, by decide +kernel, by rw [signs8_eq]; exact hat, ?_⟩
      refine ⟨_, hD3, ?_, l ++ [ch], c3, by rw [List.length_append, h1]; rfl, fun x hx => ?_, S3.frame (I := fun i => i = 9) (Stp.own hD3 (by rw [st3.col _ _ hl, cD]) (fun xs z => by cases z)) (by decide), ?_, by rw [st3.col _ _ hl, cD], ?_⟩
      · rw [List.length_map, List.length_map, h1]
        exact small1000 (by omega)
      · rcases List.mem_append.mp hx with z | z
        · exact h2 x z
        · rw [List.mem_singleton.mp z]
          exact List.mem_of_getElem? hch
      · have st4 : Stp (fun i => i = 0) c1 c3 H1 H3 := st2.trans st3
        have hDn : H1 D = none := hD
        exact ⟨fun b o e n => by rw [upd_ne (ne_of_none e hDn)]; exact st4.keep b o e n, st4.col, fun b xs e => by rw [upd_ne (ne_of_none e hDn)]; exact st4.tup b xs e, fun b e => by
          by_cases z : b = D
          · subst z; rw [upd_same] at e; cases e
          · rw [upd_ne z] at e; exact st4.fre b e⟩
      · rw [upd_same, List.map_append, List.map_append]
        rfl
    · obtain ⟨l, c2, h1, h2, S2, st2, cD, hl⟩ := h
      refine ⟨"", D, _, rfl, rfl, Or.inl (SqL.of hl), ?_, ?_⟩
      · rw [sum_ones, List.length_map, h1]
        show r.toNat + r.toNat * 0 ≤ 16777216
        omega
      · rw [join_empty]
        exact k l c2 H2 (by omega) h2 S2 (st1.trans st2)
end
end Lw

/-! ## addresses, as the program reckons them -/
namespace Lw
open PySem L2
open PyProof.Rows (envOfC)
def P61 : Nat := 2305843009213693951
def hN (s : Nat) (t : List Nat) : Nat := t.foldl (fun v c => (v * 257 + c + 1) % P61) s
theorem hN_snoc (s : Nat) (t : List Nat) (c : Nat) : hN s (t ++ [c]) = (hN s t * 257 + c + 1) % P61 := by
  unfold hN
  rw [List.foldl_append]
  rfl
theorem hN_lt {s : Nat} (h : s < P61) : ∀ t : List Nat, hN s t < P61 := by
  intro t
  unfold hN
  induction t generalizing s with
  | nil => exact h
  | cons c t ih => exact ih (Nat.mod_lt _ (by decide))
/-- the number of a kind, from 1 -/
def kn (k : Str) : Nat := if k = "layer" then 1 else if k = "image" then 2 else 3
theorem kn_lt (k : Str) : kn k < 4 := by
  unfold kn
  split
  · decide
  · split <;> decide
def adrN (k : Str) (t : List Nat) : Nat := hN (kn k) t
theorem adrN_lt (k : Str) (t : List Nat) : adrN k t < P61 := hN_lt (Nat.lt_trans (kn_lt k) (by decide)) t
/-- the address of a text of a kind -/
def adr (k : Str) (t : List Nat) : Str := hexT (adrN k t)
def hexS : List Nat := [48, 49, 50, 51, 52, 53, 54, 55, 56, 57, 97, 98, 99, 100, 101, 102]
theorem hexS_eq : ("0123456789abcdef" : Str) = SX.S hexS := by decide +kernel
/-- sixteen hexadecimal signs -/
def isAdr (l : List Nat) : Bool := l.length == 16 && l.all fun c => decide (c ∈ hexS)
/-- the signs of an address -/
def adrL (k : Str) (t : List Nat) : List Nat := List.replicate (16 - ((Nat.toDigits 16 (adrN k t)).map Char.toNat).length) 48 ++ (Nat.toDigits 16 (adrN k t)).map Char.toNat
theorem adr_S (k : Str) (t : List Nat) : adr k t = SX.S (adrL k t) := rfl
theorem adrL_len (k : Str) (t : List Nat) : (adrL k t).length = 16 := by
  have h := adrN_lt k t
  have h2 : (Nat.toDigits 16 (adrN k t)).length ≤ 16 := (Nat.length_toDigits_le_iff (b := 16) (n := adrN k t) (k := 16) (by decide) (by decide)).mpr (Nat.lt_trans h (by decide))
  unfold adrL
  rw [List.length_append, List.length_replicate, List.length_map]
  omega
theorem digit_hex {c : Nat} (h : c < 16) : (Nat.digitChar c).toNat ∈ hexS := by
  have : ∀ c : Nat, c < 16 → (Nat.digitChar c).toNat ∈ hexS := by decide
  exact this c h
theorem digs_hex : ∀ (n : Nat), ∀ c ∈ Nat.toDigits 16 n, c.toNat ∈ hexS := by
  intro n
  induction n using Nat.strongRecOn with
  | _ n ih =>
    intro c hc
    by_cases h : n < 16
    · rw [Nat.toDigits_of_lt_base h] at hc
      rw [List.mem_singleton.mp hc]
      exact digit_hex h
    · rw [Nat.toDigits_of_base_le (by decide) (by omega)] at hc
      rcases List.mem_append.mp hc with z | z
      · exact ih (n / 16) (by omega) c z
      · rw [List.mem_singleton.mp z]
        exact digit_hex (Nat.mod_lt _ (by decide))
theorem adrL_hex (k : Str) (t : List Nat) : ∀ c ∈ adrL k t, c ∈ hexS := by
  intro c hc
  unfold adrL at hc
  rcases List.mem_append.mp hc with z | z
  · rw [List.eq_of_mem_replicate z]
    decide
  · obtain ⟨d, h1, rfl⟩ := List.mem_map.mp z
    exact digs_hex _ d h1
theorem adr_is (k : Str) (t : List Nat) : isAdr (adrL k t) = true := by
  unfold isAdr
  rw [adrL_len, Bool.and_eq_true]
  exact ⟨rfl, List.all_eq_true.mpr fun c hc => decide_eq_true (adrL_hex k t c hc)⟩
def spAddr : Sp := fun vs H Q _ => ∃ (k : Str) (t : List Nat), vs = [.str k, .str (SX.S t)] ∧ k ∈ kinds3 ∧ Q (.str (adr k t)) H
def spIsAdr : Sp := fun vs H Q _ => ∃ (l : List Nat), vs = [.str (SX.S l)] ∧ l.length ≤ 100000 ∧ Q (.bl (isAdr l)) H
theorem kinds_at : ∀ k ∈ kinds3, kinds3[kn k - 1]? = some k ∧ 0 < kn k ∧ ∀ m, m < kn k - 1 → kinds3[m]? ≠ some k := by
  intro k hk
  simp only [kinds3, List.mem_cons, List.not_mem_nil, or_false] at hk
  have e2 : kn "image" = 2 := by decide +kernel
  have e3 : kn "bundle" = 3 := by decide +kernel
  rcases hk with rfl | rfl | rfl
  · refine ⟨by decide +kernel, by decide +kernel, fun m hm => ?_⟩
    exact absurd hm (by rw [show kn "layer" = 1 by decide +kernel]; omega)
  · rw [e2]
    refine ⟨rfl, by decide, fun m hm => ?_⟩
    have : m = 0 := by omega
    subst this
    decide +kernel
  · rw [e3]
    refine ⟨rfl, by decide, fun m hm => ?_⟩
    have : m = 0 ∨ m = 1 := by omega
    rcases this with rfl | rfl <;> decide +kernel
section
variable {P : Program} {w : World} {K : PySem.W.Frag} {mg : Str → Option Value} {base : Heap} {C_Collector C_Store C_Refused C_Malformed a_KINDS : Addr}
theorem ok_address_of (T : Txt w K mg C_Collector C_Store C_Refused C_Malformed a_KINDS) : Cal P w K mg base 1 "address_of" spAddr := by
  refine cal_mk T.d_address_of sc_address_of (fun vs H Q E h => ?_) (fun f cdv A outer s H vs Q E hr h => ?_)
  · obtain ⟨k, t, rfl, _⟩ := h
    rfl
  · obtain ⟨k, t, rfl, hk, q⟩ := h
    obtain ⟨o, its, n, k1, k2, k3, k4, k5, k6⟩ := T.at_KINDS
    obtain ⟨a1, a2, a3⟩ := kinds_at k hk
    refine ⟨_, (pss_cons (ps_set (i := 2) sc_address_of.nd rfl (by first | exact Or.inl rfl | exact Or.inr rfl) (pe_op op_add (pe_bm PySem.F.plainAttrs_tuple PySem.F.slot_tuple_index PySem.F.type_tuple_index mt_tup_index (pe_gc rfl T.g_KINDS) (pa_cons (pv 0) pa_nil)) (pe_int)))
      (pss_cons (ps_for PassesOwn.never rfl (pi_str (pv 1)) (pg_name (i := 3) sc_address_of.nd rfl (by first | exact Or.inl rfl | exact Or.inr rfl)) (pss_one (ps_set (i := 2) sc_address_of.nd rfl (by first | exact Or.inl rfl | exact Or.inr rfl) (pe_op op_mod (pe_op op_add (pe_op op_add (pe_op op_mul (pv 2) (pe_int)) (pe_callB call_ord' (by rfl) T.n_ord (by decide +kernel) (pa_cons (pv 3) pa_nil))) (pe_int)) (pe_gc rfl T.g_PRIME)))))
      (pss_one (ps_ret (pe_joined1 (pe_hex (pv 2) (pe_joined1 pe_str))))))), ?_⟩
    walk_at "lw"
    refine ⟨Or.inr (Or.inl ⟨rfl, o, k1, k2, k3⟩), ?_⟩
    walk_at "lw"
    refine ⟨a_KINDS, kinds3, k, kn k - 1, rfl, rfl, .inr ⟨o, its, n, k1, k2, k4, k5, k6⟩, a1, a3, ?_⟩
    walk_at "lw"
    rw [show ((kn k - 1 : Nat) : Int) + 1 = (kn k : Int) by omega]
    refine for_at walk_sgs (fun i σ H' => H' = H ∧ ∃ v : Option V, σ = [some (.str k), some (.str (SX.S t)), some (.int (hN (kn k) (t.take i) : Nat)), v]) ⟨rfl, none, rfl⟩ (fun _ _ _ _ => trivial) ?_ ?_
    · rintro i x σ H' hx ⟨rfl, v, rfl⟩
      obtain ⟨c, hc, rfl⟩ : ∃ c, t[i]? = some c ∧ V.str (SX.S [c]) = x := by
        unfold sgs at hx
        rw [List.getElem?_map] at hx
        cases e : t[i]? with
        | none => rw [e] at hx; cases hx
        | some c => rw [e] at hx; exact ⟨c, rfl, Option.some.inj hx⟩
      walk_at "lw"
      refine ⟨rfl, some (.str (SX.S [c])), ?_⟩
      rw [take_ok hc, hN_snoc]
      have e : ((hN (kn k) (t.take i) : Nat) : Int) * 257 + (c : Int) + 1 = ((hN (kn k) (t.take i) * 257 + c + 1 : Nat) : Int) := by omega
      have e2 : (((hN (kn k) (t.take i) * 257 + c + 1 : Nat) : Int)) % 2305843009213693951 = (((hN (kn k) (t.take i) * 257 + c + 1) % P61 : Nat) : Int) := by
        unfold P61; omega
      rw [e, e2]
      rfl
    · rintro σ H' ⟨rfl, v, rfl⟩
      rw [show (sgs t).length = t.length by unfold sgs; rw [List.length_map], List.take_length]
      walk_at "lw"
      refine g_hex ?_
      walk_at "lw"
      refine ⟨hN (kn k) t, rfl, Nat.lt_trans (adrN_lt k t) (by decide), ?_⟩
      walk_at "lw"
      exact q
end
end Lw

namespace Lw
open PySem L2
open PyProof.Rows (envOfC)
section
variable {P : Program} {w : World} {K : PySem.W.Frag} {mg : Str → Option Value} {base : Heap} {C_Collector C_Store C_Refused C_Malformed a_KINDS : Addr}
theorem ok_is_address (T : Txt w K mg C_Collector C_Store C_Refused C_Malformed a_KINDS) : Cal P w K mg base 1 "is_address" spIsAdr := by
  refine cal_mk T.d_is_address sc_is_address (fun vs H Q E h => ?_) (fun f cdv A outer s H vs Q E hr h => ?_)
  · obtain ⟨l, rfl, _⟩ := h
    rfl
  · obtain ⟨l, rfl, hl, q⟩ := h
    refine ⟨_, (pss_cons (ps_if (pt_cmpR op_ne (pe_callB call_len_str' (by rfl) T.n_len (by decide +kernel) (pa_cons (pv 0) pa_nil)) (pe_int) (nomark _)) (pss_one (ps_ret (pe_bl))) pss_nil)
      (pss_cons (ps_for PassesOwn.never rfl (pi_str (pv 0)) (pg_name (i := 1) sc_is_address.nd rfl (by first | exact Or.inl rfl | exact Or.inr rfl)) (pss_one (ps_if (pt_cmpR op_notInSg (pv 1) (pe_gc rfl T.g_DIGITS) (by rfl)) (pss_one (ps_ret (pe_bl))) pss_nil)))
      (pss_one (ps_ret (pe_bl))))), ?_⟩
    walk_at "lw"
    refine g_lenT (by rw [SX.S_len]; exact Nat.le_trans hl (by decide)) ?_
    rw [SX.S_len]
    walk_at "lw"
    refine ifn2 (fun h16 => ?_) (fun h16 => ?_)
    · have h16 : l.length = 16 := by have := int_eq.mp h16; omega
      walk_at "lw"
      refine for_at walk_sgs (fun i σ H' => H' = H ∧ (∀ c ∈ l.take i, c ∈ hexS) ∧ ∃ v : Option V, σ = [some (.str (SX.S l)), v]) ⟨rfl, by simp, none, rfl⟩ (fun _ _ _ _ => trivial) ?_ ?_
      · rintro i x σ H' hx ⟨rfl, hi, v, rfl⟩
        obtain ⟨c, hc, rfl⟩ : ∃ c, l[i]? = some c ∧ V.str (SX.S [c]) = x := by
          unfold sgs at hx
          rw [List.getElem?_map] at hx
          cases e : l[i]? with
          | none => rw [e] at hx; cases hx
          | some c => rw [e] at hx; exact ⟨c, rfl, Option.some.inj hx⟩
        walk_at "lw"
        refine ifn2 (fun hm => ?_) (fun hm => ?_)
        · walk_at "lw"
          refine ⟨rfl, fun d hd => ?_, _, rfl⟩
          rw [take_ok hc] at hd
          rcases List.mem_append.mp hd with z | z
          · exact hi d z
          · rw [List.mem_singleton.mp z]
            rw [hexS_eq] at hm
            simpa using hm
        · walk_at "lw"
          have e : isAdr l = false := by
            unfold isAdr
            rw [Bool.and_eq_false_iff]
            right
            rw [List.all_eq_false]
            refine ⟨c, List.mem_of_getElem? hc, ?_⟩
            rw [hexS_eq] at hm
            simpa using hm
          rw [e] at q
          exact q
      · rintro σ H' ⟨rfl, hi, v, rfl⟩
        rw [show (sgs l).length = l.length by unfold sgs; rw [List.length_map], List.take_length] at hi
        walk_at "lw"
        have e : isAdr l = true := by
          unfold isAdr
          rw [Bool.and_eq_true]
          exact ⟨by rw [h16]; rfl, List.all_eq_true.mpr fun c hc => decide_eq_true (hi c hc)⟩
        rw [e] at q
        exact q
    · walk_at "lw"
      have e : isAdr l = false := by
        unfold isAdr
        rw [Bool.and_eq_false_iff]
        left
        exact beq_false_of_ne fun z => h16 (by rw [z]; rfl)
      rw [e] at q
      exact q
end
end Lw

/-! ## texts of images and bundles -/
namespace Lw
open PySem L2
open PyProof.Rows (envOfC)
def imgH : List Nat := [105, 109, 97, 103, 101, 10]
def bunH : List Nat := [98, 117, 110, 100, 108, 101, 10]
theorem imgH_eq : ("image\n" : Str) = SX.S imgH := by decide +kernel
theorem bunH_eq : ("bundle\n" : Str) = SX.S bunH := by decide +kernel
theorem nl_eq : ("\n" : Str) = SX.S [10] := by decide +kernel
theorem sp_eq : (" " : Str) = SX.S [32] := by decide +kernel
def imgL (as : List (List Nat)) : List Nat := imgH ++ (as.map fun a => a ++ [10]).flatten
def bunL (es : List (List Nat × List Nat)) : List Nat := bunH ++ (es.map fun e => e.1 ++ [32] ++ e.2 ++ [10]).flatten
def strS (l : List Nat) : V := .str (SX.S l)
def spImg : Sp := fun vs H Q _ => ∃ (p : Addr) (as : List (List Nat)), vs = [.ref p] ∧ H p = some (.lst (as.map strS)) ∧ as.length ≤ 100 ∧ (∀ a ∈ as, a.length ≤ 1000) ∧ ∀ H', Same H H' → Q (.str (SX.S (imgL as))) H'
def spBun : Sp := fun vs H Q _ => ∃ (p : Addr) (es : List (Addr × List Nat × List Nat)), vs = [.ref p] ∧ H p = some (.lst (es.map fun e => V.ref e.1)) ∧ (∀ e ∈ es, H e.1 = some (.tup [strS e.2.1, strS e.2.2])) ∧ es.length ≤ 100 ∧ (∀ e ∈ es, e.2.1.length + e.2.2.length ≤ 1000) ∧
  ∀ H', Same H H' → Q (.str (SX.S (bunL (es.map (·.2))))) H'
theorem flat_le {l : List (List Nat)} {m : Nat} (h : ∀ a ∈ l, a.length ≤ m) : l.flatten.length ≤ l.length * m := by
  induction l with
  | nil => simp
  | cons a r ih =>
    rw [List.flatten_cons, List.length_append, List.length_cons]
    have := ih fun b hb => h b (List.mem_cons_of_mem _ hb)
    have := h a List.mem_cons_self
    rw [Nat.succ_mul]
    omega
section
variable {P : Program} {w : World} {K : PySem.W.Frag} {mg : Str → Option Value} {base : Heap} {C_Collector C_Store C_Refused C_Malformed a_KINDS : Addr}
theorem ok_image_text (T : Txt w K mg C_Collector C_Store C_Refused C_Malformed a_KINDS) : Cal P w K mg base 1 "image_text" spImg := by
  refine cal_mk T.d_image_text sc_image_text (fun vs H Q E h => ?_) (fun f cdv A outer s H vs Q E hr h => ?_)
  · obtain ⟨p, as, rfl, _⟩ := h
    rfl
  · obtain ⟨p, as, rfl, hp, hz, hl, k⟩ := h
    refine ⟨_, (pss_one (ps_ret (pe_op op_cat_str (pe_str) (pe_join (pe_str) (pe_lc (own := [("address", 1)]) (g := (gName 1)) (by rfl) sc_image_text.nd (pi_list (pv 0)) (blkOk_by (own := [("address", 1)]) (N := n_image_text) (sc := defScope s_image_text) (by decide +kernel)) (fun _ _ _ _ _ => (pg_name (i := 1) sc_image_text.nd rfl (by first | exact Or.inl rfl | exact Or.inr rfl))) (fun _ _ _ _ _ => pts_nil) (fun _ _ _ _ _ => (pe_op op_cat_str (pv 1) (pe_str)))))))), ?_⟩
    walk_at "lw"
    refine g_ritL (SqL.of hp) ?_
    refine lc_map (G := fun H' => SqL K H' p (as.map strS)) walk_list (fun H' s => SqL.of (s _ _ hp)) (by rw [List.length_map]; omega) (fun _ => true) (fun v => match v with | .str x => .str (x ++ SX.S [10]) | _ => v) ?_ ?_
    · intro x hx H' R s1 kk
      obtain ⟨a, ha, rfl⟩ := List.mem_map.mp hx
      walk_at "lw"
      refine kk _ rfl (fun H'' R s2 r => ?_) (fun hp' H'' R s2 r => ?_)
      · walk_at "lw"
        exact r
      · walk_at "lw"
        refine g_cat_str (a := SX.S a) (b := "\n") (by rw [nl_eq, SX.S_len, SX.S_len]; exact Nat.le_trans (Nat.add_le_add (hl a ha) (Nat.le_refl 1)) (by decide)) ?_
        rw [nl_eq]
        exact r _ (Same.refl _)
    · intro q H' nq s1 hq
      rw [List.filter_eq_self.mpr (fun _ _ => rfl), List.map_map] at hq
      have e : (as.map ((fun v => match v with | V.str x => V.str (x ++ SX.S [10]) | _ => v) ∘ strS)) = ((as.map fun a => a ++ [10]).map SX.S).map V.str := by
        rw [List.map_map, List.map_map]
        refine List.map_congr_left fun a _ => ?_
        show V.str (SX.S a ++ SX.S [10]) = V.str (SX.S (a ++ [10]))
        rw [SX.S_cat]
      rw [e] at hq
      have hf : (as.map fun a => a ++ [10]).flatten.length ≤ 100 * 1001 := by
        refine Nat.le_trans (flat_le (m := 1001) fun b hb => ?_) ?_
        · obtain ⟨a, ha, rfl⟩ := List.mem_map.mp hb
          rw [List.length_append]
          have := hl a ha
          show _ + 1 ≤ _
          omega
        · rw [List.length_map]
          exact Nat.mul_le_mul_right _ hz
      refine ⟨"", q, _, rfl, rfl, Or.inl (SqL.of hq), ?_, ?_⟩
      · rw [sum_flat]
        show _ + _ * 0 ≤ 16777216
        omega
      · rw [join_flat]
        refine g_cat_str (a := "image\n") (b := SX.S _) (by rw [imgH_eq, SX.S_len, SX.S_len]; exact Nat.le_trans (Nat.add_le_add (Nat.le_refl 6) hf) (by decide)) ?_
        rw [imgH_eq, SX.S_cat]
        walk_at "lw"
        exact k H' s1
theorem ok_bundle_text (T : Txt w K mg C_Collector C_Store C_Refused C_Malformed a_KINDS) : Cal P w K mg base 1 "bundle_text" spBun := by
  refine cal_mk T.d_bundle_text sc_bundle_text (fun vs H Q E h => ?_) (fun f cdv A outer s H vs Q E hr h => ?_)
  · obtain ⟨p, es, rfl, _⟩ := h
    rfl
  · obtain ⟨p, es, rfl, hp, ht, hz, hl, k⟩ := h
    refine ⟨_, (pss_one (ps_ret (pe_op op_cat_str (pe_str) (pe_join (pe_str) (pe_lc (own := [("platform", 1), ("address", 2)]) (g := (gTup K 2 (gCons (gName 1) (gCons (gName 2) gNil)))) (by rfl) sc_bundle_text.nd (pi_list (pv 0)) (blkOk_by (own := [("platform", 1), ("address", 2)]) (N := n_bundle_text) (sc := defScope s_bundle_text) (by decide +kernel)) (fun _ _ _ _ _ => (pg_tup (by rfl) (pgs_cons (pg_name (i := 1) sc_bundle_text.nd rfl (by first | exact Or.inl rfl | exact Or.inr rfl)) (pgs_cons (pg_name (i := 2) sc_bundle_text.nd rfl (by first | exact Or.inl rfl | exact Or.inr rfl)) pgs_nil)))) (fun _ _ _ _ _ => pts_nil) (fun _ _ _ _ _ => (pe_op op_cat_str (pe_op op_cat_str (pe_op op_cat_str (pv 1) (pe_str)) (pv 2)) (pe_str)))))))), ?_⟩
    walk_at "lw"
    refine g_ritL (SqL.of hp) ?_
    refine lc_map (G := fun H' => SqL K H' p (es.map fun e => V.ref e.1)) walk_list (fun H' s => SqL.of (s _ _ hp)) (by rw [List.length_map]; omega) (fun _ => true)
      (fun v => match v with | .ref a => (match H a with | some (.tup [.str x, .str y]) => .str (x ++ SX.S [32] ++ y ++ SX.S [10]) | _ => .non) | _ => .non) ?_ ?_
    · intro x hx H' R s1 kk
      obtain ⟨e, he, rfl⟩ := List.mem_map.mp hx
      have h1 := ht e he
      refine g_gtup (SqT.of (s1 _ _ h1)) rfl ?_
      walk_at "lw"
      refine kk _ rfl (fun H'' R s2 r => ?_) (fun hp' H'' R s2 r => ?_)
      · walk_at "lw"
        exact r
      · have hl1 := hl e he
        walk_at "lw"
        refine g_cat_str (a := SX.S e.2.1) (b := " ") (by rw [sp_eq, SX.S_len, SX.S_len]; exact Nat.le_trans (show e.2.1.length + 1 ≤ 1001 by omega) (by decide)) ?_
        rw [sp_eq, SX.S_cat]
        walk_at "lw"
        refine g_cat_str (a := SX.S (e.2.1 ++ [32])) (b := SX.S e.2.2) (by rw [SX.S_len, SX.S_len, List.length_append]; exact Nat.le_trans (show e.2.1.length + 1 + e.2.2.length ≤ 1001 by omega) (by decide)) ?_
        rw [SX.S_cat]
        walk_at "lw"
        refine g_cat_str (a := SX.S (e.2.1 ++ [32] ++ e.2.2)) (b := "\n") (by rw [nl_eq, SX.S_len, SX.S_len, List.length_append, List.length_append]; exact Nat.le_trans (show e.2.1.length + 1 + e.2.2.length + 1 ≤ 1002 by omega) (by decide)) ?_
        rw [nl_eq, SX.S_cat]
        have r := r H'' (Same.refl _)
        simp only [h1, strS, SX.S_cat] at r
        exact r
    · intro q H' nq s1 hq
      rw [List.filter_eq_self.mpr (fun _ _ => rfl), List.map_map] at hq
      have e : (es.map ((fun v => match v with | .ref a => (match H a with | some (.tup [.str x, .str y]) => .str (x ++ SX.S [32] ++ y ++ SX.S [10]) | _ => .non) | _ => .non) ∘ fun e => V.ref e.1)) = ((es.map fun e => e.2.1 ++ [32] ++ e.2.2 ++ [10]).map SX.S).map V.str := by
        rw [List.map_map, List.map_map]
        refine List.map_congr_left fun e he => ?_
        simp only [Function.comp, ht e he, strS, SX.S_cat]
      rw [e] at hq
      have hf : (es.map fun e => e.2.1 ++ [32] ++ e.2.2 ++ [10]).flatten.length ≤ 100 * 1002 := by
        refine Nat.le_trans (flat_le (m := 1002) fun b hb => ?_) ?_
        · obtain ⟨e, he, rfl⟩ := List.mem_map.mp hb
          simp only [List.length_append]
          have := hl e he
          show _ + 1 + _ + 1 ≤ _
          omega
        · rw [List.length_map]
          exact Nat.mul_le_mul_right _ hz
      refine ⟨"", q, _, rfl, rfl, Or.inl (SqL.of hq), ?_, ?_⟩
      · rw [sum_flat]
        show _ + _ * 0 ≤ 16777216
        omega
      · rw [join_flat]
        refine g_cat_str (a := "bundle\n") (b := SX.S _) (by rw [bunH_eq, SX.S_len, SX.S_len]; exact Nat.le_trans (Nat.add_le_add (Nat.le_refl 7) hf) (by decide)) ?_
        rw [bunH_eq, SX.S_cat]
        walk_at "lw"
        have k := k H' s1
        unfold bunL at k
        rw [List.map_map] at k
        exact k
end
end Lw

/-! ## texts of images and bundles are read -/
namespace Lw
open PySem L2
open PyProof.Rows (envOfC)
theorem atI_map {α β : Type} {f : α → β} {l : List α} {i : Int} {x : α} (h : atI l i = some x) : atI (l.map f) i = some (f x) := by
  unfold atI at h ⊢
  rw [List.length_map]
  cases e : ixN l.length i with
  | none => rw [e] at h; cases h
  | some j =>
    rw [e] at h
    have h : l[j]? = some x := h
    show (l.map f)[j]? = some (f x)
    rw [List.getElem?_map, h]
    rfl
def lnL (t : List Nat) : List (List Nat) := TL.spl [10] 0 [] t
def wdL (t : List Nat) : List (List Nat) := TL.spl [32] 0 [] t
def lowS : List Nat := [97, 98, 99, 100, 101, 102, 103, 104, 105, 106, 107, 108, 109, 110, 111, 112, 113, 114, 115, 116, 117, 118, 119, 120, 121, 122]
theorem lowS_eq : ("abcdefghijklmnopqrstuvwxyz" : Str) = SX.S lowS := by decide +kernel
def isPlat (l : List Nat) : Bool := decide (1 ≤ l.length) && decide (l.length ≤ 10) && l.all fun c => decide (c ∈ lowS)
def imgW : List Nat := [105, 109, 97, 103, 101]
def bunW : List Nat := [98, 117, 110, 100, 108, 101]
theorem imgW_eq : ("image" : Str) = SX.S imgW := by decide +kernel
theorem bunW_eq : ("bundle" : Str) = SX.S bunW := by decide +kernel
/-- the lines between the first and the last -/
def mid (ls : List (List Nat)) : List (List Nat) := (ls.drop 1).dropLast
def w0 (l : List Nat) : List Nat := (wdL l).getD 0 []
def w1 (l : List Nat) : List Nat := (wdL l).getD 1 []
def okLine (b : Bool) (seen : List (List Nat)) (l : List Nat) : Bool := if b = true then decide ((wdL l).length = 2) && (isPlat (w0 l) && (isAdr (w1 l) && !decide (w0 l ∈ seen))) else isAdr l
/-- the number of the first line that has not its form -/
def scan (b : Bool) : List (List Nat) → Nat → List (List Nat) → Option Nat
  | _, _, [] => none
  | seen, i, l :: r => if okLine b seen l = true then scan b (seen ++ [w0 l]) (i + 1) r else some i
def fault3 (h t : List Nat) : Option Nat :=
  if (lnL t).getD 0 [] ≠ h then some 0 else if (lnL t).getD ((lnL t).length - 1) [] ≠ [] then some ((lnL t).length - 1) else if 52 < (lnL t).length then some 51 else none
def kw (b : Bool) : List Nat := if b = true then bunW else imgW
/-- the line at fault -/
def fault (b : Bool) (t : List Nat) : Option Nat :=
  match fault3 (kw b) t with
  | some n => some n
  | none => if b = true ∧ (lnL t).length = 2 then some 1 else scan b [] 1 (mid (lnL t))
theorem spl_ne (s : List Nat) : ∀ (l : List Nat) (k : Nat) (acc : List Nat), TL.spl s k acc l ≠ []
  | [], k, acc => by simp [TL.spl]
  | c :: r, 0, acc => by
    unfold TL.spl
    split
    · simp
    · exact spl_ne s r 0 _
  | c :: r, k + 1, acc => by
    unfold TL.spl
    exact spl_ne s r k acc
theorem spl_len (s : List Nat) : ∀ (l : List Nat) (k : Nat) (acc : List Nat), (TL.spl s k acc l).length ≤ l.length + 1
  | [], k, acc => by simp [TL.spl]
  | c :: r, 0, acc => by
    unfold TL.spl
    split
    · have := spl_len s r (s.length - 1) []
      simp only [List.length_cons]; omega
    · have := spl_len s r 0 (acc ++ [c])
      simp only [List.length_cons]; omega
  | c :: r, k + 1, acc => by
    unfold TL.spl
    have := spl_len s r k acc
    simp only [List.length_cons]; omega
theorem spl_part_len (s : List Nat) : ∀ (l : List Nat) (k : Nat) (acc : List Nat), ∀ p ∈ TL.spl s k acc l, p.length ≤ acc.length + l.length
  | [], k, acc, p, h => by
    simp [TL.spl] at h
    subst h
    simp
  | c :: r, 0, acc, p, h => by
    unfold TL.spl at h
    split at h
    · rcases List.mem_cons.mp h with z | z
      · subst z; simp only [List.length_cons]; omega
      · have := spl_part_len s r _ _ p z
        simp only [List.length_cons, List.length_nil] at this ⊢; omega
    · have := spl_part_len s r _ _ p h
      simp only [List.length_cons, List.length_append, List.length_nil] at this ⊢; omega
  | c :: r, k + 1, acc, p, h => by
    unfold TL.spl at h
    have := spl_part_len s r _ _ p h
    simp only [List.length_cons] at this ⊢; omega
theorem ln_ne (t : List Nat) : lnL t ≠ [] := spl_ne _ _ _ _
theorem ln_pos (t : List Nat) : 0 < (lnL t).length := List.length_pos_iff.mpr (ln_ne t)
theorem ln_le (t : List Nat) : (lnL t).length ≤ t.length + 1 := spl_len _ _ _ _
theorem ln_part {t p : List Nat} (h : p ∈ lnL t) : p.length ≤ t.length := by have := spl_part_len _ _ _ _ p h; simpa using this
theorem wd_le (t : List Nat) : (wdL t).length ≤ t.length + 1 := spl_len _ _ _ _
theorem wd_pos (t : List Nat) : 0 < (wdL t).length := List.length_pos_iff.mpr (spl_ne _ _ _ _)
theorem wd_part {t p : List Nat} (h : p ∈ wdL t) : p.length ≤ t.length := by have := spl_part_len _ _ _ _ p h; simpa using this
theorem mid_len (ls : List (List Nat)) : (mid ls).length = ls.length - 2 := by unfold mid; rw [List.length_dropLast, List.length_drop]; omega
theorem mid_mem {ls : List (List Nat)} {p : List Nat} (h : p ∈ mid ls) : p ∈ ls := List.mem_of_mem_drop ((List.dropLast_sublist _).subset h)
theorem mid_at {ls : List (List Nat)} {i : Nat} (h : i < (mid ls).length) : (mid ls)[i]? = ls[i + 1]? := by
  unfold mid at h ⊢
  rw [List.length_dropLast] at h
  rw [List.getElem?_dropLast, if_pos h, List.getElem?_drop, Nat.add_comm]
theorem split_ln {t : List Nat} : Txt.split (SX.S t) "\n" = (lnL t).map SX.S := by
  rw [show ("\n" : Str) = SX.S [10] by decide +kernel]
  exact SX.split_S (by simp) (by decide)
theorem split_wd {t : List Nat} : Txt.split (SX.S t) " " = (wdL t).map SX.S := by
  rw [show (" " : Str) = SX.S [32] by decide +kernel]
  exact SX.split_S (by simp) (by decide)
theorem cut_mid (ls : List (List Nat)) : cutV (ls.map strS) (some 1) (some (-1)) = (mid ls).map strS := by
  unfold cutV mid
  rw [List.length_map]
  have h1 : HT.sIx ls.length 0 (some 1) = min 1 ls.length := by
    unfold HT.sIx
    simp
  have h2 : HT.sIx ls.length ls.length (some (-1)) = ls.length - 1 := by
    unfold HT.sIx
    simp
    omega
  rw [h1, h2, List.dropLast_eq_take, List.length_drop, ← List.map_drop, ← List.map_take]
  by_cases h : ls.length = 0
  · rw [List.length_eq_zero_iff.mp h]
    rfl
  · rw [Nat.min_eq_left (by omega)]
theorem g_spl {x y : Str} {H : Hp} {Q : VK} (hy : (y.length == 0) = false) (hx : x.length + 2 ≤ sizeLine) (k : ∀ p H', H p = none → Same H H' → H' p = some (.lst ((Txt.split x y).map V.str)) → Q (.ref p) H') :
    ∃ a b, V.str x = .str a ∧ [V.str y] = [.str b] ∧ (b.length == 0) = false ∧ a.length + 2 ≤ sizeLine ∧ rNewStrs (Txt.split a b) H Q :=
  ⟨x, y, rfl, rfl, hy, hx, New.to (Q := fun p H' => Q (.ref p) H') k⟩
theorem scan_at {b : Bool} {s ls : List (List Nat)} {k i : Nat} {l : List Nat} (h : ls[i]? = some l) : scan b s k (ls.drop i) = if okLine b s l = true then scan b (s ++ [w0 l]) (k + 1) (ls.drop (i + 1)) else some k := by
  obtain ⟨hl, e⟩ := List.getElem?_eq_some_iff.mp h
  rw [List.drop_eq_getElem_cons hl, e]
  rfl
def spPlat : Sp := fun vs H Q _ => ∃ (l : List Nat), vs = [.str (SX.S l)] ∧ l.length ≤ 100000 ∧ Q (.bl (isPlat l)) H
/-- the way out of a def that finds the line n at fault -/
def OutX (C : Addr) (H : Hp) (E : XK) (o : Option Nat) : Prop := ∀ n, o = some n → ∀ d H', Same H H' → H' d = some (.xd [("line", .int (n : Int))]) → E (.ref C) (some d) H'
def spLines (C : Addr) : Sp := fun vs H Q E => ∃ (t h : List Nat), vs = [.str (SX.S t), .str (SX.S h)] ∧ t.length ≤ 100000 ∧
  (fault3 h t = none → ∀ q H', Same H H' → H' q = some (.lst ((mid (lnL t)).map strS)) → Q (.ref q) H') ∧ OutX C H E (fault3 h t)
def spReadI (C : Addr) : Sp := fun vs H Q E => ∃ (t : List Nat), vs = [.str (SX.S t)] ∧ t.length ≤ 100000 ∧
  (fault false t = none → ∀ q H', Same H H' → H' q = some (.lst ((mid (lnL t)).map strS)) → Q (.ref q) H') ∧ OutX C H E (fault false t)
/-- a list of pairs of texts at q -/
def PrsAt (H : Hp) (q : Addr) (ps : List (List Nat × List Nat)) : Prop := ∃ es : List (Addr × List Nat × List Nat), es.map (·.2) = ps ∧ H q = some (.lst (es.map fun e => V.ref e.1)) ∧ ∀ e ∈ es, H e.1 = some (.tup [strS e.2.1, strS e.2.2])
def prs (t : List Nat) : List (List Nat × List Nat) := (mid (lnL t)).map fun l => (w0 l, w1 l)
def spReadB (C : Addr) : Sp := fun vs H Q E => ∃ (t : List Nat), vs = [.str (SX.S t)] ∧ t.length ≤ 100000 ∧
  (fault true t = none → ∀ q H', Same H H' → PrsAt H' q (prs t) → Q (.ref q) H') ∧ OutX C H E (fault true t)
def refsL (k : Str) (t : List Nat) : List (List Nat) := if k = "layer" then [] else if k = "image" then mid (lnL t) else (prs t).map (·.2)
def faultK (k : Str) (t : List Nat) : Option Nat := if k = "layer" then none else fault (!decide (k = "image")) t
def spRefs (C : Addr) : Sp := fun vs H Q E => ∃ (k : Str) (t : List Nat), vs = [.str k, .str (SX.S t)] ∧ t.length ≤ 100000 ∧
  (faultK k t = none → ∀ q H', Same H H' → H' q = some (.lst ((refsL k t).map strS)) → Q (.ref q) H') ∧ OutX C H E (faultK k t)
section
variable {P : Program} {w : World} {K : PySem.W.Frag} {mg : Str → Option Value} {base : Heap} {C_Collector C_Store C_Refused C_Malformed a_KINDS : Addr}
theorem ok_Malformed___init__ (T : Txt w K mg C_Collector C_Store C_Refused C_Malformed a_KINDS) : Exo P w K mg base 1 "Malformed" C_Malformed (spXInit C_Malformed "line") := by
  refine exo_mk T.ox_Malformed T.i_Malformed sc_Malformed___init__ (fun vs H Q E h => ?_) (fun f cdv A outer s H vs Q E hr h => ?_)
  · obtain ⟨a, v, rfl, _⟩ := h
    rfl
  · obtain ⟨a, v, rfl, ha, k⟩ := h
    refine ⟨_, (pss_one (ps_ost (pv 0) (pv 1))), ?_⟩
    exact ⟨_, rfl, _, rfl, a, C_Malformed, rfl, T.ox_Malformed, T.na_Malformed_line, .inl ⟨ha, fun dx h1 h2 => k dx h1 h2⟩⟩
theorem ok_is_platform (T : Txt w K mg C_Collector C_Store C_Refused C_Malformed a_KINDS) : Cal P w K mg base 1 "is_platform" spPlat := by
  refine cal_mk T.d_is_platform sc_is_platform (fun vs H Q E h => ?_) (fun f cdv A outer s H vs Q E hr h => ?_)
  · obtain ⟨l, rfl, _⟩ := h
    rfl
  · obtain ⟨l, rfl, hl, q⟩ := h
    refine ⟨_, (pss_cons (ps_if (PW.pt (pw_or (pt_cmpR op_lt (pe_callB call_len_str' (by rfl) T.n_len (by decide +kernel) (pa_cons (pv 0) pa_nil)) (pe_int) (nomark _)) (pw_or1 (pt_cmpR op_gt (pe_callB call_len_str' (by rfl) T.n_len (by decide +kernel) (pa_cons (pv 0) pa_nil)) (pe_int) (nomark _))))) (pss_one (ps_ret (pe_bl))) pss_nil)
      (pss_cons (ps_for PassesOwn.never rfl (pi_str (pv 0)) (pg_name (i := 1) sc_is_platform.nd rfl (by first | exact Or.inl rfl | exact Or.inr rfl)) (pss_one (ps_if (pt_cmpR op_notInSg (pv 1) (pe_gc rfl T.g_LETTERS) (by rfl)) (pss_one (ps_ret (pe_bl))) pss_nil)))
      (pss_one (ps_ret (pe_bl))))), ?_⟩
    have hz : (SX.S l).length ≤ sizeLine := by rw [SX.S_len]; exact Nat.le_trans hl (by decide)
    walk_at "lw"
    refine g_lenT hz ?_
    rw [SX.S_len]
    walk_at "lw"
    refine if2 (fun h1 => ?_) (fun h1 => ?_)
    · walk_at "lw"
      have e : isPlat l = false := by
        unfold isPlat
        rw [decide_eq_false (by omega : ¬ 1 ≤ l.length)]
        rfl
      rw [e] at q
      exact q
    · walk_at "lw"
      refine g_lenT hz ?_
      rw [SX.S_len]
      walk_at "lw"
      refine if2 (fun h2 => ?_) (fun h2 => ?_)
      · walk_at "lw"
        have e : isPlat l = false := by
          unfold isPlat
          rw [decide_eq_false (by omega : ¬ l.length ≤ 10), Bool.and_false]
          rfl
        rw [e] at q
        exact q
      · walk_at "lw"
        refine for_at walk_sgs (fun i σ H' => H' = H ∧ (∀ c ∈ l.take i, c ∈ lowS) ∧ ∃ v : Option V, σ = [some (.str (SX.S l)), v]) ⟨rfl, by simp, none, rfl⟩ (fun _ _ _ _ => trivial) ?_ ?_
        · rintro i x σ H' hx ⟨rfl, hi, v, rfl⟩
          obtain ⟨c, hc, rfl⟩ := sgs_at hx
          walk_at "lw"
          refine ifn2 (fun hm => ?_) (fun hm => ?_)
          · walk_at "lw"
            refine ⟨rfl, fun d hd => ?_, _, rfl⟩
            rw [take_ok hc] at hd
            rcases List.mem_append.mp hd with z | z
            · exact hi d z
            · rw [List.mem_singleton.mp z]
              rw [lowS_eq] at hm
              simpa using hm
          · walk_at "lw"
            have e : isPlat l = false := by
              unfold isPlat
              rw [Bool.and_eq_false_iff]
              right
              rw [List.all_eq_false]
              refine ⟨c, List.mem_of_getElem? hc, ?_⟩
              rw [lowS_eq] at hm
              simpa using hm
            rw [e] at q
            exact q
        · rintro σ H' ⟨rfl, hi, v, rfl⟩
          rw [sgs_len, List.take_length] at hi
          walk_at "lw"
          have e : isPlat l = true := by
            unfold isPlat
            rw [Bool.and_eq_true, Bool.and_eq_true, decide_eq_true_eq, decide_eq_true_eq]
            exact ⟨⟨by omega, by omega⟩, List.all_eq_true.mpr fun c hc => decide_eq_true (hi c hc)⟩
          rw [e] at q
          exact q
theorem ok_lines_of (T : Txt w K mg C_Collector C_Store C_Refused C_Malformed a_KINDS) : CalX P w K mg base 3 "lines_of" (spLines C_Malformed) := by
  have x_Malformed : Exo P w K mg base 1 "Malformed" C_Malformed (spXInit C_Malformed "line") := ok_Malformed___init__ T
  refine calX_mk T.d_lines_of sc_lines_of (fun vs H Q E h => ?_) (fun f cdv A outer s H vs Q E hr h => ?_)
  · obtain ⟨t, h, rfl, _⟩ := h
    rfl
  · obtain ⟨t, h, rfl, hl, k, kx⟩ := h
    refine ⟨_, (pss_cons (ps_set (i := 2) sc_lines_of.nd rfl (by first | exact Or.inl rfl | exact Or.inr rfl) (pe_split (pv 0) (pe_str)))
      (pss_cons (ps_if (pt_cmpR op_ne (pe_ix ix_list (pv 2) (pe_int) (fun _ _ => rfl)) (pv 1) (nomark _)) (pss_one (ps_rs rfl (takes_of rfl rfl rfl rfl) (pmk_x x_Malformed hr (by first | decide | omega) rfl (pa_cons (pe_int) pa_nil)))) pss_nil)
      (pss_cons (ps_if (pt_cmpR op_ne (pe_ix ix_list (pv 2) (pe_un un_neg (pe_int)) (fun _ _ => rfl)) (pe_str) (nomark _)) (pss_one (ps_rs rfl (takes_of rfl rfl rfl rfl) (pmk_x x_Malformed hr (by first | decide | omega) rfl (pa_cons (pe_op op_sub (pe_callB call_len_seq' (by rfl) T.n_len (by decide +kernel) (pa_cons (pv 2) pa_nil)) (pe_int)) pa_nil)))) pss_nil)
      (pss_cons (ps_if (pt_cmpR op_gt (pe_callB call_len_seq' (by rfl) T.n_len (by decide +kernel) (pa_cons (pv 2) pa_nil)) (pe_op op_add (pe_gc rfl T.g_MAX_LINES) (pe_int)) (nomark _)) (pss_one (ps_rs rfl (takes_of rfl rfl rfl rfl) (pmk_x x_Malformed hr (by first | decide | omega) rfl (pa_cons (pe_op op_add (pe_gc rfl T.g_MAX_LINES) (pe_int)) pa_nil)))) pss_nil)
      (pss_one (ps_ret (pe_slice sl_list (pv 2) (po_some (pe_int)) (po_some (pe_un un_neg (pe_int)))))))))), ?_⟩
    have hp := ln_pos t
    have hle := ln_le t
    walk_at "lw"
    refine g_spl (by decide +kernel) (by rw [SX.S_len]; exact Nat.le_trans (show t.length + 2 ≤ 100002 by omega) (by decide)) fun q H1 nq s1 hq => ?_
    rw [split_ln, List.map_map] at hq
    have hq : H1 q = some (.lst ((lnL t).map strS)) := hq
    have a0 : atI (lnL t) 0 = some ((lnL t).getD 0 []) := by
      have := atI_nat (xs := lnL t) (j := 0) (v := (lnL t).getD 0 []) (by rw [List.getD_eq_getElem?_getD, List.getElem?_eq_getElem hp]; rfl)
      exact this
    have a1 : atI (lnL t) (-1) = some ((lnL t).getD ((lnL t).length - 1) []) := by
      have h1 : (lnL t)[(lnL t).length - 1]? = some ((lnL t).getD ((lnL t).length - 1) []) := by rw [List.getD_eq_getElem?_getD, List.getElem?_eq_getElem (by omega)]; rfl
      unfold atI
      rw [show ixN (lnL t).length (-1) = some ((lnL t).length - 1) by unfold ixN; rw [if_neg (by decide), if_pos (by omega)]; congr 1; omega]
      exact h1
    walk_at "lw"
    refine g_rix (SqL.of hq) (atI_map a0) ?_
    walk_at "lw"
    show if (!decide (V.str (SX.S ((lnL t).getD 0 [])) = V.str (SX.S h))) = true then _ else _
    refine ifn2 (fun e0 => ?_) (fun e0 => ?_)
    · have e0 : (lnL t).getD 0 [] = h := SX.S_inj (str_eq.mp e0)
      walk_at "lw"
      refine ⟨_, rfl, ?_⟩
      refine g_rix (SqL.of hq) (atI_map a1) ?_
      walk_at "lw"
      show if (!decide (V.str (SX.S ((lnL t).getD ((lnL t).length - 1) [])) = V.str "")) = true then _ else _
      refine ifn2 (fun e1 => ?_) (fun e1 => ?_)
      · have e1 : (lnL t).getD ((lnL t).length - 1) [] = [] := SX.S_inj (by rw [← empty_S]; exact str_eq.mp e1)
        walk_at "lw"
        rw [List.length_map]
        refine if2 (fun e2 => ?_) (fun e2 => ?_)
        · have e : fault3 h t = some 51 := by
            unfold fault3
            rw [if_neg (fun z => z e0), if_neg (fun z => z e1), if_pos (by omega)]
          walk_at "lw"
          exact g_rmkO fun d H' _ s' hd => kx _ e d H' (s1.trans s') hd
        · have e : fault3 h t = none := by
            unfold fault3
            rw [if_neg (fun z => z e0), if_neg (fun z => z e1), if_neg (by omega)]
          walk_at "lw"
          refine ⟨_, rfl, ?_⟩
          walk_at "lw"
          refine g_slL (SqL.of hq) fun q2 H2 _ s2 hq2 => ?_
          rw [cut_mid] at hq2
          walk_at "lw"
          exact k e q2 H2 (s1.trans s2) hq2
      · have e1 : ¬ (lnL t).getD ((lnL t).length - 1) [] = [] := fun z => e1 (by rw [z]; exact str_eq.mpr empty_S.symm)
        have e : fault3 h t = some ((lnL t).length - 1) := by
          unfold fault3
          rw [if_neg (fun z => z e0), if_pos e1]
        walk_at "lw"
        refine g_rmkO fun d H' _ s' hd => kx _ e d H' (s1.trans s') ?_
        rw [hd, List.length_map]
        congr 6
        omega
    · have e0 : ¬ (lnL t).getD 0 [] = h := fun z => e0 (by rw [z])
      have e : fault3 h t = some 0 := by
        unfold fault3
        rw [if_pos e0]
      walk_at "lw"
      exact g_rmkO fun d H' _ s' hd => kx _ e d H' (s1.trans s') hd
end
end Lw

/-! ## images, bundles, references -/
namespace Lw
open PySem L2
open PyProof.Rows (envOfC)
theorem OutX.mk {C : Addr} {H : Hp} {E : XK} {o : Option Nat} {n : Nat} {z : Int} (k : OutX C H E o) (e : o = some n) (hz : z = (n : Int)) : ∀ d H', Same H H' → H' d = some (.xd [("line", .int z)]) → E (.ref C) (some d) H' := by
  subst hz
  exact fun d H' s h => k n e d H' s h
theorem fault_of3 {b : Bool} {t : List Nat} {n : Nat} (h : fault3 (kw b) t = some n) : fault b t = some n := by
  unfold fault
  rw [h]
theorem fault_one {t : List Nat} (h : fault3 (kw true) t = none) (h2 : (lnL t).length = 2) : fault true t = some 1 := by
  unfold fault
  rw [h]
  exact if_pos ⟨rfl, h2⟩
theorem fault_scan {b : Bool} {t : List Nat} (h : fault3 (kw b) t = none) (h2 : ¬ (b = true ∧ (lnL t).length = 2)) : fault b t = scan b [] 1 (mid (lnL t)) := by
  unfold fault
  rw [h]
  exact if_neg h2
theorem kw_ne (b : Bool) : kw b ≠ [] := by cases b <;> decide
theorem ln_two {b : Bool} {t : List Nat} (h : fault3 (kw b) t = none) : 2 ≤ (lnL t).length := by
  have hp := ln_pos t
  unfold fault3 at h
  split at h
  · cases h
  · rename_i h1
    split at h
    · cases h
    · rename_i h2
      by_cases h3 : (lnL t).length = 1
      · rw [h3] at h2
        have e1 := Classical.not_not.mp h1
        have e2 := Classical.not_not.mp h2
        exact absurd (e1.symm.trans e2) (kw_ne b)
      · omega
theorem _root_.L2.Same.chg {H H' H2 : Hp} {p : Addr} (s : Same H H') (n : H p = none) (k : ∀ b, b ≠ p → H2 b = H' b) : Same H H2 := fun b o e => by rw [k b (ne_of_none e n)]; exact s b o e
section
variable {σ : L2.St} {H : Hp} {D : Ends} {g : TG} {tl : TA}
def kFor2 (g : TG) (tb : TS) (D : Ends) (σ : L2.St) (vs : List V) (H : Hp) : Prop := ∃ a b : Int, vs = [.int a, .int b] ∧ (-(2 ^ 62) ≤ a ∧ a < 2 ^ 62 ∧ -(2 ^ 62) ≤ b ∧ b < 2 ^ 62) ∧ kFor g tb D σ (Itr a (b - a).toNat) H
theorem g_forR2 {tb : TS} (k : tl σ H (kFor2 g tb D σ)) : tFor (iRng2 tl) g tb D σ H := k
theorem g_for2 {tb : TS} {a b : Int} (h0 : 0 ≤ a) (h1 : a ≤ 100000) (h2 : 0 ≤ b) (h3 : b ≤ 100000) (Pv : Nat → L2.St → Hp → Prop) (hi : Pv 0 σ H) (hs : ∀ (i : Nat) σ H, i < (b - a).toNat → Pv i σ H → g (.int (a + (i : Int))) σ H fun σ2 H2 => tb { D with nx := Pv (i + 1), ct := Pv (i + 1), bk := D.nx } σ2 H2)
    (hd : ∀ σ H, Pv (b - a).toNat σ H → D.nx σ H) : kFor2 g tb D σ [.int a, .int b] H :=
  ⟨a, b, rfl, ⟨by omega, by omega, by omega, by omega⟩, for_range Pv hi hs hd⟩
end
theorem w0_at {l : List Nat} : (wdL l)[0]? = some (w0 l) := by
  have h := wd_pos l
  unfold w0
  rw [List.getD_eq_getElem?_getD, List.getElem?_eq_getElem h]
  rfl
theorem w1_at {l : List Nat} (h : (wdL l).length = 2) : (wdL l)[1]? = some (w1 l) := by
  unfold w1
  rw [List.getD_eq_getElem?_getD, List.getElem?_eq_getElem (by omega)]
  rfl
theorem w0_len (l : List Nat) : (w0 l).length ≤ l.length := wd_part (List.mem_of_getElem? w0_at)
theorem w1_len {l : List Nat} (h : (wdL l).length = 2) : (w1 l).length ≤ l.length := wd_part (List.mem_of_getElem? (w1_at h))
theorem S_mem {a : List Nat} {s : List (List Nat)} : SX.S a ∈ s.map SX.S ↔ a ∈ s := by
  rw [List.mem_map]
  exact ⟨fun ⟨b, hb, e⟩ => by rw [← SX.S_inj e]; exact hb, fun h => ⟨a, h, rfl⟩⟩
section
variable {P : Program} {w : World} {K : PySem.W.Frag} {mg : Str → Option Value} {base : Heap} {C_Collector C_Store C_Refused C_Malformed a_KINDS : Addr}
theorem ok_read_image (T : Txt w K mg C_Collector C_Store C_Refused C_Malformed a_KINDS) : CalX P w K mg base 4 "read_image" (spReadI C_Malformed) := by
  have x_Malformed : Exo P w K mg base 1 "Malformed" C_Malformed (spXInit C_Malformed "line") := ok_Malformed___init__ T
  have c_is_address : Cal P w K mg base 1 "is_address" spIsAdr := ok_is_address T
  have c_lines_of : CalX P w K mg base 3 "lines_of" (spLines C_Malformed) := ok_lines_of T
  refine calX_mk T.d_read_image sc_read_image (fun vs H Q E h => ?_) (fun f cdv A outer s H vs Q E hr h => ?_)
  · obtain ⟨t, rfl, _⟩ := h
    rfl
  · obtain ⟨t, rfl, hl, k, kx⟩ := h
    refine ⟨_, (pss_cons (ps_set (i := 1) sc_read_image.nd rfl (by first | exact Or.inl rfl | exact Or.inr rfl) (pe_cX c_lines_of (takes_of rfl rfl rfl rfl) hr (by first | decide | omega) rfl (pa_cons (pv 0) (pa_cons (pe_str) pa_nil))))
      (pss_cons (ps_for (passes_of rfl) rfl (pi_range1 (by rfl) T.n_range (pa_cons (pe_callB call_len_seq' (by rfl) T.n_len (by decide +kernel) (pa_cons (pv 1) pa_nil)) pa_nil)) (pg_name (i := 2) sc_read_image.nd rfl (by first | exact Or.inl rfl | exact Or.inr rfl)) (pss_one (ps_if (pt_not (pt_val (pe_c c_is_address hr (by first | decide | omega) rfl (pa_cons (pe_ix ix_list (pv 1) (pv 2) (fun _ _ => rfl)) pa_nil)))) (pss_one (ps_rs rfl (takes_of rfl rfl rfl rfl) (pmk_x x_Malformed hr (by first | decide | omega) rfl (pa_cons (pe_op op_add (pv 2) (pe_int)) pa_nil)))) pss_nil)))
      (pss_one (ps_ret (pv 1))))), ?_⟩
    walk_at "lw"
    refine ⟨t, imgW, by rw [imgW_eq], hl, fun h3 q H1 s1 hq => ?_, fun n hn d H1 s1 hd => kx.mk (fault_of3 (b := false) hn) rfl d H1 s1 hd⟩
    have hf := fault_scan (b := false) h3 (fun z => by cases z.1)
    have hm : (mid (lnL t)).length ≤ 100000 := by rw [mid_len]; have := ln_le t; omega
    rw [hf] at k kx
    walk_at "lw"
    rw [List.length_map]
    refine g_for1 (by omega) (by omega) (fun i σ H' => H' = H1 ∧ (∃ s, scan false [] 1 (mid (lnL t)) = scan false s (1 + i) ((mid (lnL t)).drop i)) ∧ ∃ v : Option V, σ = [some (.str (SX.S t)), some (.ref q), v]) ⟨rfl, ⟨[], rfl⟩, none, rfl⟩ ?_ ?_
    · rintro i σ H' hi ⟨rfl, ⟨s, hs⟩, v, rfl⟩
      obtain ⟨l, hl2⟩ : ∃ l, (mid (lnL t))[i]? = some l := ⟨_, List.getElem?_eq_getElem (by omega)⟩
      have hlen := ln_part (mid_mem (List.mem_of_getElem? hl2))
      rw [scan_at hl2] at hs
      walk_at "lw"
      refine g_rix (SqL.of hq) (atI_map (atI_nat hl2)) ?_
      walk_at "lw"
      refine ⟨l, rfl, by omega, ?_⟩
      walk_at "lw"
      cases hb : isAdr l with
      | true =>
        walk_at "lw"
        refine ⟨rfl, ⟨_, hs.trans (if_pos ?_)⟩, _, rfl⟩
        exact hb
      | false =>
        have e := hs.trans (if_neg (show ¬ okLine false s l = true by unfold okLine; rw [if_neg (by decide), hb]; decide))
        walk_at "lw"
        exact g_rmkO fun d H2 _ s2 hd => kx.mk e (by omega) d H2 (s1.trans s2) hd
    · rintro σ H' ⟨rfl, ⟨s, hs⟩, v, rfl⟩
      rw [show ((mid (lnL t)).length : Int).toNat = (mid (lnL t)).length by omega, List.drop_length] at hs
      walk_at "lw"
      exact k hs q H' s1 hq
theorem ok_read_bundle (T : Txt w K mg C_Collector C_Store C_Refused C_Malformed a_KINDS) : CalX P w K mg base 4 "read_bundle" (spReadB C_Malformed) := by
  have x_Malformed : Exo P w K mg base 1 "Malformed" C_Malformed (spXInit C_Malformed "line") := ok_Malformed___init__ T
  have c_is_address : Cal P w K mg base 1 "is_address" spIsAdr := ok_is_address T
  have c_is_platform : Cal P w K mg base 1 "is_platform" spPlat := ok_is_platform T
  have c_lines_of : CalX P w K mg base 3 "lines_of" (spLines C_Malformed) := ok_lines_of T
  refine calX_mk T.d_read_bundle sc_read_bundle (fun vs H Q E h => ?_) (fun f cdv A outer s H vs Q E hr h => ?_)
  · obtain ⟨t, rfl, _⟩ := h
    rfl
  · obtain ⟨t, rfl, hl, k, kx⟩ := h
    have hu := hu_of hr
    refine ⟨_, (pss_cons (ps_set (i := 1) sc_read_bundle.nd rfl (by first | exact Or.inl rfl | exact Or.inr rfl) (pe_cX c_lines_of (takes_of rfl rfl rfl rfl) hr (by first | decide | omega) rfl (pa_cons (pv 0) (pa_cons (pe_str) pa_nil))))
      (pss_cons (ps_if (pt_cmpR op_eq (pe_callB call_len_seq' (by rfl) T.n_len (by decide +kernel) (pa_cons (pv 1) pa_nil)) (pe_int) (nomark _)) (pss_one (ps_rs rfl (takes_of rfl rfl rfl rfl) (pmk_x x_Malformed hr (by first | decide | omega) rfl (pa_cons (pe_int) pa_nil)))) pss_nil)
      (pss_cons (ps_set (i := 2) sc_read_bundle.nd rfl (by first | exact Or.inl rfl | exact Or.inr rfl) (pe_lst pa_nil))
      (pss_cons (ps_set (i := 3) sc_read_bundle.nd rfl (by first | exact Or.inl rfl | exact Or.inr rfl) (pe_dnewK))
      (pss_cons (ps_for (passes_of rfl) rfl (pi_range1 (by rfl) T.n_range (pa_cons (pe_callB call_len_seq' (by rfl) T.n_len (by decide +kernel) (pa_cons (pv 1) pa_nil)) pa_nil)) (pg_name (i := 4) sc_read_bundle.nd rfl (by first | exact Or.inl rfl | exact Or.inr rfl)) (pss_cons (ps_set (i := 5) sc_read_bundle.nd rfl (by first | exact Or.inl rfl | exact Or.inr rfl) (pe_split (pe_ix ix_list (pv 1) (pv 4) (fun _ _ => rfl)) (pe_str)))
      (pss_cons (ps_if (PW.pt (pw_or (pt_cmpR op_ne (pe_callB call_len_seq' (by rfl) T.n_len (by decide +kernel) (pa_cons (pv 5) pa_nil)) (pe_int) (nomark _)) (pw_or (pt_not (pt_val (pe_c c_is_platform hr (by first | decide | omega) rfl (pa_cons (pe_ix ix_list (pv 5) (pe_int) (fun _ _ => rfl)) pa_nil)))) (pw_or1 (pt_not (pt_val (pe_c c_is_address hr (by first | decide | omega) rfl (pa_cons (pe_ix ix_list (pv 5) (pe_int) (fun _ _ => rfl)) pa_nil)))))))) (pss_one (ps_rs rfl (takes_of rfl rfl rfl rfl) (pmk_x x_Malformed hr (by first | decide | omega) rfl (pa_cons (pe_op op_add (pv 4) (pe_int)) pa_nil)))) pss_nil)
      (pss_cons (ps_if (pt_cmp (pc_din hu (pe_ix ix_list (pv 5) (pe_int) (fun _ _ => rfl)) (pv 3))) (pss_one (ps_rs rfl (takes_of rfl rfl rfl rfl) (pmk_x x_Malformed hr (by first | decide | omega) rfl (pa_cons (pe_op op_add (pv 4) (pe_int)) pa_nil)))) pss_nil)
      (pss_cons (ps_dput hu (pv 3) (pe_ix ix_list (pv 5) (pe_int) (fun _ _ => rfl)) (pe_bl) rfl)
      (pss_one (ps_expr (pe_bm PySem.F.plainAttrs_list PySem.F.slot_list_append PySem.F.type_list_append mt_append (pv 2) (pa_cons (pe_tup (pa_cons (pe_ix ix_list (pv 5) (pe_int) (fun _ _ => rfl)) (pa_cons (pe_ix ix_list (pv 5) (pe_int) (fun _ _ => rfl)) pa_nil))) pa_nil)))))))))
      (pss_one (ps_ret (pv 2)))))))), ?_⟩
    walk_at "lw"
    refine ⟨t, bunW, by rw [bunW_eq], hl, fun h3 q H1 s1 hq => ?_, fun n hn d H1 s1 hd => kx.mk (fault_of3 (b := true) hn) rfl d H1 s1 hd⟩
    have h2 := ln_two (b := true) h3
    have hm0 := mid_len (lnL t)
    have hm : (mid (lnL t)).length ≤ 100000 := by have := ln_le t; omega
    walk_at "lw"
    rw [List.length_map]
    refine if2 (fun hz => ?_) (fun hz => ?_)
    · have hz : (mid (lnL t)).length = 0 := by have := int_eq.mp hz; omega
      walk_at "lw"
      exact g_rmkO fun d H2 _ s2 hd => kx.mk (fault_one h3 (by omega)) rfl d H2 (s1.trans s2) hd
    · have hf := fault_scan (b := true) h3 (fun z => hz (by rw [hm0, z.2]; rfl))
      rw [hf] at k kx
      walk_at "lw"
      refine g_klst (by show 0 ≤ 100; decide) fun en H2 nen s2 hen => ?_
      walk_at "lw"
      refine g_dnew fun sn H3 nsn s3 hsn => ?_
      have hen3 := s3.at hen
      have neq : q ≠ en := ne_of_none hq nen
      have nes : en ≠ sn := ne_of hen3 hsn (by intro z; cases z)
      have nqs : q ≠ sn := ne_of ((s2.trans s3).at hq) hsn (by intro z; cases z)
      have n0e : H en = none := s1.free nen
      have n0s : H sn = none := (s1.trans s2).free nsn
      walk_at "lw"
      rw [List.length_map]
      refine g_for1 (by omega) (by omega) (fun i σ H' => Same H H' ∧ H' q = some (.lst ((mid (lnL t)).map strS)) ∧ scan true [] 1 (mid (lnL t)) = scan true (((mid (lnL t)).take i).map w0) (1 + i) ((mid (lnL t)).drop i) ∧
        H' sn = some (.dK (mkS ((((mid (lnL t)).take i).map w0).map SX.S) fun _ => .bl true)) ∧ PrsAt H' en (((mid (lnL t)).take i).map fun l => (w0 l, w1 l)) ∧ ∃ v v2 : Option V, σ = [some (.str (SX.S t)), some (.ref q), some (.ref en), some (.ref sn), v, v2]) ?_ ?_ ?_
      · exact ⟨(s1.trans s2).trans s3, (s2.trans s3).at hq, rfl, hsn, ⟨[], rfl, hen3, fun e he => nomatch he⟩, _, _, rfl⟩
      · rintro i σ H4 hi ⟨s4, hq4, hs, hs4, ⟨es, es1, es2, es3⟩, v, v2, rfl⟩
        obtain ⟨l, hl2⟩ : ∃ l, (mid (lnL t))[i]? = some l := ⟨_, List.getElem?_eq_getElem (by omega)⟩
        have hlen := ln_part (mid_mem (List.mem_of_getElem? hl2))
        rw [scan_at hl2] at hs
        have hesl : es.length ≤ 100000 := by
          have := congrArg List.length es1
          rw [List.length_map, List.length_map, List.length_take] at this
          omega
        generalize hseen : ((mid (lnL t)).take i).map w0 = seen at hs hs4
        have hsl : seen.length ≤ i := by rw [← hseen, List.length_map]; exact List.length_take_le _ _
        walk_at "lw"
        refine g_rix (SqL.of hq4) (atI_map (atI_nat hl2)) ?_
        refine g_rstr (x := SX.S l) ?_
        walk_at "lw"
        refine g_spl (by decide +kernel) (by rw [SX.S_len]; exact Nat.le_trans (show l.length + 2 ≤ 100002 by omega) (by decide)) fun wq H5 nwq s5 hwq => ?_
        rw [split_wd, List.map_map] at hwq
        have hwq : H5 wq = some (.lst ((wdL l).map strS)) := hwq
        have s45 := s4.trans s5
        have bad : okLine true seen l = false → scan true [] 1 (mid (lnL t)) = some (1 + i) := fun hb => by
          rw [hs, if_neg (by rw [hb]; decide)]
        walk_at "lw"
        rw [List.length_map]
        refine ifn2 (fun w2 => ?_) (fun w2 => ?_)
        · have w2 : (wdL l).length = 2 := by have := int_eq.mp w2; omega
          have hw0 := w0_len l
          have hw1 := w1_len w2
          walk_at "lw"
          refine g_rix (SqL.of hwq) (atI_map (atI_nat (j := 0) w0_at)) ?_
          walk_at "lw"
          refine ⟨w0 l, rfl, by omega, ?_⟩
          walk_at "lw"
          cases hp : isPlat (w0 l) with
          | false =>
            walk_at "lw"
            exact g_rmkO fun d H6 _ s6 hd => kx.mk (bad (by unfold okLine; rw [if_pos rfl, hp, Bool.false_and, Bool.and_false])) (by omega) d H6 (s45.trans s6) hd
          | true =>
            walk_at "lw"
            refine g_rix (SqL.of hwq) (atI_map (atI_nat (j := 1) (w1_at w2))) ?_
            walk_at "lw"
            refine ⟨w1 l, rfl, by omega, ?_⟩
            walk_at "lw"
            cases ha : isAdr (w1 l) with
            | false =>
              walk_at "lw"
              exact g_rmkO fun d H6 _ s6 hd => kx.mk (bad (by unfold okLine; rw [if_pos rfl, ha, Bool.false_and, Bool.and_false, Bool.and_false])) (by omega) d H6 (s45.trans s6) hd
            | true =>
              walk_at "lw"
              refine g_rix (SqL.of hwq) (atI_map (atI_nat (j := 0) w0_at)) ?_
              walk_at "lw"
              refine g_rdinS (.of (s5.at hs4)) ?_
              rw [valV_mkS]
              by_cases hin : w0 l ∈ seen
              · rw [if_pos (S_mem.mpr hin)]
                walk_at "lw"
                exact g_rmkO fun d H6 _ s6 hd => kx.mk (bad (by unfold okLine; rw [if_pos rfl, decide_eq_true hin, Bool.not_true, Bool.and_false, Bool.and_false, Bool.and_false])) (by omega) d H6 (s45.trans s6) hd
              · rw [if_neg (fun z => hin (S_mem.mp z))]
                have good : okLine true seen l = true := by
                  unfold okLine
                  rw [if_pos rfl, decide_eq_true w2, hp, ha, decide_eq_false hin]
                  rfl
                rw [if_pos good] at hs
                walk_at "lw"
                refine g_rix (SqL.of hwq) (atI_map (atI_nat (j := 0) w0_at)) ?_
                walk_at "lw"
                refine g_rdputS (s5.at hs4) (by rw [mkS_len, List.length_map]; omega) fun H6 h6 k6 => ?_
                rw [putK_mkS_new (fun z => hin (S_mem.mp z))] at h6
                have nws : wq ≠ sn := ne_of hwq (s5.at hs4) (by intro z; cases z)
                have hwq6 : H6 wq = some (.lst ((wdL l).map strS)) := by rw [k6 wq nws]; exact hwq
                have s6 := s45.chg n0s k6
                have en6 : H6 en = some (.lst (es.map fun e => V.ref e.1)) := by rw [k6 en nes]; exact s5.at es2
                have q6 : H6 q = some (.lst ((mid (lnL t)).map strS)) := by rw [k6 q nqs]; exact s5.at hq4
                have t6 : ∀ e ∈ es, H6 e.1 = some (.tup [strS e.2.1, strS e.2.2]) := fun e he => by
                  have := s5.at (es3 e he)
                  rw [k6 e.1 (ne_of this (s5.at hs4) (by intro z; cases z))]
                  exact this
                walk_at "lw"
                refine g_tyL en6 ?_
                walk_at "lw"
                refine g_rix (SqL.of hwq6) (atI_map (atI_nat (j := 0) w0_at)) ?_
                walk_at "lw"
                refine g_rix (SqL.of hwq6) (atI_map (atI_nat (j := 1) (w1_at w2))) ?_
                walk_at "lw"
                refine g_ktup (by show 2 ≤ 100; decide) fun tp H7 _ s7 htp => ?_
                walk_at "lw"
                refine g_append (s7.at en6) (by rw [List.length_map]; have := congrArg List.length es1; rw [List.length_map, List.length_map, List.length_take] at this; omega) fun H8 h8 k8 => ?_
                walk_at "lw"
                have s8 := (s6.trans s7).chg n0e k8
                have hesn : (mid (lnL t)).take (i + 1) = (mid (lnL t)).take i ++ [l] := take_ok hl2
                refine ⟨s8, by rw [k8 q neq]; exact s7.at q6, ?_, ?_, ⟨es ++ [(tp, w0 l, w1 l)], ?_, ?_, fun e he => ?_⟩, _, _, rfl⟩
                · rw [hs, hesn, List.map_append, hseen, Nat.add_assoc]
                  rfl
                · rw [k8 sn nes.symm, s7.at h6, hesn, List.map_append, hseen, List.map_append]
                  congr 2
                  refine mkS_congr fun j _ => ?_
                  split <;> rfl
                · rw [List.map_append, es1, hesn, List.map_append]
                  rfl
                · rw [h8, List.map_append]
                  rfl
                · rcases List.mem_append.mp he with z | z
                  · have := s7.at (t6 e z)
                    rw [k8 e.1 (ne_of this (s7.at en6) (by intro z; cases z))]
                    exact this
                  · rw [List.mem_singleton.mp z, k8 tp (ne_of htp (s7.at en6) (by intro z; cases z))]
                    exact htp
        · have w2 : ¬ (wdL l).length = 2 := fun z => w2 (by rw [z]; rfl)
          walk_at "lw"
          exact g_rmkO fun d H6 _ s6 hd => kx.mk (bad (by unfold okLine; rw [if_pos rfl, decide_eq_false w2, Bool.false_and])) (by omega) d H6 (s45.trans s6) hd
      · rintro σ H4 ⟨s4, hq4, hs, hs4, hes, v, v2, rfl⟩
        rw [show ((mid (lnL t)).length : Int).toNat = (mid (lnL t)).length by omega] at hs hes
        rw [List.drop_length] at hs
        rw [List.take_length] at hes
        walk_at "lw"
        exact k hs en H4 s4 hes
theorem ok_references (T : Txt w K mg C_Collector C_Store C_Refused C_Malformed a_KINDS) : CalX P w K mg base 5 "references" (spRefs C_Malformed) := by
  have c_read_image : CalX P w K mg base 4 "read_image" (spReadI C_Malformed) := ok_read_image T
  have c_read_bundle : CalX P w K mg base 4 "read_bundle" (spReadB C_Malformed) := ok_read_bundle T
  refine calX_mk T.d_references sc_references (fun vs H Q E h => ?_) (fun f cdv A outer s H vs Q E hr h => ?_)
  · obtain ⟨kd, t, rfl, _⟩ := h
    rfl
  · obtain ⟨kd, t, rfl, hl, k, kx⟩ := h
    refine ⟨_, (pss_cons (ps_if (pt_cmpR op_eq (pv 0) (pe_str) (nomark _)) (pss_one (ps_ret (pe_lst pa_nil))) pss_nil)
      (pss_cons (ps_if (pt_cmpR op_eq (pv 0) (pe_str) (nomark _)) (pss_one (ps_ret (pe_cX c_read_image (takes_of rfl rfl rfl rfl) hr (by first | decide | omega) rfl (pa_cons (pv 1) pa_nil)))) pss_nil)
      (pss_one (ps_ret (pe_lc (own := [("platform", 2), ("address", 3)]) (g := (gTup K 2 (gCons (gName 2) (gCons (gName 3) gNil)))) (by rfl) sc_references.nd (pi_list (pe_cX c_read_bundle (takes_of rfl rfl rfl rfl) hr (by first | decide | omega) rfl (pa_cons (pv 1) pa_nil))) (blkOk_by (own := [("platform", 2), ("address", 3)]) (N := n_references) (sc := defScope s_references) (by decide +kernel)) (fun _ _ _ _ _ => (pg_tup (by rfl) (pgs_cons (pg_name (i := 2) sc_references.nd rfl (by first | exact Or.inl rfl | exact Or.inr rfl)) (pgs_cons (pg_name (i := 3) sc_references.nd rfl (by first | exact Or.inl rfl | exact Or.inr rfl)) pgs_nil)))) (fun _ _ _ _ _ => pts_nil) (fun _ _ _ _ _ => (pv 3))))))), ?_⟩
    unfold faultK refsL at k
    unfold faultK at kx
    walk_at "lw"
    refine if2 (fun h1 => ?_) (fun h1 => ?_)
    · have h1 := str_eq.mp h1
      rw [if_pos h1, if_pos h1] at k
      walk_at "lw"
      exact g_klst (by show 0 ≤ 100; decide) fun q H1 _ s1 hq => k rfl q H1 s1 hq
    · have h1 : ¬ kd = "layer" := fun z => h1 (by rw [z])
      rw [if_neg h1] at k kx
      rw [if_neg h1] at k
      walk_at "lw"
      refine if2 (fun h2 => ?_) (fun h2 => ?_)
      · have h2 := str_eq.mp h2
        rw [decide_eq_true h2, Bool.not_true] at kx
        rw [decide_eq_true h2, Bool.not_true, if_pos h2] at k
        walk_at "lw"
        exact ⟨t, rfl, hl, k, kx⟩
      · have h2 : ¬ kd = "image" := fun z => h2 (by rw [z])
        rw [decide_eq_false h2, Bool.not_false] at kx
        rw [decide_eq_false h2, Bool.not_false, if_neg h2] at k
        walk_at "lw"
        refine ⟨t, rfl, hl, fun hf q H1 s1 hq => ?_, kx⟩
        obtain ⟨es, es1, es2, es3⟩ := hq
        have hz : es.length ≤ 100000 := by
          have := congrArg List.length es1
          unfold prs at this
          rw [List.length_map, List.length_map, mid_len] at this
          have := ln_le t
          omega
        refine g_ritL (SqL.of es2) ?_
        refine lc_map (G := fun H' => SqL K H' q (es.map fun e => V.ref e.1)) walk_list (fun H' s => SqL.of (s _ _ es2)) (by rw [List.length_map]; exact hz) (fun _ => true)
          (fun v => match v with | .ref a => (match H1 a with | some (.tup [_, y]) => y | _ => .non) | _ => .non) ?_ ?_
        · intro x hx H' R s2 kk
          obtain ⟨e, he, rfl⟩ := List.mem_map.mp hx
          have h3 := es3 e he
          refine g_gtup (SqT.of (s2 _ _ h3)) rfl ?_
          walk_at "lw"
          refine kk _ rfl (fun H'' R s3 r => ?_) (fun hp' H'' R s3 r => ?_)
          · walk_at "lw"
            exact r
          · walk_at "lw"
            have r := r H'' (Same.refl _)
            simp only [h3] at r
            exact r
        · intro q2 H2 nq2 s2 hq2
          rw [List.filter_eq_self.mpr (fun _ _ => rfl), List.map_map] at hq2
          have e : es.map ((fun v => match v with | .ref a => (match H1 a with | some (.tup [_, y]) => y | _ => .non) | _ => .non) ∘ fun e => V.ref e.1) = ((prs t).map (·.2)).map strS := by
            rw [← es1, List.map_map, List.map_map]
            refine List.map_congr_left fun e he => ?_
            simp only [Function.comp, es3 e he]
          rw [e] at hq2
          walk_at "lw"
          exact k hf q2 H2 (s1.trans s2) hq2
end
end Lw

/-! ## what was written is read -/
namespace Lw
open PySem L2
theorem joinL_lines : ∀ (as : List (List Nat)) (x : List Nat), TL.joinL [10] (x :: (as ++ [[]])) = x ++ [10] ++ (as.map fun a => a ++ [10]).flatten
  | [], x => by simp [TL.joinL]
  | a :: r, x => by
    show x ++ ([10] ++ TL.joinL [10] (a :: (r ++ [[]]))) = _
    rw [joinL_lines r a, List.map_cons, List.flatten_cons]
    simp only [List.append_assoc]
theorem imgL_join (as : List (List Nat)) : imgL as = TL.joinL [10] (imgW :: (as ++ [[]])) := by
  rw [joinL_lines]
  rfl
theorem bunL_join (ps : List (List Nat × List Nat)) : bunL ps = TL.joinL [10] (bunW :: ((ps.map fun e => e.1 ++ [32] ++ e.2) ++ [[]])) := by
  rw [joinL_lines, List.map_map]
  rfl
theorem ln_imgL {as : List (List Nat)} (h : ∀ a ∈ as, 10 ∉ a) : lnL (imgL as) = imgW :: (as ++ [[]]) := by
  unfold lnL
  rw [imgL_join]
  refine TL.spl_join (by simp) fun p hp => ?_
  rcases List.mem_cons.mp hp with z | z
  · rw [z]; decide
  · rcases List.mem_append.mp z with y | y
    · exact h p y
    · rw [List.mem_singleton.mp y]; simp
theorem ln_bunL {ps : List (List Nat × List Nat)} (h : ∀ e ∈ ps, 10 ∉ e.1 ∧ 10 ∉ e.2) : lnL (bunL ps) = bunW :: ((ps.map fun e => e.1 ++ [32] ++ e.2) ++ [[]]) := by
  unfold lnL
  rw [bunL_join]
  refine TL.spl_join (by simp) fun p hp => ?_
  rcases List.mem_cons.mp hp with z | z
  · rw [z]; decide
  · rcases List.mem_append.mp z with y | y
    · obtain ⟨e, he, rfl⟩ := List.mem_map.mp y
      obtain ⟨h1, h2⟩ := h e he
      simp only [List.mem_append, List.mem_singleton]
      rintro ((z | z) | z)
      · exact h1 z
      · cases z
      · exact h2 z
    · rw [List.mem_singleton.mp y]; simp
theorem mid_of (x : List Nat) (as : List (List Nat)) : mid (x :: (as ++ [[]])) = as := by
  unfold mid
  rw [List.drop_succ_cons, List.drop_zero, List.dropLast_concat]
theorem adr_no {a : List Nat} (h : isAdr a = true) {c : Nat} (hc : c ∉ hexS) : c ∉ a := fun z => by
  unfold isAdr at h
  rw [Bool.and_eq_true] at h
  exact hc (of_decide_eq_true (List.all_eq_true.mp h.2 c z))
theorem adr_len {a : List Nat} (h : isAdr a = true) : a.length = 16 := by
  unfold isAdr at h
  rw [Bool.and_eq_true] at h
  exact beq_iff_eq.mp h.1
theorem plat_no {a : List Nat} (h : isPlat a = true) {c : Nat} (hc : c ∉ lowS) : c ∉ a := fun z => by
  unfold isPlat at h
  rw [Bool.and_eq_true] at h
  exact hc (of_decide_eq_true (List.all_eq_true.mp h.2 c z))
theorem plat_len {a : List Nat} (h : isPlat a = true) : a.length ≤ 10 := by
  unfold isPlat at h
  rw [Bool.and_eq_true, Bool.and_eq_true] at h
  exact of_decide_eq_true h.1.2
theorem wd_pair {p a : List Nat} (hp : 32 ∉ p) (ha : 32 ∉ a) : wdL (p ++ [32] ++ a) = [p, a] := by
  unfold wdL
  have e : p ++ [32] ++ a = TL.joinL [32] [p, a] := by show _ = p ++ ([32] ++ a); rw [List.append_assoc]
  rw [e]
  refine TL.spl_join (by simp) fun q hq => ?_
  simp only [List.mem_cons, List.not_mem_nil, or_false] at hq
  rcases hq with rfl | rfl <;> assumption
theorem scan_img : ∀ {as : List (List Nat)} {s : List (List Nat)} {i : Nat}, (∀ a ∈ as, isAdr a = true) → scan false s i as = none
  | [], _, _, _ => rfl
  | a :: r, s, i, h => by
    unfold scan
    rw [if_pos (show okLine false s a = true from by unfold okLine; rw [if_neg (by decide)]; exact h a List.mem_cons_self)]
    exact scan_img fun b hb => h b (List.mem_cons_of_mem _ hb)
theorem fault3_of {h : List Nat} {t : List Nat} {as : List (List Nat)} (e : lnL t = h :: (as ++ [[]])) : fault3 h t = if 50 < as.length then some 51 else none := by
  unfold fault3
  have h1 : (lnL t).getD 0 [] = h := by rw [e]; rfl
  have hl : (lnL t).length = as.length + 2 := by rw [e]; simp
  have h2 : (lnL t).getD ((lnL t).length - 1) [] = [] := by
    rw [hl, e, List.getD_eq_getElem?_getD, show as.length + 2 - 1 = as.length + 1 from rfl, List.getElem?_cons_succ, List.getElem?_append_right (Nat.le_refl _), Nat.sub_self]
    rfl
  rw [if_neg (fun z => z h1), if_neg (fun z => z h2), hl]
  by_cases hh : 50 < as.length
  · rw [if_pos hh, if_pos (by omega)]
  · rw [if_neg hh, if_neg (by omega)]
theorem fault_img {as : List (List Nat)} (h : ∀ a ∈ as, isAdr a = true) (hl : as.length ≤ 50) : fault false (imgL as) = none ∧ mid (lnL (imgL as)) = as := by
  have e := ln_imgL fun a ha => adr_no (h a ha) (c := 10) (by decide)
  have e3 := fault3_of e
  rw [if_neg (by omega)] at e3
  have em : mid (lnL (imgL as)) = as := by rw [e, mid_of]
  refine ⟨?_, em⟩
  rw [fault_scan (b := false) e3 (fun z => by cases z.1), em]
  exact scan_img h
theorem fault_img51 {as : List (List Nat)} (h : ∀ a ∈ as, isAdr a = true) (hl : as.length = 51) : fault false (imgL as) = some 51 := by
  have e := ln_imgL fun a ha => adr_no (h a ha) (c := 10) (by decide)
  have e3 := fault3_of e
  rw [if_pos (by omega)] at e3
  exact fault_of3 (b := false) e3
/-- pairs that a bundle may have -/
structure WFB (ps : List (List Nat × List Nat)) : Prop where
  all : ∀ e ∈ ps, isPlat e.1 = true ∧ isAdr e.2 = true
  nd : (ps.map (·.1)).Nodup
  ne : ps ≠ []
  le : ps.length ≤ 50
theorem w0_pair {e : List Nat × List Nat} (h : isPlat e.1 = true ∧ isAdr e.2 = true) : w0 (e.1 ++ [32] ++ e.2) = e.1 := by
  unfold w0
  rw [wd_pair (plat_no h.1 (by decide)) (adr_no h.2 (by decide))]
  rfl
theorem w1_pair {e : List Nat × List Nat} (h : isPlat e.1 = true ∧ isAdr e.2 = true) : w1 (e.1 ++ [32] ++ e.2) = e.2 := by
  unfold w1
  rw [wd_pair (plat_no h.1 (by decide)) (adr_no h.2 (by decide))]
  rfl
theorem scan_bun : ∀ {ps : List (List Nat × List Nat)} {s : List (List Nat)} {i : Nat}, (∀ e ∈ ps, isPlat e.1 = true ∧ isAdr e.2 = true) → (ps.map (·.1)).Nodup → (∀ e ∈ ps, e.1 ∉ s) → scan true s i (ps.map fun e => e.1 ++ [32] ++ e.2) = none
  | [], _, _, _, _, _ => rfl
  | e :: r, s, i, h, hn, hs => by
    have he := h e List.mem_cons_self
    rw [List.map_cons, List.nodup_cons] at hn
    rw [List.map_cons]
    unfold scan
    have e0 := w0_pair he
    have e1 := w1_pair he
    have ew : (wdL (e.1 ++ [32] ++ e.2)).length = 2 := by rw [wd_pair (plat_no he.1 (by decide)) (adr_no he.2 (by decide))]; rfl
    rw [if_pos (show okLine true s (e.1 ++ [32] ++ e.2) = true from by
      unfold okLine
      rw [if_pos rfl, decide_eq_true ew, e0, e1, he.1, he.2, decide_eq_false (hs e List.mem_cons_self)]
      rfl)]
    rw [e0]
    refine scan_bun (fun b hb => h b (List.mem_cons_of_mem _ hb)) hn.2 fun b hb z => ?_
    rcases List.mem_append.mp z with y | y
    · exact hs b (List.mem_cons_of_mem _ hb) y
    · exact hn.1 (by rw [← List.mem_singleton.mp y]; exact List.mem_map.mpr ⟨b, hb, rfl⟩)
theorem fault_bun {ps : List (List Nat × List Nat)} (W : WFB ps) : fault true (bunL ps) = none ∧ prs (bunL ps) = ps := by
  have e := ln_bunL fun p hp => ⟨plat_no (W.all p hp).1 (c := 10) (by decide), adr_no (W.all p hp).2 (c := 10) (by decide)⟩
  have e3 := fault3_of e
  rw [List.length_map, if_neg (by have := W.le; omega)] at e3
  have em : mid (lnL (bunL ps)) = ps.map fun p => p.1 ++ [32] ++ p.2 := by rw [e, mid_of]
  refine ⟨?_, ?_⟩
  · rw [fault_scan (b := true) e3 (fun z => ?_), em]
    · exact scan_bun W.all W.nd (fun _ _ z => nomatch z)
    · have := z.2
      rw [e] at this
      simp at this
      exact W.ne this
  · unfold prs
    rw [em, List.map_map]
    conv => rhs; rw [← List.map_id ps]
    refine List.map_congr_left fun p hp => ?_
    show (w0 _, w1 _) = p
    rw [w0_pair (W.all p hp), w1_pair (W.all p hp)]
end Lw

namespace Lw
open PySem L2
theorem op_inK {X : Cx} (K : PySem.W.Frag) (h : X.K = K) : OpR X (compareOp .In) (rIn K false) := by subst h; exact op_in_seq
theorem op_notInK {X : Cx} (K : PySem.W.Frag) (h : X.K = K) : OpR X (compareOp .NotIn) (rIn K true) := by subst h; exact op_notIn_seq
/-- a comprehension whose items are drawn and hang on the heap (on tuples alone) -/
theorem lc_drawR {J : It} {xs : List V} {vs : List Nat} {σ : L2.St} {te : TE} {j : Nat} {Q : VK} {c : Addr → Nat} {H : Hp} {S : Addr} (w : Walk J xs.length (fun _ => True) (YAt xs)) (hz : xs.length ≤ 100000) (R : Nat → V → Hp → Prop)
    (mono : ∀ i y H1 H2, (∀ b ys, H1 b = some (.tup ys) → H2 b = some (.tup ys)) → R i y H1 → R i y H2) (hS : StateAt c H S) (hw : ∀ x, wipe ((wipe σ vs).set j (some x)) vs = wipe σ vs)
    (he : ∀ (i : Nat) (x : V) (c1 : Addr → Nat) (H1 : Hp) (Rk : VK), xs[i]? = some x → StateAt c1 H1 S → Stp (fun i => i = 0) c c1 H H1 → (∀ (y : V) (c2 : Addr → Nat) (H2 : Hp), R i y H2 → StateAt c2 H2 S → Stp (fun i => i = 0) c1 c2 H1 H2 → Rk y H2) → te ((wipe σ vs).set j (some x)) H1 Rk)
    (k : ∀ (q : Addr) (ys : List V) (c' : Addr → Nat) (H' : Hp), H q = none → ys.length = xs.length → (∀ (i : Nat) (y : V), ys[i]? = some y → R i y H') → StateAt c' H' S → Stp (fun i => i = 0) c c' H H' → H' q = some (.lst ys) → c' q = 9 → Q (.ref q) H') : kLc (gName j) tYes te vs σ Q J H := by
  intro D hD
  refine lc_it w (fun i H2 => ∃ (l : List V) (c2 : Addr → Nat), l.length = i ∧ (∀ (m : Nat) (y : V), l[m]? = some y → R m y H2) ∧ StateAt c2 H2 S ∧ Stp (fun i => i = 0) c c2 H H2 ∧ c2 D = 9 ∧ H2 D = some (.lst l))
    ⟨[], Stp.paint c D 9, rfl, (fun m y h => (by cases h)), hS.frame (I := fun _ => False) (Stp.newc hD) (by decide), Stp.newc hD, Stp.paint_same, upd_same⟩ (fun _ _ _ _ => trivial) (fun i x H2 H2' hi h y => ?_) (fun H2 h => ?_)
  · obtain ⟨e, hx⟩ := y
    subst e
    obtain ⟨l, c2, h1, h2, S2, st2, cD, hl⟩ := h
    refine ⟨hw x, ?_⟩
    show te _ H2' _
    refine he i x c2 H2' _ hx S2 st2 fun a c3 H3 ga S3 st3 => ?_
    have hD3 := st3.keep _ _ hl (by rw [cD]; decide)
    have tk : ∀ b zs, H3 b = some (.tup zs) → (upd H3 D (.lst (l ++ [a]))) b = some (.tup zs) := fun b zs e => by rw [upd_ne (ne_of e hD3 (by intro z; cases z))]; exact e
    refine ⟨l, hD3, ?_, l ++ [a], c3, by rw [List.length_append, h1]; rfl, fun m y hm => ?_, S3.frame (I := fun i => i = 9) (Stp.own hD3 (by rw [st3.col _ _ hl, cD]) (fun xs z => by cases z)) (by decide), ?_, by rw [st3.col _ _ hl, cD], upd_same⟩
    · rw [h1]
      exact Nat.lt_of_lt_of_le (show i < 200000 by omega) (by decide)
    · by_cases hj : m < l.length
      · rw [List.getElem?_append_left hj] at hm
        exact mono _ _ _ _ (fun b zs e => tk b zs (st3.tup _ _ e)) (h2 m y hm)
      · rw [List.getElem?_append_right (by omega)] at hm
        cases hq : m - l.length with
        | zero =>
          rw [hq] at hm
          cases hm
          have : m = i := by omega
          subst this
          exact mono _ _ _ _ tk ga
        | succ n => rw [hq] at hm; cases hm
    · have st4 := st2.trans st3
      exact ⟨fun b o e n => by rw [upd_ne (ne_of_none e hD)]; exact st4.keep b o e n, st4.col, fun b xs e => by rw [upd_ne (ne_of_none e hD)]; exact st4.tup b xs e, fun b e => by
        by_cases z : b = D
        · subst z; rw [upd_same] at e; cases e
        · rw [upd_ne z] at e; exact st4.fre b e⟩
  · obtain ⟨l, c2, h1, h2, S2, st2, cD, hl⟩ := h
    exact k D l c2 H2 hD h1 h2 S2 st2 hl cD
theorem choose_list {α : Type} {F : α → V} : ∀ {ys : List V} {P : Nat → α → Prop}, (∀ i y, ys[i]? = some y → ∃ a, y = F a ∧ P i a) → ∃ as : List α, ys = as.map F ∧ ∀ i a, as[i]? = some a → P i a
  | [], _, _ => ⟨[], rfl, fun i a h => by cases h⟩
  | y :: ys, P, h => by
    obtain ⟨a, e, p⟩ := h 0 y rfl
    obtain ⟨as, e2, p2⟩ := choose_list (ys := ys) (P := fun i => P (i + 1)) fun i z hz => h (i + 1) z hz
    refine ⟨a :: as, by rw [List.map_cons, e, e2], fun i b hb => ?_⟩
    cases i with
    | zero => cases hb; exact p
    | succ i => exact p2 i b hb
end Lw

/-! ## signs -/
namespace Lw
open PySem L2
open PyProof.Rows (envOfC)
def okC (l : List Nat) : Prop := ∀ c ∈ l, c < 0x110000
theorem spl_chars (s : List Nat) : ∀ (l : List Nat) (k : Nat) (acc : List Nat), ∀ p ∈ TL.spl s k acc l, ∀ c ∈ p, c ∈ acc ∨ c ∈ l
  | [], k, acc, p, h, c, hc => by
    simp [TL.spl] at h
    subst h
    exact .inl hc
  | x :: r, 0, acc, p, h, c, hc => by
    unfold TL.spl at h
    split at h
    · rcases List.mem_cons.mp h with z | z
      · subst z; exact .inl hc
      · rcases spl_chars s r _ _ p z c hc with y | y
        · cases y
        · exact .inr (List.mem_cons_of_mem _ y)
    · rcases spl_chars s r _ _ p h c hc with y | y
      · rcases List.mem_append.mp y with u | u
        · exact .inl u
        · rw [List.mem_singleton.mp u]; exact .inr List.mem_cons_self
      · exact .inr (List.mem_cons_of_mem _ y)
  | x :: r, k + 1, acc, p, h, c, hc => by
    unfold TL.spl at h
    rcases spl_chars s r _ _ p h c hc with y | y
    · exact .inl y
    · exact .inr (List.mem_cons_of_mem _ y)
theorem ln_okC {t p : List Nat} (h : okC t) (hp : p ∈ lnL t) : okC p := fun c hc => by
  rcases spl_chars _ _ _ _ p hp c hc with z | z
  · cases z
  · exact h c z
theorem wd_okC {t p : List Nat} (h : okC t) (hp : p ∈ wdL t) : okC p := fun c hc => by
  rcases spl_chars _ _ _ _ p hp c hc with z | z
  · cases z
  · exact h c z
theorem okS {l : List Nat} (h : okC l) : PyData.strOk (SX.S l) = true := by
  unfold PyData.strOk
  rw [← Array.all_toList, List.all_eq_true]
  intro c hc
  exact decide_eq_true (h c hc)
theorem sh_strs : ∀ (as : List (List Nat)), (∀ a ∈ as, okC a) → PyData.canLayAll0 (as.map fun a => PyData.str (SX.S a)) = true ∧ PyData.depthAll (as.map fun a => PyData.str (SX.S a)) = 0
  | [], _ => ⟨rfl, rfl⟩
  | a :: r, h => by
    obtain ⟨h1, h2⟩ := sh_strs r fun b hb => h b (List.mem_cons_of_mem _ hb)
    have h3 := okS (h a List.mem_cons_self)
    refine ⟨?_, ?_⟩
    · simp only [List.map_cons, PyData.canLayAll0, PyData.canLay0, h1, h3, Bool.and_true]
    · simp only [List.map_cons, PyData.depthAll, PyData.depth, h2, Nat.max_self]
theorem shaped_strs {as : List (List Nat)} (h : ∀ a ∈ as, okC a) : SeqAt.shaped (.list (as.map fun a => PyData.str (SX.S a))) = true := by
  obtain ⟨h1, h2⟩ := sh_strs as h
  unfold SeqAt.shaped
  rw [Bool.and_eq_true, decide_eq_true_eq]
  exact ⟨h1, by simp only [PyData.depth, h2]; decide⟩
theorem dp_strs {K : PySem.W.Frag} {H : Hp} : ∀ (as : List (List Nat)), DpAll K H (as.map strS) (as.map fun a => PyData.str (SX.S a))
  | [] => .nil
  | _ :: r => .cons (.str _) (dp_strs r)
theorem dp_list {K : PySem.W.Frag} {H : Hp} {q : Addr} {as : List (List Nat)} (h : H q = some (.lst (as.map strS))) : Dp K H (.ref q) (.list (as.map fun a => PyData.str (SX.S a))) := .lst (SqL.of h) (dp_strs as)
theorem adr_okC {a : List Nat} (h : isAdr a = true) : okC a := fun c hc => by
  unfold isAdr at h
  rw [Bool.and_eq_true] at h
  have h2 := of_decide_eq_true (List.all_eq_true.mp h.2 c hc)
  have : ∀ c ∈ hexS, c < 0x110000 := by decide
  exact this c h2
theorem plat_okC {a : List Nat} (h : isPlat a = true) : okC a := fun c hc => by
  unfold isPlat at h
  rw [Bool.and_eq_true] at h
  have h2 := of_decide_eq_true (List.all_eq_true.mp h.2 c hc)
  have : ∀ c ∈ lowS, c < 0x110000 := by decide
  exact this c h2
theorem okC_app {a b : List Nat} (h1 : okC a) (h2 : okC b) : okC (a ++ b) := fun c hc => (List.mem_append.mp hc).elim (h1 c) (h2 c)
theorem okC_flat {l : List (List Nat)} (h : ∀ a ∈ l, okC a) : okC l.flatten := fun c hc => by
  obtain ⟨a, ha, hc⟩ := List.mem_flatten.mp hc
  exact h a ha c hc
theorem img_t {as : List (List Nat)} (h : ∀ a ∈ as, isAdr a = true) (hl : as.length ≤ 51) : okC (imgL as) ∧ (imgL as).length ≤ 10000 := by
  unfold imgL
  refine ⟨okC_app (show ∀ c ∈ imgH, c < 0x110000 by decide) (okC_flat fun x hx => ?_), ?_⟩
  · obtain ⟨a, ha, rfl⟩ := List.mem_map.mp hx
    exact okC_app (adr_okC (h a ha)) (show ∀ c ∈ [10], c < 0x110000 by decide)
  · rw [List.length_append]
    have := flat_le (l := as.map fun a => a ++ [10]) (m := 17) fun x hx => by
      obtain ⟨a, ha, rfl⟩ := List.mem_map.mp hx
      rw [List.length_append, adr_len (h a ha)]
      decide
    rw [List.length_map] at this
    have h6 : imgH.length = 6 := rfl
    omega
theorem bun_t {ps : List (List Nat × List Nat)} (W : WFB ps) : okC (bunL ps) ∧ (bunL ps).length ≤ 10000 := by
  unfold bunL
  refine ⟨okC_app (show ∀ c ∈ bunH, c < 0x110000 by decide) (okC_flat fun x hx => ?_), ?_⟩
  · obtain ⟨e, he, rfl⟩ := List.mem_map.mp hx
    obtain ⟨h1, h2⟩ := W.all e he
    exact okC_app (okC_app (okC_app (plat_okC h1) (show ∀ c ∈ [32], c < 0x110000 by decide)) (adr_okC h2)) (show ∀ c ∈ [10], c < 0x110000 by decide)
  · rw [List.length_append]
    have := flat_le (l := ps.map fun e => e.1 ++ [32] ++ e.2 ++ [10]) (m := 28) fun x hx => by
      obtain ⟨e, he, rfl⟩ := List.mem_map.mp hx
      obtain ⟨h1, h2⟩ := W.all e he
      simp only [List.length_append, List.length_cons, List.length_nil]
      have := plat_len h1
      have := adr_len h2
      omega
    rw [List.length_map] at this
    have h7 : bunH.length = 7 := rfl
    have := W.le
    omega
end Lw

/-! ## the store -/
namespace Lw
open PySem L2
open PyProof.Rows (envOfC sortedS)
inductive Kd | lay | img | bun
  deriving DecidableEq
def Kd.s : Kd → Str
  | .lay => "layer" | .img => "image" | .bun => "bundle"
def Kd.rk : Kd → Nat
  | .lay => 0 | .img => 1 | .bun => 2
/-- the kind below -/
def Kd.lo : Kd → Option Kd
  | .lay => none | .img => some .lay | .bun => some .img
theorem Kd.s_inj {a b : Kd} : a.s = b.s ↔ a = b := by
  constructor
  · intro h
    cases a <;> cases b <;> first | rfl | exact absurd h (by decide +kernel)
  · intro h; rw [h]
theorem Kd.s_kind (a : Kd) : a.s ∈ kinds3 := by cases a <;> decide +kernel
theorem Kd.s_ok (a : Kd) : PyData.strOk a.s = true := by cases a <;> decide +kernel
theorem Kd.lo_rk {a b : Kd} (h : a.lo = some b) : b.rk < a.rk := by
  cases a <;> cases h <;> decide
structure Bl where
  k : Kd
  t : List Nat
  deriving DecidableEq
def Bl.refs (b : Bl) : List (List Nat) := refsL b.k.s b.t
structure Bl.Ok (b : Bl) : Prop where
  f : faultK b.k.s b.t = none
  l : b.t.length ≤ 10000
  c : okC b.t
def adrB (b : Bl) : Str := SX.S (adrL b.k.s b.t)
def putS (ks : List Str) (a : Str) : List Str := if a ∈ ks then ks else ks ++ [a]
def updB (B : Str → Bl) (a : Str) (b : Bl) : Str → Bl := fun x => if x = a then b else B x
theorem updB_same {B : Str → Bl} {a : Str} {b : Bl} : updB B a b a = b := if_pos rfl
theorem updB_ne {B : Str → Bl} {a x : Str} {b : Bl} (h : x ≠ a) : updB B a b x = B x := if_neg h
theorem mem_putS {ks : List Str} {a x : Str} : x ∈ putS ks a ↔ x ∈ ks ∨ x = a := by
  unfold putS
  split
  · rename_i h
    exact ⟨.inl, fun z => z.elim id fun e => by rw [e]; exact h⟩
  · rw [List.mem_append, List.mem_singleton]
theorem putS_nd {ks : List Str} {a : Str} (h : ks.Nodup) : (putS ks a).Nodup := by
  unfold putS
  split
  · exact h
  · rename_i z
    rw [List.nodup_append]
    exact ⟨h, by simp, fun x hx y hy e => z (by rw [← List.mem_singleton.mp hy, ← e]; exact hx)⟩
theorem putS_len {ks : List Str} {a : Str} : (putS ks a).length ≤ ks.length + 1 := by
  unfold putS
  split
  · omega
  · rw [List.length_append]; exact Nat.le_refl _
theorem putK_S {ks : List Str} {A : Str → V} {a : Str} {v : V} : putK (mkS ks A) (kS a) v = mkS (putS ks a) (fun j => if j = a then v else A j) := by
  unfold putS
  split
  · rename_i h; exact putK_mkS_old h
  · rename_i h; exact putK_mkS_new h
/-- a dict d of the blobs B at the addresses ks; A: where their pairs lie -/
def BlobD (H : Hp) (d : Addr) (ks : List Str) (B : Str → Bl) : Prop := ∃ A : Str → Addr, H d = some (.dK (mkS ks fun a => .ref (A a))) ∧ ∀ a ∈ ks, H (A a) = some (.tup [.str (B a).k.s, strS (B a).t])
theorem BlobD.tup {H H' : Hp} {d : Addr} {ks : List Str} {B : Str → Bl} (h : BlobD H d ks B) (h1 : H' d = H d) (h2 : ∀ b xs, H b = some (.tup xs) → H' b = some (.tup xs)) : BlobD H' d ks B := by
  obtain ⟨A, a1, a2⟩ := h
  exact ⟨A, by rw [h1]; exact a1, fun a ha => h2 _ _ (a2 a ha)⟩
theorem BlobD.same {H H' : Hp} {d : Addr} {ks : List Str} {B : Str → Bl} (h : BlobD H d ks B) (s : Same H H') : BlobD H' d ks B := by
  obtain ⟨A, a1, a2⟩ := id h
  exact h.tup (by rw [a1]; exact s.at a1) fun b xs e => s.at e
/-- the dict behind d[a] = (kind, text) -/
theorem BlobD.put {H H' : Hp} {d t : Addr} {ks : List Str} {B : Str → Bl} {b : Bl} {a : Str} {A : Str → Addr} (h1 : H d = some (.dK (mkS ks fun a => .ref (A a)))) (h2 : ∀ a ∈ ks, H (A a) = some (.tup [.str (B a).k.s, strS (B a).t])) (ht : H t = some (.tup [.str b.k.s, strS b.t]))
    (hd : H' d = some (.dK (putK (mkS ks fun a => .ref (A a)) (kS a) (.ref t)))) (k : ∀ x, x ≠ d → H' x = H x) : BlobD H' d (putS ks a) (updB B a b) := by
  refine ⟨fun x => if x = a then t else A x, ?_, fun x hx => ?_⟩
  · rw [hd, putK_S]
    congr 2
    refine mkS_congr fun j _ => ?_
    dsimp only
    split <;> rfl
  · dsimp only
    by_cases e : x = a
    · subst e
      rw [if_pos rfl, updB_same, k t (ne_of ht h1 (by intro z; cases z))]
      exact ht
    · rw [if_neg e, updB_ne e]
      have hk : x ∈ ks := (mem_putS.mp hx).resolve_right e
      have := h2 x hk
      rw [k _ (ne_of this h1 (by intro z; cases z))]
      exact this
theorem BlobD.del {H H' : Hp} {d : Addr} {ks : List Str} {B : Str → Bl} {a : Str} {A : Str → Addr} (h1 : H d = some (.dK (mkS ks fun a => .ref (A a)))) (h2 : ∀ a ∈ ks, H (A a) = some (.tup [.str (B a).k.s, strS (B a).t]))
    (hd : H' d = some (.dK (dropK (mkS ks fun a => .ref (A a)) (kS a)))) (k : ∀ x, x ≠ d → H' x = H x) : BlobD H' d (ks.filter fun j => decide (j ≠ a)) B := by
  refine ⟨A, by rw [hd, dropK_mkS], fun x hx => ?_⟩
  have := h2 x (List.mem_filter.mp hx).1
  rw [k _ (ne_of this h1 (by intro z; cases z))]
  exact this
structure StoreAt (C : Addr) (c : Addr → Nat) (H : Hp) (p : Addr) (ks : List Str) (B : Str → Bl) : Prop where
  ex : ∃ (dx d : Addr), c p = 1 ∧ H p = some (.ins C dx (f_Store (.ref d))) ∧ c d = 1 ∧ BlobD H d ks B
theorem StoreAt.frame {I : Nat → Prop} {C : Addr} {c c' : Addr → Nat} {H H' : Hp} {p : Addr} {ks : List Str} {B : Str → Bl} (h : StoreAt C c H p ks B) (s : Stp I c c' H H') (hi : ¬ I 1) : StoreAt C c' H' p ks B := by
  obtain ⟨dx, d, h1, h2, h3, A, h4, h5⟩ := h.ex
  exact ⟨dx, d, by rw [s.col _ _ h2, h1], s.keep _ _ h2 (by rw [h1]; exact hi), by rw [s.col _ _ h4, h3], A, s.keep _ _ h4 (by rw [h3]; exact hi), fun a ha => s.tup _ _ (h5 a ha)⟩
theorem StoreAt.same {C : Addr} {c : Addr → Nat} {H H' : Hp} {p : Addr} {ks : List Str} {B : Str → Bl} (h : StoreAt C c H p ks B) (s : Same H H') : StoreAt C c H' p ks B := h.frame (Stp.same (I := fun _ => False) s) (fun z => z)
/-- the blobs below are there, of the kind below, and whole -/
def wh (ks : List Str) (B : Str → Bl) : Nat → Str → Bool
  | 0, _ => false
  | n + 1, a => decide (a ∈ ks) && (B a).refs.all fun r => decide (SX.S r ∈ ks) && (decide ((B a).k.lo = some (B (SX.S r)).k) && wh ks B n (SX.S r))
def addD (l : List Str) (x : Str) : List Str := if x ∈ l then l else l ++ [x]
def clo (B : Str → Bl) : Nat → Str → List Str
  | 0, a => [a]
  | n + 1, a => (B a).refs.foldl (fun f r => (clo B n (SX.S r)).foldl addD f) [a]
structure SWf (ks : List Str) (B : Str → Bl) : Prop where
  nd : ks.Nodup
  ok : ∀ a ∈ ks, (B a).Ok
theorem SWf.put {ks : List Str} {B : Str → Bl} (h : SWf ks B) {a : Str} {b : Bl} (hb : b.Ok) : SWf (putS ks a) (updB B a b) := by
  refine ⟨putS_nd h.nd, fun x hx => ?_⟩
  by_cases e : x = a
  · subst e; rw [updB_same]; exact hb
  · rw [updB_ne e]; exact h.ok x ((mem_putS.mp hx).resolve_right e)
theorem SWf.del {ks : List Str} {B : Str → Bl} (h : SWf ks B) (a : Str) : SWf (ks.filter fun j => decide (j ≠ a)) B := ⟨h.nd.filter _, fun x hx => h.ok x (List.mem_filter.mp hx).1⟩
theorem refs_lay {b : Bl} (h : b.k = .lay) : b.refs = [] := by
  unfold Bl.refs refsL
  rw [h]
  exact if_pos rfl
theorem fault_lay (t : List Nat) : faultK "layer" t = none := if_pos rfl
theorem refs_len {b : Bl} (h : b.Ok) : b.refs.length ≤ 10001 := by
  have h1 := ln_le b.t
  have h2 := h.l
  have h3 := mid_len (lnL b.t)
  unfold Bl.refs refsL prs
  split
  · exact Nat.zero_le _
  · split
    · omega
    · rw [List.length_map, List.length_map]; omega
theorem dec_in {ks : List Str} {A : Str → V} {a : Str} : (valV (mkS ks A) (kS a)).isSome = decide (a ∈ ks) := by
  rw [valV_mkS]
  by_cases h : a ∈ ks
  · rw [if_pos h, decide_eq_true h]; rfl
  · rw [if_neg h, decide_eq_false h]; rfl
def spSInit (C : Addr) : Sp := fun vs H Q _ => ∃ (p dx : Addr), vs = [.ref p] ∧ H p = some (.ins C dx []) ∧
  ∀ d H', H d = none → H' p = some (.ins C dx (f_Store (.ref d))) → H' d = some (.dK []) → (∀ b o, H b = some o → b ≠ p → H' b = some o) → Q .non H'
def spKeep (C : Addr) : Sp := fun vs H Q _ => ∃ (c : Addr → Nat) (p : Addr) (ks : List Str) (B : Str → Bl) (b : Bl), vs = [.ref p, .str b.k.s, .str (SX.S b.t)] ∧ StoreAt C c H p ks B ∧ ks.length ≤ 10000 ∧
  ∀ H', StoreAt C c H' p (putS ks (adrB b)) (updB B (adrB b) b) → Stp (fun i => i = 1) c c H H' → Q (.str (adrB b)) H'
def spBlob (C : Addr) : Sp := fun vs H Q _ => ∃ (c : Addr → Nat) (p : Addr) (ks : List Str) (B : Str → Bl) (a : Str), vs = [.ref p, .str a] ∧ StoreAt C c H p ks B ∧
  (a ∉ ks → Q .non H) ∧ (a ∈ ks → ∀ t, H t = some (.tup [.str (B a).k.s, strS (B a).t]) → Q (.ref t) H)
def spRemove (C : Addr) : Sp := fun vs H Q _ => ∃ (c : Addr → Nat) (p : Addr) (ks : List Str) (B : Str → Bl) (a : Str), vs = [.ref p, .str a] ∧ StoreAt C c H p ks B ∧ a ∈ ks ∧
  ∀ H', StoreAt C c H' p (ks.filter fun j => decide (j ≠ a)) B → Stp (fun i => i = 1) c c H H' → Q .non H'
def spAdrs (C : Addr) : Sp := fun vs H Q _ => ∃ (c : Addr → Nat) (p : Addr) (ks : List Str) (B : Str → Bl), vs = [.ref p] ∧ StoreAt C c H p ks B ∧ ks.length < 100000 ∧
  ∀ (ys : List Str) (r : Addr) H', ys.Perm ks → sortedS ys = true → Same H H' → H' r = some (.lst (ys.map V.str)) → Q (.ref r) H'
def spBelow (C : Addr) : Sp := fun vs H Q _ => ∃ (c : Addr → Nat) (p : Addr) (ks : List Str) (B : Str → Bl) (a : Str), vs = [.ref p, .str a] ∧ StoreAt C c H p ks B ∧ SWf ks B ∧ a ∈ ks ∧
  ∀ r H', Same H H' → H' r = some (.lst ((B a).refs.map strS)) → Q (.ref r) H'
def spWhx (C : Addr) (n : Nat) : Sp := fun vs H Q _ => ∃ (c : Addr → Nat) (p : Addr) (ks : List Str) (B : Str → Bl) (a : Str), vs = [.ref p, .str a] ∧ StoreAt C c H p ks B ∧ SWf ks B ∧ (a ∈ ks → (B a).k.rk ≤ n) ∧
  ∀ H', Same H H' → Q (.bl (wh ks B (n + 1) a)) H'
def spClo (C : Addr) (n : Nat) : Sp := fun vs H Q _ => ∃ (c : Addr → Nat) (p : Addr) (ks : List Str) (B : Str → Bl) (a : Str), vs = [.ref p, .str a] ∧ StoreAt C c H p ks B ∧ SWf ks B ∧ a ∈ ks ∧ (B a).k.rk ≤ n ∧ wh ks B (n + 1) a = true ∧ ks.length ≤ 10000 ∧
  ∀ r H', Same H H' → H' r = some (.lst ((clo B n a).map V.str)) → Q (.ref r) H'
/-- as the call wants it -/
def WhC (C : Addr) (n : Nat) (sp : Sp) : Prop := ∀ (c : Addr → Nat) (H : Hp) (Q : VK) (p : Addr) (ks : List Str) (B : Str → Bl) (a : Str), StoreAt C c H p ks B → SWf ks B → a ∈ ks → (B a).k.rk < n → (∀ H', Same H H' → Q (.bl (wh ks B n a)) H') → sp [.ref p, .str a] H Q E0
def CloC (C : Addr) (n : Nat) (sp : Sp) : Prop := ∀ (c : Addr → Nat) (H : Hp) (Q : VK) (p : Addr) (ks : List Str) (B : Str → Bl) (a : Str), StoreAt C c H p ks B → SWf ks B → a ∈ ks → (B a).k.rk < n → wh ks B n a = true → ks.length ≤ 10000 → (∀ r H', Same H H' → H' r = some (.lst ((clo B (n - 1) a).map V.str)) → Q (.ref r) H') → sp [.ref p, .str a] H Q E0
theorem addD_nd {x : Str} : ∀ {l : List Str}, l.Nodup → (addD l x).Nodup := putS_nd
theorem foldl_addD_len : ∀ (l f : List Str), (l.foldl addD f).length ≤ f.length + l.length
  | [], f => Nat.le_refl _
  | x :: l, f => by
    have := foldl_addD_len l (addD f x)
    have h2 : (addD f x).length ≤ f.length + 1 := putS_len
    show (l.foldl addD (addD f x)).length ≤ _
    rw [List.length_cons]; omega
theorem mem_foldl_addD : ∀ {l f : List Str} {y : Str}, y ∈ l.foldl addD f ↔ y ∈ f ∨ y ∈ l
  | [], f, y => by simp
  | x :: l, f, y => by
    show y ∈ l.foldl addD (addD f x) ↔ _
    rw [mem_foldl_addD, show y ∈ addD f x ↔ y ∈ f ∨ y = x from mem_putS, List.mem_cons]
    constructor
    · rintro ((h | h) | h)
      · exact .inl h
      · exact .inr (.inl h)
      · exact .inr (.inr h)
    · rintro (h | h | h)
      · exact .inl (.inl h)
      · exact .inl (.inr h)
      · exact .inr h
theorem foldl_addD_nd : ∀ {l f : List Str}, f.Nodup → (l.foldl addD f).Nodup
  | [], _, h => h
  | x :: l, f, h => foldl_addD_nd (l := l) (addD_nd h)
theorem clo_nd (B : Str → Bl) : ∀ (n : Nat) (a : Str), (clo B n a).Nodup
  | 0, a => by simp [clo]
  | n + 1, a => by
    unfold clo
    have : ∀ (rs : List (List Nat)) (f : List Str), f.Nodup → (rs.foldl (fun f r => (clo B n (SX.S r)).foldl addD f) f).Nodup := by
      intro rs
      induction rs with
      | nil => intro f h; exact h
      | cons r rs ih => intro f h; exact ih _ (foldl_addD_nd h)
    exact this _ _ (by simp)
/-- all of a whole blob's closure is there -/
theorem clo_mem {ks : List Str} {B : Str → Bl} : ∀ {n : Nat} {a : Str}, wh ks B (n + 1) a = true → ∀ x ∈ clo B n a, x ∈ ks
  | 0, a, h, x, hx => by
    simp only [clo, List.mem_singleton] at hx
    subst hx
    unfold wh at h
    rw [Bool.and_eq_true, decide_eq_true_eq] at h
    exact h.1
  | n + 1, a, h, x, hx => by
    unfold wh at h
    rw [Bool.and_eq_true, decide_eq_true_eq, List.all_eq_true] at h
    unfold clo at hx
    have : ∀ (rs : List (List Nat)) (f : List Str), (∀ r ∈ rs, wh ks B (n + 1) (SX.S r) = true) → (∀ y ∈ f, y ∈ ks) → ∀ y ∈ rs.foldl (fun f r => (clo B n (SX.S r)).foldl addD f) f, y ∈ ks := by
      intro rs
      induction rs with
      | nil => intro f _ hf; exact hf
      | cons r rs ih =>
        intro f hr hf
        refine ih _ (fun z hz => hr z (List.mem_cons_of_mem _ hz)) fun y hy => ?_
        rcases mem_foldl_addD.mp hy with z | z
        · exact hf y z
        · exact clo_mem (hr r List.mem_cons_self) y z
    refine this _ _ (fun r hr => ?_) (fun y hy => by rw [List.mem_singleton.mp hy]; exact h.1) x hx
    have := h.2 r hr
    rw [Bool.and_eq_true, Bool.and_eq_true] at this
    exact this.2.2
theorem few_len {l ks : List Str} (h : l.Nodup) (h2 : ∀ x ∈ l, x ∈ ks) : l.length ≤ ks.length := nodup_few h h2
section
variable {P : Program} {w : World} {K : PySem.W.Frag} {mg : Str → Option Value} {base : Heap} {C_Collector C_Store C_Refused C_Malformed a_KINDS : Addr}
theorem ok_Store___init__ (T : Txt w K mg C_Collector C_Store C_Refused C_Malformed a_KINDS) : Mak P w K mg base 1 "Store" C_Store (spSInit C_Store) := by
  refine mak_mk T.i_Store sc_Store___init__ (fun vs H Q E h => ?_) (fun f cdv A outer s H vs Q E hr h => ?_)
  · obtain ⟨p, dx, rfl, _⟩ := h
    rfl
  · obtain ⟨p, dx, rfl, hp, k⟩ := h
    refine ⟨_, (pss_one (ps_fld (pv 0) (pe_dnewK) rfl)), ?_⟩
    walk_at "lw"
    refine g_dnew fun d H1 nd s1 hd => ?_
    have hp1 := s1.at hp
    walk_at "lw"
    refine g_rsfld hp1 T.cl_Store T.na_Store_blobs (by show 0 < 1000; decide) fun H2 p2 k2 => ?_
    rw [f_Store_mk] at p2
    walk_at "lw"
    exact k d H2 nd p2 (by rw [k2 d (ne_of hp1 hd (by intro z; cases z)).symm]; exact hd) fun b o e hb => by rw [k2 b hb]; exact s1.at e
theorem ok_Store_keep (T : Txt w K mg C_Collector C_Store C_Refused C_Malformed a_KINDS) : Met P w K mg base 2 C_Store "keep" (spKeep C_Store) := by
  have c_address_of : Cal P w K mg base 1 "address_of" spAddr := ok_address_of T
  refine met_mk T.cl_Store T.m_Store_keep sc_Store_keep (fun vs H Q E h => ?_) (fun f cdv A outer s H vs Q E hr h => ?_)
  · obtain ⟨c, p, ks, B, b, rfl, _⟩ := h
    rfl
  · obtain ⟨c, p, ks, B, b, rfl, W, hl, k⟩ := h
    have hu := hu_of hr
    obtain ⟨dx, d, h1, h2, h3, A', h4, h5⟩ := W.ex
    refine ⟨_, (pss_cons (ps_set (i := 3) sc_Store_keep.nd rfl (by first | exact Or.inl rfl | exact Or.inr rfl) (pe_c c_address_of hr (by first | decide | omega) rfl (pa_cons (pv 1) (pa_cons (pv 2) pa_nil))))
      (pss_cons (ps_dput hu (pe_fld (pv 0) rfl) (pv 3) (pe_tup (pa_cons (pv 1) (pa_cons (pv 2) pa_nil))) rfl)
      (pss_one (ps_ret (pv 3))))), ?_⟩
    walk_at "lw"
    refine ⟨b.k.s, b.t, rfl, b.k.s_kind, ?_⟩
    walk_at "lw"
    refine g_ktup (by show 2 ≤ 100; decide) fun t H1 nt s1 ht => ?_
    have h21 := s1.at h2
    have h41 := s1.at h4
    have h51 : ∀ a ∈ ks, H1 (A' a) = some (.tup [.str (B a).k.s, strS (B a).t]) := fun a ha => s1.at (h5 a ha)
    walk_at "lw"
    refine g_rdputS h41 (by rw [mkS_len]; omega) fun H2 d2 k2 => ?_
    walk_at "lw"
    have hpd : p ≠ d := ne_of h21 h41 (by intro z; cases z)
    refine k H2 ⟨dx, d, h1, by rw [k2 p hpd]; exact h21, h3, BlobD.put h41 h51 ht d2 k2⟩ ((Stp.same s1).trans (Stp.ch h41 h3 (fun xs z => by cases z) d2 k2))
theorem ok_Store_remove_blob (T : Txt w K mg C_Collector C_Store C_Refused C_Malformed a_KINDS) : Met P w K mg base 1 C_Store "remove_blob" (spRemove C_Store) := by
  refine met_mk T.cl_Store T.m_Store_remove_blob sc_Store_remove_blob (fun vs H Q E h => ?_) (fun f cdv A outer s H vs Q E hr h => ?_)
  · obtain ⟨c, p, ks, B, a, rfl, _⟩ := h
    rfl
  · obtain ⟨c, p, ks, B, a, rfl, W, hm, k⟩ := h
    have hu := hu_of hr
    obtain ⟨dx, d, h1, h2, h3, A', h4, h5⟩ := W.ex
    refine ⟨_, (pss_one (ps_ddel (pe_fld (pv 0) rfl) (pv 1))), ?_⟩
    walk_at "lw"
    refine g_rddelS h4 (by rw [valV_mkS, if_pos hm]; rfl) fun H2 d2 k2 => ?_
    walk_at "lw"
    have hpd : p ≠ d := ne_of h2 h4 (by intro z; cases z)
    exact k H2 ⟨dx, d, h1, by rw [k2 p hpd]; exact h2, h3, BlobD.del h4 h5 d2 k2⟩ (Stp.ch h4 h3 (fun xs z => by cases z) d2 k2)
theorem ok_Store_addresses (T : Txt w K mg C_Collector C_Store C_Refused C_Malformed a_KINDS) : Met P w K mg base 1 C_Store "addresses" (spAdrs C_Store) := by
  refine met_mk T.cl_Store T.m_Store_addresses sc_Store_addresses (fun vs H Q E h => ?_) (fun f cdv A outer s H vs Q E hr h => ?_)
  · obtain ⟨c, p, ks, B, rfl, _⟩ := h
    rfl
  · obtain ⟨c, p, ks, B, rfl, W, hl, k⟩ := h
    obtain ⟨dx, d, h1, h2, h3, A', h4, h5⟩ := W.ex
    refine ⟨_, (pss_one (ps_ret (pe_callB (call_sortedD' rfl) (by rfl) T.n_sorted (by decide +kernel) (pa_cons (pe_fld (pv 0) rfl) pa_nil)))), ?_⟩
    walk_at "lw"
    exact ⟨d, _, ks, rfl, .of h4, mkS_keys, hl, fun ys r hp hs nr => k ys r _ hp hs (Same.new nr) upd_same⟩
theorem ok_Store_below (T : Txt w K mg C_Collector C_Store C_Refused C_Malformed a_KINDS) : Met P w K mg base 6 C_Store "below" (spBelow C_Store) := by
  have c_references : CalX P w K mg base 5 "references" (spRefs C_Malformed) := ok_references T
  refine met_mk T.cl_Store T.m_Store_below sc_Store_below (fun vs H Q E h => ?_) (fun f cdv A outer s H vs Q E hr h => ?_)
  · obtain ⟨c, p, ks, B, a, rfl, _⟩ := h
    rfl
  · obtain ⟨c, p, ks, B, a, rfl, W, wf, hm, k⟩ := h
    have hu := hu_of hr
    obtain ⟨dx, d, h1, h2, h3, A', h4, h5⟩ := W.ex
    have ok := wf.ok a hm
    refine ⟨_, (pss_cons (ps_asg (pe_dget hu (pe_fld (pv 0) rfl) (pv 1) (fun _ _ => rfl)) (pg_tup (by rfl) (pgs_cons (pg_name (i := 2) sc_Store_below.nd rfl (by first | exact Or.inl rfl | exact Or.inr rfl)) (pgs_cons (pg_name (i := 3) sc_Store_below.nd rfl (by first | exact Or.inl rfl | exact Or.inr rfl)) pgs_nil))))
      (pss_one (ps_ret (pe_cX c_references takes0 hr (by first | decide | omega) rfl (pa_cons (pv 2) (pa_cons (pv 3) pa_nil)))))), ?_⟩
    walk_at "lw"
    refine g_rdgetS (.of h4) (by rw [valV_mkS, if_pos hm]) ?_
    refine g_gtup (SqT.of (h5 a hm)) rfl ?_
    walk_at "lw"
    refine ⟨(B a).k.s, (B a).t, rfl, by have := ok.l; omega, fun _ q H1 s1 hq => ?_, fun n hn => by rw [ok.f] at hn; cases hn⟩
    exact k q H1 s1 hq
end
end Lw

/-! ## a store and its collector -/
namespace Lw
open PySem L2
open PyProof.Rows (envOfC sortedS)
structure Rg where
  ks : List Str
  B : Str → Bl
  nk : List Str
  N : Str → Str
  n : Int
  cs : List Int
  L : Int → List Str
  un : Int
  ts : List Int
  X : Int → List Nat
  ph : Str
  mr : List Str
  td : List Str
  dm : List Str
structure Rx where
  R : Addr
  p : Addr
  nd : Addr
  cp : Addr
  up : Addr
  co : Addr
structure CoAt (C : Addr) (c : Addr → Nat) (H : Hp) (o p : Addr) (ph : Str) (mk td dm : List Str) : Prop where
  ex : ∃ (dx m t d : Addr), c o = 6 ∧ H o = some (.ins C dx (f_Collector (.ref p) (.str ph) (.ref m) (.ref t) (.ref d))) ∧ c m = 6 ∧ H m = some (.dK (mkS mk fun _ => .bl true)) ∧ c t = 6 ∧ H t = some (.lst (td.map V.str)) ∧ c d = 6 ∧ H d = some (.lst (dm.map V.str)) ∧ t ≠ d
theorem CoAt.frame {C : Addr} {I : Nat → Prop} {c c' : Addr → Nat} {H H' : Hp} {o p : Addr} {ph : Str} {mk td dm : List Str} (h : CoAt C c H o p ph mk td dm) (s : Stp I c c' H H') (hi : ¬ I 6) : CoAt C c' H' o p ph mk td dm := by
  obtain ⟨dx, m, t, d, h1, h2, h3, h4, h5, h6, h7, h8, h9⟩ := h.ex
  exact ⟨dx, m, t, d, by rw [s.col _ _ h2, h1], s.keep _ _ h2 (by rw [h1]; exact hi), by rw [s.col _ _ h4, h3], s.keep _ _ h4 (by rw [h3]; exact hi), by rw [s.col _ _ h6, h5], s.keep _ _ h6 (by rw [h5]; exact hi), by rw [s.col _ _ h8, h7], s.keep _ _ h8 (by rw [h7]; exact hi), h9⟩
def IReg : Nat → Prop := fun i => i = 1 ∨ i = 6
structure RegAt (CS CC CU CO CR : Addr) (c : Addr → Nat) (H : Hp) (x : Rx) (s : Rg) : Prop where
  st : StoreAt CS c H x.p s.ks s.B
  co : CoAt CO c H x.co x.p s.ph s.mr s.td s.dm
section
variable {CS CC CU CO CR : Addr} {c c' : Addr → Nat} {H H' : Hp} {x : Rx} {s : Rg} {I : Nat → Prop}
theorem RegAt.frame (W : RegAt CS CC CU CO CR c H x s) (st : Stp I c c' H H') (hi : ∀ i, I i → ¬ IReg i) : RegAt CS CC CU CO CR c' H' x s := ⟨W.st.frame st fun z => hi 1 z (.inl rfl), W.co.frame st fun z => hi 6 z (.inr rfl)⟩
theorem RegAt.nof (W : RegAt CS CC CU CO CR c H x s) (st : Stp (fun _ => False) c c' H H') : RegAt CS CC CU CO CR c' H' x s := W.frame st fun i z => z.elim
theorem RegAt.same (W : RegAt CS CC CU CO CR c H x s) (st : Same H H') : RegAt CS CC CU CO CR c H' x s := W.nof (Stp.same st)
theorem RegAt.store (W : RegAt CS CC CU CO CR c H x s) {ks : List Str} {B : Str → Bl} (h : StoreAt CS c' H' x.p ks B) (st : Stp (fun i => i = 1) c c' H H') : RegAt CS CC CU CO CR c' H' x { s with ks := ks, B := B } := ⟨h, W.co.frame st (by decide)⟩
theorem RegAt.coll (W : RegAt CS CC CU CO CR c H x s) {ph : Str} {mk td dm : List Str} (h : CoAt CO c' H' x.co x.p ph mk td dm) (st : Stp (fun i => i = 6) c c' H H') : RegAt CS CC CU CO CR c' H' x { s with ph := ph, mr := mk, td := td, dm := dm } := ⟨W.st.frame st (by decide), h⟩
theorem RegAt.hs (W : RegAt CS CC CU CO CR c H x s) : ∃ (d1 d2 d3 d4 d5 : Addr) (v1 v2 v3 v4 v5 v6 v7 v8 : V), True ∧ H x.p = some (.ins CS d2 (f_Store v1)) ∧ True ∧ True ∧ H x.co = some (.ins CO d5 (f_Collector (.ref x.p) (.str s.ph) v6 v7 v8)) ∧ True := by
  obtain ⟨d2, _, _, s2, _⟩ := W.st.ex
  obtain ⟨d5, _, _, _, _, o2, _⟩ := W.co.ex
  exact ⟨d2, d2, d2, d2, d5, _, .non, .non, .non, .non, _, _, _, trivial, s2, trivial, trivial, o2, trivial⟩
end
/-! ### all of it is there, whatever its kind -/
def wk (ks : List Str) (B : Str → Bl) : Nat → Str → Bool
  | 0, _ => false
  | n + 1, a => decide (a ∈ ks) && (B a).refs.all fun r => wk ks B n (SX.S r)
theorem wk_in {ks : List Str} {B : Str → Bl} {n : Nat} {a : Str} (h : wk ks B (n + 1) a = true) : a ∈ ks := by
  unfold wk at h
  rw [Bool.and_eq_true, decide_eq_true_eq] at h
  exact h.1
theorem wk_ref {ks : List Str} {B : Str → Bl} {n : Nat} {a : Str} (h : wk ks B (n + 1) a = true) : ∀ r ∈ (B a).refs, wk ks B n (SX.S r) = true := by
  unfold wk at h
  rw [Bool.and_eq_true, List.all_eq_true] at h
  exact h.2
theorem wk_mk {ks : List Str} {B : Str → Bl} {n : Nat} {a : Str} (h : a ∈ ks) (g : ∀ r ∈ (B a).refs, wk ks B n (SX.S r) = true) : wk ks B (n + 1) a = true := by
  unfold wk
  rw [Bool.and_eq_true, decide_eq_true_eq, List.all_eq_true]
  exact ⟨h, g⟩
theorem wk_up {ks : List Str} {B : Str → Bl} : ∀ (n : Nat) (a : Str), wk ks B n a = true → wk ks B (n + 1) a = true
  | 0, a, z => by cases z
  | n + 1, a, z => wk_mk (wk_in z) fun r hr => wk_up n _ (wk_ref z r hr)
theorem wk_upto {ks : List Str} {B : Str → Bl} {n : Nat} {a : Str} (z : wk ks B n a = true) : ∀ {m : Nat}, n ≤ m → wk ks B m a = true := by
  intro m h
  obtain ⟨k, rfl⟩ := Nat.le.dest h
  clear h
  induction k with
  | zero => exact z
  | succ k ih => exact wk_up _ _ ih
theorem wk_mono {ks ks' : List Str} {B B' : Str → Bl} (h : ∀ x ∈ ks, x ∈ ks' ∧ (B' x).refs = (B x).refs) : ∀ (n : Nat) (a : Str), wk ks B n a = true → wk ks' B' n a = true
  | 0, a, z => by cases z
  | n + 1, a, z => wk_mk (h a (wk_in z)).1 fun r hr => wk_mono h n _ (wk_ref z r (by rw [← (h a (wk_in z)).2]; exact hr))
theorem wk_cut {ks ks' : List Str} {B : Str → Bl} {M : Str → Prop} (h : ∀ a, M a → a ∈ ks' ∧ ∀ r ∈ (B a).refs, M (SX.S r)) : ∀ (n : Nat) (a : Str), M a → wk ks B n a = true → wk ks' B n a = true
  | 0, a, _, z => by cases z
  | n + 1, a, m, z => wk_mk (h a m).1 fun r hr => wk_cut h n _ ((h a m).2 r hr) (wk_ref z r hr)
theorem mem_clo {B : Str → Bl} {n : Nat} {a y : Str} : y ∈ clo B (n + 1) a ↔ y = a ∨ ∃ r ∈ (B a).refs, y ∈ clo B n (SX.S r) := by
  show y ∈ (B a).refs.foldl (fun f r => (clo B n (SX.S r)).foldl addD f) [a] ↔ _
  have : ∀ (rs : List (List Nat)) (f : List Str), y ∈ rs.foldl (fun f r => (clo B n (SX.S r)).foldl addD f) f ↔ y ∈ f ∨ ∃ r ∈ rs, y ∈ clo B n (SX.S r) := by
    intro rs
    induction rs with
    | nil => intro f; simp
    | cons r rs ih =>
      intro f
      rw [List.foldl_cons, ih, mem_foldl_addD]
      constructor
      · rintro ((h | h) | ⟨q, hq, h⟩)
        · exact .inl h
        · exact .inr ⟨r, List.mem_cons_self, h⟩
        · exact .inr ⟨q, List.mem_cons_of_mem _ hq, h⟩
      · rintro (h | ⟨q, hq, h⟩)
        · exact .inl (.inl h)
        · rcases List.mem_cons.mp hq with z | z
          · subst z; exact .inl (.inr h)
          · exact .inr ⟨q, z, h⟩
  rw [this, List.mem_singleton]
theorem clo_self {B : Str → Bl} {n : Nat} {a : Str} : a ∈ clo B n a := by
  cases n with
  | zero => exact List.mem_singleton.mpr rfl
  | succ n => exact mem_clo.mpr (.inl rfl)
/-- what is below a blob that ends: it ends too, and what is below it is there -/
theorem clo_refs {ks : List Str} {B : Str → Bl} : ∀ {n : Nat} {a : Str}, wk ks B (n + 1) a = true → ∀ y ∈ clo B n a, wk ks B (n + 1) y = true ∧ ∀ r ∈ (B y).refs, SX.S r ∈ clo B n a
  | 0, a, z, y, hy => by
    rw [List.mem_singleton.mp hy]
    refine ⟨z, fun r hr => ?_⟩
    have := wk_ref z r hr
    cases this
  | n + 1, a, z, y, hy => by
    rcases mem_clo.mp hy with e | ⟨r, hr, h⟩
    · subst e
      exact ⟨z, fun r hr => mem_clo.mpr (.inr ⟨r, hr, clo_self⟩)⟩
    · obtain ⟨h1, h2⟩ := clo_refs (wk_ref z r hr) y h
      exact ⟨wk_up _ _ h1, fun q hq => mem_clo.mpr (.inr ⟨r, hr, h2 q hq⟩)⟩
theorem clo_wk {ks : List Str} {B : Str → Bl} {n : Nat} {a : Str} (z : wk ks B (n + 1) a = true) : ∀ x ∈ clo B n a, x ∈ ks := fun x hx => wk_in (clo_refs z x hx).1
/-- it is whole in a part of the keys if its closure is in the part -/
theorem wk_of {kb ks : List Str} {B : Str → Bl} : ∀ {n : Nat} {a : Str}, wk kb B (n + 1) a = true → (∀ y ∈ clo B n a, y ∈ ks) → wk ks B (n + 1) a = true
  | 0, a, z, h => wk_mk (h a clo_self) fun r hr => by
    have := wk_ref z r hr
    cases this
  | n + 1, a, z, h => wk_mk (h a clo_self) fun r hr => wk_of (wk_ref z r hr) fun y hy => h y (mem_clo.mpr (.inr ⟨r, hr, hy⟩))
/-! ### promises -/
def shd (s : Rg) (a : Str) : Rg := { s with mr := if s.ph = "idle" then s.mr else (clo s.B 3 a).foldl addD s.mr }
def spCloW (C : Addr) (n : Nat) : Sp := fun vs H Q _ => ∃ (c : Addr → Nat) (p : Addr) (ks : List Str) (B : Str → Bl) (a : Str), vs = [.ref p, .str a] ∧ StoreAt C c H p ks B ∧ SWf ks B ∧ wk ks B (n + 1) a = true ∧ ks.length ≤ 10000 ∧
  ∀ r H', Same H H' → H' r = some (.lst ((clo B n a).map V.str)) → Q (.ref r) H'
def CloW (C : Addr) (n : Nat) (sp : Sp) : Prop := ∀ (c : Addr → Nat) (H : Hp) (Q : VK) (p : Addr) (ks : List Str) (B : Str → Bl) (a : Str), StoreAt C c H p ks B → SWf ks B → wk ks B n a = true → ks.length ≤ 10000 → (∀ r H', Same H H' → H' r = some (.lst ((clo B (n - 1) a).map V.str)) → Q (.ref r) H') → sp [.ref p, .str a] H Q E0
def spCoInit (C : Addr) : Sp := fun vs H Q _ => ∃ (p dx q : Addr), vs = [.ref p, .ref q] ∧ H p = some (.ins C dx []) ∧
  ∀ m t d H', H m = none → H t = none → H d = none → t ≠ d → m ≠ p → t ≠ p → d ≠ p → H' p = some (.ins C dx (f_Collector (.ref q) (.str "idle") (.ref m) (.ref t) (.ref d))) → H' m = some (.dK []) → H' t = some (.lst []) → H' d = some (.lst []) → (∀ b o, H b = some o → b ≠ p → H' b = some o) → Q .non H'
section
variable (CS CC CU CO CR : Addr)
def spStop : Sp := fun vs H Q _ => ∃ (c : Addr → Nat) (x : Rx) (s : Rg), vs = [.ref x.co] ∧ RegAt CS CC CU CO CR c H x s ∧ ∀ c' H', RegAt CS CC CU CO CR c' H' x { s with ph := "idle", mr := [], td := [], dm := [] } → Stp (fun i => i = 6) c c' H H' → Q .non H'
def spShade : Sp := fun vs H Q _ => ∃ (c : Addr → Nat) (x : Rx) (s : Rg) (a : Str), vs = [.ref x.co, .str a] ∧ RegAt CS CC CU CO CR c H x s ∧ SWf s.ks s.B ∧ s.ks.length ≤ 1000 ∧ (s.ph = "idle" ∨ (wk s.ks s.B 4 a = true ∧ s.mr.length ≤ 9000)) ∧ ∀ c' H', RegAt CS CC CU CO CR c' H' x (shd s a) → Stp (fun i => i = 6) c c' H H' → Q .non H'
end
section
variable {P : Program} {w : World} {K : PySem.W.Frag} {mg : Str → Option Value} {base : Heap} {C_Collector C_Store C_Refused C_Malformed a_KINDS : Addr}
theorem clo_stepW (T : Txt w K mg C_Collector C_Store C_Refused C_Malformed a_KINDS) {n k' j : Nat} {sp' : Sp} (h6 : 6 ≤ j) (hk : k' ≤ j) (t_Store_closure : Met P w K mg base k' C_Store "closure" sp') (hs : CloW C_Store n sp') : Met P w K mg base (j + 1) C_Store "closure" (spCloW C_Store n) := by
  have t_Store_below : Met P w K mg base 6 C_Store "below" (spBelow C_Store) := ok_Store_below T
  refine met_mk T.cl_Store T.m_Store_closure sc_Store_closure (fun vs H Q E h => ?_) (fun f cdv A outer s H vs Q E hr h => ?_)
  · obtain ⟨c, p, ks, B, a, rfl, _⟩ := h
    rfl
  · obtain ⟨c, p, ks, B, a, rfl, W, wf, hw, hkl, k⟩ := h
    have hm := wk_in hw
    have hu := hu_of hr
    refine ⟨_, (pss_cons (ps_set (i := 2) sc_Store_closure.nd rfl (by first | exact Or.inl rfl | exact Or.inr rfl) (pe_disp (pps_cons (pv 1) (pe_bl) pps_nil) (by rfl) (by rfl) (fun z => by cases z) (by decide)))
      (pss_cons (ps_for PassesOwn.never rfl (pi_list (pe_mt t_Store_below hr (by first | decide | omega) (pv 0) (pa_cons (pv 1) pa_nil))) (pg_name (i := 3) sc_Store_closure.nd rfl (by first | exact Or.inl rfl | exact Or.inr rfl)) (pss_one (ps_for PassesOwn.never rfl (pi_list (pe_mt t_Store_closure hr (by first | decide | omega) (pv 0) (pa_cons (pv 3) pa_nil))) (pg_name (i := 4) sc_Store_closure.nd rfl (by first | exact Or.inl rfl | exact Or.inr rfl)) (pss_one (ps_dput hu (pv 2) (pv 4) (pe_bl) rfl)))))
      (pss_one (ps_ret (pe_callTy (call_list_dK rfl) (by rfl) T.n_list (by decide +kernel) (pa_cons (pv 2) pa_nil)))))), ?_⟩
    obtain ⟨dx0, d0, h10, h20, _⟩ := id W.ex
    walk_at "lw"
    refine g_disp fun fd H1 nfd s1 hfd => ?_
    walk_at "lw"
    refine g_rdisp (kvs := [(kS a, .bl true)]) hfd rfl (by show 1 ≤ 15; decide) fun H2 hf2 k2 => ?_
    have hf2 : H2 fd = some (.dK (mkS [a] fun _ => .bl true)) := hf2
    have s2 : Same H H2 := s1.chg nfd k2
    have W2 := W.same s2
    obtain ⟨dx, d, h1, h2, h3, A', h4, h5⟩ := id W2.ex
    walk_at "lw"
    refine ⟨c, p, ks, B, a, rfl, W2, wf, hm, fun r H3 s3 hr3 => ?_⟩
    refine g_ritL (SqL.of hr3) ?_
    have hrs : ∀ y ∈ (B a).refs, wk ks B n (SX.S y) = true := wk_ref hw
    have W3 := W2.same s3
    refine for_at (G := fun H' => SqL K H' r ((B a).refs.map strS)) walk_list (fun i σ H' => Same H H' ∧ H' r = some (.lst ((B a).refs.map strS)) ∧ H' fd = some (.dK (mkS (((B a).refs.take i).foldl (fun f y => (clo B (n - 1) (SX.S y)).foldl addD f) [a]) fun _ => .bl true)) ∧ StoreAt C_Store c H' p ks B ∧
      (((B a).refs.take i).foldl (fun f y => (clo B (n - 1) (SX.S y)).foldl addD f) [a]).Nodup ∧ (∀ x ∈ ((B a).refs.take i).foldl (fun f y => (clo B (n - 1) (SX.S y)).foldl addD f) [a], x ∈ ks) ∧
      ∃ v v2 : Option V, σ = [some (.ref p), some (.str a), some (.ref fd), v, v2]) ⟨s2.trans s3, hr3, s3.at hf2, W3, (by simp), (fun x hx => by rw [List.mem_singleton.mp hx]; exact hm), none, none, rfl⟩ (fun i σ H' h => SqL.of h.2.1) ?_ ?_
    · rintro i x σ H4 hx ⟨s4, hr4, hf4, W4, hnd, hin, v, v2, rfl⟩
      obtain ⟨y, hy, rfl⟩ := map_at hx
      have q3 := hrs y (List.mem_of_getElem? hy)
      have hn1 : n - 1 + 1 = n := by
        cases n with
        | zero => cases q3
        | succ n => rfl
      rw [take_ok hy, List.foldl_append]
      show (gName 3) _ _ _ _
      generalize hfo : ((B a).refs.take i).foldl (fun f y => (clo B (n - 1) (SX.S y)).foldl addD f) [a] = fo at hf4 hnd hin
      obtain ⟨dx4, d4, _, h24, _⟩ := id W4.ex
      walk_at "lw"
      refine hs c H4 _ p ks B (SX.S y) W4 wf q3 hkl fun r5 H5 s5 hr5 => ?_
      have hci : ∀ x ∈ clo B (n - 1) (SX.S y), x ∈ ks := clo_wk (n := n - 1) (by rw [hn1]; exact q3)
      have nfr : fd ≠ r := ne_of hf4 hr4 (by intro z; cases z)
      have nfr5 : fd ≠ r5 := ne_of (s5.at hf4) hr5 (by intro z; cases z)
      refine g_ritL (SqL.of hr5) ?_
      refine for_at (G := fun H' => SqL K H' r5 ((clo B (n - 1) (SX.S y)).map V.str)) walk_list (fun i2 σ H' => Same H H' ∧ H' r = some (.lst ((B a).refs.map strS)) ∧ H' r5 = some (.lst ((clo B (n - 1) (SX.S y)).map V.str)) ∧ H' fd = some (.dK (mkS (((clo B (n - 1) (SX.S y)).take i2).foldl addD fo) fun _ => .bl true)) ∧ StoreAt C_Store c H' p ks B ∧
        (((clo B (n - 1) (SX.S y)).take i2).foldl addD fo).Nodup ∧ (∀ x ∈ ((clo B (n - 1) (SX.S y)).take i2).foldl addD fo, x ∈ ks) ∧
        ∃ v : Option V, σ = [some (.ref p), some (.str a), some (.ref fd), some (strS y), v]) ⟨s4.trans s5, s5.at hr4, hr5, s5.at hf4, W4.same s5, hnd, hin, v2, rfl⟩ (fun i σ H' h => SqL.of h.2.2.1) ?_ ?_
      · rintro i2 x σ H6 hx2 ⟨s6, hr6, hr56, hf6, W6, hnd6, hin6, v6, rfl⟩
        obtain ⟨z, hz, rfl⟩ := map_at hx2
        rw [take_ok hz, List.foldl_append]
        generalize hfo6 : ((clo B (n - 1) (SX.S y)).take i2).foldl addD fo = fo6 at hf6 hnd6 hin6
        have hl6 := few_len hnd6 hin6
        walk_at "lw"
        refine g_rdputS hf6 (by rw [mkS_len]; omega) fun H7 h7 k7 => ?_
        walk_at "lw"
        rw [putK_S] at h7
        have n0f : H fd = none := nfd
        have hp7 : StoreAt C_Store c H7 p ks B := by
          obtain ⟨dx6, d6, e1, e2, e3, A6, e4, e5⟩ := W6.ex
          have npf : p ≠ fd := ne_of_none h20 nfd
          have ndf : d6 ≠ fd := fun z => by
            obtain ⟨dx0', d0', _, f2, _, A0, f4, _⟩ := W.ex
            have e2' := s6.at f2
            rw [e2] at e2'
            cases e2'
            rw [z, nfd] at f4
            cases f4
          exact ⟨dx6, d6, e1, by rw [k7 p npf]; exact e2, e3, A6, by rw [k7 d6 ndf]; exact e4, fun a ha => by rw [k7 _ (ne_of (e5 a ha) hf6 (by intro z; cases z))]; exact e5 a ha⟩
        refine ⟨s6.chg n0f k7, by rw [k7 r nfr.symm]; exact hr6, by rw [k7 r5 nfr5.symm]; exact hr56, ?_, hp7, addD_nd hnd6, fun x hx => ?_, _, rfl⟩
        · rw [h7]
          congr 2
          refine mkS_congr fun j _ => ?_
          split <;> rfl
        · rcases mem_putS.mp hx with u | u
          · exact hin6 x u
          · rw [u]; exact hci z (List.mem_of_getElem? hz)
      · rintro σ H6 ⟨s6, hr6, hr56, hf6, W6, hnd6, hin6, v6, rfl⟩
        rw [List.length_map, List.take_length] at hf6 hnd6 hin6
        exact ⟨s6, hr6, hf6, W6, hnd6, hin6, _, _, rfl⟩
    · rintro σ H4 ⟨s4, hr4, hf4, W4, hnd, hin, v, v2, rfl⟩
      rw [List.length_map, List.take_length] at hf4
      walk_at "lw"
      refine ⟨fd, _, rfl, hf4, fun q nq => ?_⟩
      rw [mkS_kV]
      refine k q _ (s4.thenNew nq) ?_
      rw [upd_same]
      congr 2
      cases n with
      | zero =>
        have e : (B a).refs = [] := by
          cases hr : (B a).refs with
          | nil => rfl
          | cons y ys =>
            have := hrs y (by rw [hr]; exact List.mem_cons_self)
            cases this
        rw [e]
        rfl
      | succ n => rfl
theorem no_closure (T : Txt w K mg C_Collector C_Store C_Refused C_Malformed a_KINDS) : Met P w K mg base 1 C_Store "closure" (fun _ _ _ _ => False) :=
  met_mk T.cl_Store T.m_Store_closure sc_Store_closure (fun vs H Q E h => h.elim) (fun f cdv A outer s H vs Q E hr h => h.elim)
theorem ok_Store_closure (T : Txt w K mg C_Collector C_Store C_Refused C_Malformed a_KINDS) : Met P w K mg base 10 C_Store "closure" (spCloW C_Store 3) := by
  have t0 : Met P w K mg base 7 C_Store "closure" (spCloW C_Store 0) := clo_stepW T (j := 6) (by decide) (by decide) (no_closure T) (fun c H Q p ks B a _ _ h _ _ => by cases h)
  have t1 : Met P w K mg base 8 C_Store "closure" (spCloW C_Store 1) := clo_stepW T (j := 7) (by decide) (by decide) t0 (fun c H Q p ks B a W wf hw hl k => ⟨c, p, ks, B, a, rfl, W, wf, hw, hl, k⟩)
  have t2 : Met P w K mg base 9 C_Store "closure" (spCloW C_Store 2) := clo_stepW T (j := 8) (by decide) (by decide) t1 (fun c H Q p ks B a W wf hw hl k => ⟨c, p, ks, B, a, rfl, W, wf, hw, hl, k⟩)
  exact clo_stepW T (j := 9) (by decide) (by decide) t2 (fun c H Q p ks B a W wf hw hl k => ⟨c, p, ks, B, a, rfl, W, wf, hw, hl, k⟩)
theorem ok_Collector___init__ (T : Txt w K mg C_Collector C_Store C_Refused C_Malformed a_KINDS) : Mak P w K mg base 1 "Collector" C_Collector (spCoInit C_Collector) := by
  refine mak_mk T.i_Collector sc_Collector___init__ (fun vs H Q E h => ?_) (fun f cdv A outer s H vs Q E hr h => ?_)
  · obtain ⟨p, dx, q, rfl, _⟩ := h
    rfl
  · obtain ⟨p, dx, q, rfl, hp, k⟩ := h
    refine ⟨_, (pss_cons (ps_fld (pv 0) (pv 1) rfl)
      (pss_cons (ps_fld (pv 0) (pe_str) rfl)
      (pss_cons (ps_fld (pv 0) (pe_dnewK) rfl)
      (pss_cons (ps_fld (pv 0) (pe_lst pa_nil) rfl)
      (pss_one (ps_fld (pv 0) (pe_lst pa_nil) rfl)))))), ?_⟩
    walk_at "lw"
    refine g_rsfld hp T.cl_Collector T.na_Collector_store (by show 0 < 1000; decide) fun H2 h2 k2 => ?_
    walk_at "lw"
    refine g_rsfld h2 T.cl_Collector T.na_Collector_phase (by show 1 < 1000; decide) fun H3 h3 k3 => ?_
    walk_at "lw"
    refine g_dnew fun m H4 nm s4 hm => ?_
    walk_at "lw"
    refine g_rsfld (s4 _ _ h3) T.cl_Collector T.na_Collector_marked (by show 2 < 1000; decide) fun H5 h5 k5 => ?_
    walk_at "lw"
    refine g_klst (by show 0 ≤ 100; decide) fun t H6 nt s6 ht => ?_
    walk_at "lw"
    refine g_rsfld (s6 _ _ h5) T.cl_Collector T.na_Collector_todo (by show 3 < 1000; decide) fun H7 h7 k7 => ?_
    walk_at "lw"
    refine g_klst (by show 0 ≤ 100; decide) fun d H8 nd s8 hd => ?_
    walk_at "lw"
    refine g_rsfld (s8 _ _ h7) T.cl_Collector T.na_Collector_doomed (by show 4 < 1000; decide) fun H9 h9 k9 => ?_
    rw [f_Collector_mk] at h9
    walk_at "lw"
    have mp : m ≠ p := (ne_of_none h3 nm).symm
    have tp : t ≠ p := (ne_of_none h5 nt).symm
    have dp : d ≠ p := (ne_of_none h7 nd).symm
    have ht7 : H7 t = some (.lst []) := by rw [k7 t tp]; exact ht
    have hm5 : H5 m = some (.dK []) := by rw [k5 m mp]; exact hm
    have hm7 : H7 m = some (.dK []) := by rw [k7 m mp]; exact s6.at hm5
    have up : ∀ b o, H b = some o → b ≠ p → H9 b = some o := fun b o e hb => by
      rw [k9 b hb]
      refine s8.at ?_
      rw [k7 b hb]
      refine s6.at ?_
      rw [k5 b hb]
      refine s4.at ?_
      rw [k3 b hb, k2 b hb]
      exact e
    have n0 : ∀ b, b ≠ p → H9 b = none → H b = none := fun b hb e => by
      cases q : H b with
      | none => rfl
      | some o => rw [up b o q hb] at e; cases e
    refine k m t d H9 (by rw [← k2 m mp, ← k3 m mp]; exact nm) ?_ ?_ (ne_of_none ht7 nd) mp tp dp h9 (by rw [k9 m mp]; exact s8.at hm7) (by rw [k9 t tp]; exact s8.at ht7) (by rw [k9 d dp]; exact hd) up
    · have e : H4 t = none := by rw [← k5 t tp]; exact nt
      have e := s4.free e
      rw [← k2 t tp, ← k3 t tp]; exact e
    · have e : H6 d = none := by rw [← k7 d dp]; exact nd
      have e := s6.free e
      have e : H4 d = none := by rw [← k5 d dp]; exact e
      have e := s4.free e
      rw [← k2 d dp, ← k3 d dp]; exact e
theorem ok_Collector_stop (T : Txt w K mg C_Collector C_Store C_Refused C_Malformed a_KINDS) : Met P w K mg base 1 C_Collector "stop" (spStop C_Store C_Store C_Store C_Collector C_Store) := by
  refine met_mk T.cl_Collector T.m_Collector_stop sc_Collector_stop (fun vs H Q E h => ?_) (fun f cdv A outer s H vs Q E hr h => ?_)
  · obtain ⟨c, x, s, rfl, _⟩ := h
    rfl
  · obtain ⟨c, x, s', rfl, W, k⟩ := h
    obtain ⟨dx, m0, t0, d0, h1, hp, h3, h4, h5, h6, h7, h8, h9⟩ := W.co.ex
    refine ⟨_, (pss_cons (ps_fld (pv 0) (pe_str) rfl)
      (pss_cons (ps_fld (pv 0) (pe_dnewK) rfl)
      (pss_cons (ps_fld (pv 0) (pe_lst pa_nil) rfl)
      (pss_one (ps_fld (pv 0) (pe_lst pa_nil) rfl))))), ?_⟩
    walk_at "lw"
    refine g_rsfld hp T.cl_Collector T.na_Collector_phase f_Collector_len fun H3 p3 k3 => ?_
    rw [f_Collector_put_phase] at p3
    have st3 : Stp (fun i => i = 6) c c H H3 := Stp.ch hp h1 (fun xs z => by cases z) p3 k3
    walk_at "lw"
    refine g_dnew fun m H4 nm s4 hm => ?_
    have st4 : Stp (fun i => i = 6) c (Stp.paint c m 6) H3 H4 := L2x_sameN s4 nm
    have q4 : Stp.paint c m 6 x.co = 6 := by rw [st4.col _ _ p3, h1]
    have cm4 : Stp.paint c m 6 m = 6 := Stp.paint_same
    have mp : m ≠ x.co := (ne_of_none p3 nm).symm
    have st := st3.trans st4
    have p4 := s4.at p3
    generalize Stp.paint c m 6 = c4 at st q4 cm4
    clear st3 st4 s4 nm k3 p3
    walk_at "lw"
    refine g_rsfld p4 T.cl_Collector T.na_Collector_marked f_Collector_len fun H5 p5 k5 => ?_
    rw [f_Collector_put_marked] at p5
    have st := st.trans (Stp.ch p4 q4 (fun xs z => by cases z) p5 k5)
    have hm5 : H5 m = some (.dK []) := by rw [k5 m mp]; exact hm
    clear k5 p4 hm
    walk_at "lw"
    refine g_klst (by show 0 ≤ 100; decide) fun t H6 nt s6 ht => ?_
    have st6 : Stp (fun i => i = 6) c4 (Stp.paint c4 t 6) H5 H6 := L2x_sameN s6 nt
    have q6 : Stp.paint c4 t 6 x.co = 6 := by rw [st6.col _ _ p5, q4]
    have cm6 : Stp.paint c4 t 6 m = 6 := by rw [st6.col _ _ hm5, cm4]
    have ct6 : Stp.paint c4 t 6 t = 6 := Stp.paint_same
    have tp : t ≠ x.co := (ne_of_none p5 nt).symm
    have st := st.trans st6
    have p6 := s6.at p5
    have hm6 := s6.at hm5
    generalize Stp.paint c4 t 6 = c6 at st q6 cm6 ct6
    clear st6 s6 nt p5 hm5
    walk_at "lw"
    refine g_rsfld p6 T.cl_Collector T.na_Collector_todo f_Collector_len fun H7 p7 k7 => ?_
    rw [f_Collector_put_todo] at p7
    have st := st.trans (Stp.ch p6 q6 (fun xs z => by cases z) p7 k7)
    have hm7 : H7 m = some (.dK []) := by rw [k7 m mp]; exact hm6
    have ht7 : H7 t = some (.lst []) := by rw [k7 t tp]; exact ht
    clear k7 p6 hm6 ht
    walk_at "lw"
    refine g_klst (by show 0 ≤ 100; decide) fun d H8 nd s8 hd => ?_
    have st8 : Stp (fun i => i = 6) c6 (Stp.paint c6 d 6) H7 H8 := L2x_sameN s8 nd
    have q8 : Stp.paint c6 d 6 x.co = 6 := by rw [st8.col _ _ p7, q6]
    have cm8 : Stp.paint c6 d 6 m = 6 := by rw [st8.col _ _ hm7, cm6]
    have ct8 : Stp.paint c6 d 6 t = 6 := by rw [st8.col _ _ ht7, ct6]
    have cd8 : Stp.paint c6 d 6 d = 6 := Stp.paint_same
    have dp : d ≠ x.co := (ne_of_none p7 nd).symm
    have td : t ≠ d := ne_of_none ht7 nd
    have st := st.trans st8
    have p8 := s8.at p7
    have hm8 := s8.at hm7
    have ht8 := s8.at ht7
    generalize Stp.paint c6 d 6 = c8 at st q8 cm8 ct8 cd8
    clear st8 s8 nd p7 hm7 ht7
    walk_at "lw"
    refine g_rsfld p8 T.cl_Collector T.na_Collector_doomed f_Collector_len fun H9 p9 k9 => ?_
    rw [f_Collector_put_doomed] at p9
    have st := st.trans (Stp.ch p8 q8 (fun xs z => by cases z) p9 k9)
    walk_at "lw"
    exact k c8 H9 (W.coll ⟨dx, m, t, d, q8, p9, cm8, by rw [k9 m mp]; exact hm8, ct8, by rw [k9 t tp]; exact ht8, cd8, by rw [k9 d dp]; exact hd, td⟩ st) st
theorem ok_Collector_shade (T : Txt w K mg C_Collector C_Store C_Refused C_Malformed a_KINDS) : Met P w K mg base 11 C_Collector "shade" (spShade C_Store C_Store C_Store C_Collector C_Store) := by
  have t_Store_closure : Met P w K mg base 10 C_Store "closure" (spCloW C_Store 3) := ok_Store_closure T
  refine met_mk T.cl_Collector T.m_Collector_shade sc_Collector_shade (fun vs H Q E h => ?_) (fun f cdv A outer s H vs Q E hr h => ?_)
  · obtain ⟨c, x, s, a, rfl, _⟩ := h
    rfl
  · obtain ⟨c, x, s', a, rfl, W, sw, kl, sh, k⟩ := h
    have hu := hu_of hr
    obtain ⟨d1, d2, d3, d4, d5, v1, v2, v3, v4, v5, v6, v7, v8, e1, e2, e3, e4, e5, e6⟩ := W.hs
    refine ⟨_, (pss_one (ps_if (pt_cmpR op_ne (pe_fld (pv 0) rfl) (pe_str) (nomark _)) (pss_one (ps_for PassesOwn.never rfl (pi_list (pe_mt t_Store_closure hr (by first | decide | omega) (pe_fld (pv 0) rfl) (pa_cons (pv 1) pa_nil))) (pg_name (i := 2) sc_Collector_shade.nd rfl (by first | exact Or.inl rfl | exact Or.inr rfl)) (pss_one (ps_dput hu (pe_fld (pv 0) rfl) (pv 2) (pe_bl) rfl)))) pss_nil)), ?_⟩
    walk_at "lw"
    unfold shd at k
    refine ifn2 (fun he => ?_) (fun he => ?_)
    · have he := str_eq.mp he
      rw [if_pos he] at k
      walk_at "lw"
      exact k c H W Stp.refl
    · have he : ¬ s'.ph = "idle" := fun z => he (by rw [z])
      rw [if_neg he] at k
      obtain ⟨hw, hl⟩ := sh.resolve_left he
      walk_at "lw"
      refine ⟨c, x.p, s'.ks, s'.B, a, rfl, W.st, sw, hw, by omega, fun r H1 s1 hr1 => ?_⟩
      have hcl := few_len (clo_nd s'.B 3 a) (clo_wk hw)
      refine g_ritL (SqL.of hr1) ?_
      refine for_at (G := fun H' => SqL K H' r ((clo s'.B 3 a).map V.str)) walk_list (fun i σ H' => H' r = some (.lst ((clo s'.B 3 a).map V.str)) ∧ RegAt C_Store C_Store C_Store C_Collector C_Store c H' x { s' with mr := ((clo s'.B 3 a).take i).foldl addD s'.mr } ∧ Stp (fun i => i = 6) c c H H' ∧ ∃ v : Option V, σ = [some (.ref x.co), some (.str a), v]) ⟨hr1, W.same s1, Stp.same s1, none, rfl⟩ (fun i σ H' h => SqL.of h.1) ?_ ?_
      · rintro i y σ H2 hy ⟨hr2, W2, st2, v, rfl⟩
        obtain ⟨z, hz, rfl⟩ := map_at hy
        obtain ⟨dx, m0, t0, d0, h1, hp, h3, h4, h5, h6, h7, h8, h9⟩ := W2.co.ex
        walk_at "lw"
        refine g_rdputS h4 ?_ fun H3 m3 k3 => ?_
        · rw [mkS_len]
          have := foldl_addD_len ((clo s'.B 3 a).take i) s'.mr
          have := (List.take_sublist i (clo s'.B 3 a)).length_le
          show (List.foldl addD s'.mr ((clo s'.B 3 a).take i)).length < 100000
          omega
        walk_at "lw"
        rw [putK_S] at m3
        have st3 : Stp (fun i => i = 6) c c H2 H3 := Stp.ch h4 h3 (fun xs z => by cases z) m3 k3
        have e : (fun j => if j = z then V.bl true else V.bl true) = (fun _ : Str => V.bl true) := funext fun j => ite_self _
        rw [e] at m3
        refine ⟨by rw [k3 r (ne_of hr2 h4 (by intro z; cases z))]; exact hr2, ?_, st2.trans st3, _, rfl⟩
        rw [take_ok hz, List.foldl_append]
        exact W2.coll (mk := addD (List.foldl addD s'.mr ((clo s'.B 3 a).take i)) z) ⟨dx, m0, t0, d0, h1, by rw [k3 _ (ne_of hp h4 (by intro z; cases z))]; exact hp, h3, m3, h5, by rw [k3 _ (ne_of h6 h4 (by intro z; cases z))]; exact h6, h7, by rw [k3 _ (ne_of h8 h4 (by intro z; cases z))]; exact h8, h9⟩ st3
      · rintro σ H2 ⟨hr2, W2, st2, v, rfl⟩
        rw [List.length_map, List.take_length] at W2
        walk_at "lw"
        exact k c H2 W2 st2
end
end Lw

/-! ## the collector's steps -/
namespace Lw
open PySem L2
open PyProof.Rows (envOfC sortedS)
/-- a step of the collector whose roots are rs -/
inductive CStep (rs : List Str) (s : Rg) : Rg → Str → Prop
  | begin (h : s.ph = "idle") : CStep rs s { s with ph := "mark", td := rs } "begin"
  | turn (ys : List Str) (h : s.ph = "mark") (ht : s.td = []) (hp : ys.Perm s.ks) (hs : sortedS ys = true) : CStep rs s { s with ph := "sweep", dm := ys.filter fun a => decide (a ∉ s.mr) } "turn"
  | mark (a : Str) (t : List Str) (h : s.ph = "mark") (ht : s.td = a :: t) (hm : a ∉ s.mr) : CStep rs s { s with mr := s.mr ++ [a], td := t ++ (s.B a).refs.map SX.S } "mark"
  | skip (a : Str) (t : List Str) (h : s.ph = "mark") (ht : s.td = a :: t) (hm : a ∈ s.mr) : CStep rs s { s with td := t } "mark"
  | fin (h : s.ph = "sweep") (ht : s.dm = []) : CStep rs s { s with ph := "idle", mr := [], td := [], dm := [] } "end"
  | drop (a : Str) (t : List Str) (h : s.ph = "sweep") (ht : s.dm = a :: t) (hm : a ∉ s.mr) : CStep rs s { s with ks := s.ks.filter fun j => decide (j ≠ a), dm := t } "sweep"
  | leave (a : Str) (t : List Str) (h : s.ph = "sweep") (ht : s.dm = a :: t) (hm : a ∈ s.mr) : CStep rs s { s with dm := t } "sweep"
structure StepOk (s : Rg) : Prop where
  ph : s.ph = "idle" ∨ s.ph = "mark" ∨ s.ph = "sweep"
  sw : SWf s.ks s.B
  kl : s.ks.length ≤ 1000
  tl : s.td.length ≤ 50000
  tk : s.ph = "mark" → ∀ a ∈ s.td, a ∈ s.ks
  dk : s.ph = "sweep" → ∀ a ∈ s.dm, a ∈ s.ks
  dl : s.dm.length ≤ 1000
  ml : s.mr.length ≤ 1000
def ICo : Nat → Prop := fun i => i = 6 ∨ i = 1
theorem ic6 : ∀ i, i = 6 → ICo i := fun _ h => .inl h
theorem ic1 : ∀ i, i = 1 → ICo i := fun _ h => .inr h
section
variable (CS CC CU CO CR : Addr)
def spMark : Sp := fun vs H Q _ => ∃ (c : Addr → Nat) (x : Rx) (s : Rg), vs = [.ref x.co] ∧ RegAt CS CC CU CO CR c H x s ∧ StepOk s ∧ s.ph = "mark" ∧ ∀ c' H' s' w, (∀ rs, CStep rs s s' w) → RegAt CS CC CU CO CR c' H' x s' → Stp ICo c c' H H' → Q (.str w) H'
def spSweep : Sp := fun vs H Q _ => ∃ (c : Addr → Nat) (x : Rx) (s : Rg), vs = [.ref x.co] ∧ RegAt CS CC CU CO CR c H x s ∧ StepOk s ∧ s.ph = "sweep" ∧ ∀ c' H' s' w, (∀ rs, CStep rs s s' w) → RegAt CS CC CU CO CR c' H' x s' → Stp ICo c c' H H' → Q (.str w) H'
def spStep : Sp := fun vs H Q _ => ∃ (c : Addr → Nat) (x : Rx) (s : Rg) (p : Addr) (rs : List Str), vs = [.ref x.co, .ref p] ∧ H p = some (.lst (rs.map V.str)) ∧ rs.length ≤ 1000 ∧ RegAt CS CC CU CO CR c H x s ∧ StepOk s ∧ ∀ c' H' s' w, CStep rs s s' w → RegAt CS CC CU CO CR c' H' x s' → Stp ICo c c' H H' → Q (.str w) H'
end
theorem map_str_inj {ls : List Str} : (ls.map V.str).length = ls.length := List.length_map _
theorem str_pred {f : List Str} {ys : List Str} : (ys.map V.str).filter (fun v => match v with | .str z => decide (z ∉ f) | _ => false) = (ys.filter fun a => decide (a ∉ f)).map V.str := by
  rw [List.filter_map]
  rfl
section
variable {P : Program} {w : World} {K : PySem.W.Frag} {mg : Str → Option Value} {base : Heap} {C_Collector C_Store C_Refused C_Malformed a_KINDS : Addr}
theorem ok_Collector_mark_one (T : Txt w K mg C_Collector C_Store C_Refused C_Malformed a_KINDS) : Met P w K mg base 7 C_Collector "mark_one" (spMark C_Store C_Store C_Store C_Collector C_Store) := by
  have t_Store_addresses : Met P w K mg base 1 C_Store "addresses" (spAdrs C_Store) := ok_Store_addresses T
  have t_Store_below : Met P w K mg base 6 C_Store "below" (spBelow C_Store) := ok_Store_below T
  refine met_mk T.cl_Collector T.m_Collector_mark_one sc_Collector_mark_one (fun vs H Q E h => ?_) (fun f cdv A outer s H vs Q E hr h => ?_)
  · obtain ⟨c, x, s, rfl, _⟩ := h
    rfl
  · obtain ⟨c, x, s', rfl, W, ok, hph, k⟩ := h
    have hu := hu_of hr
    obtain ⟨d1, d2, d3, d4, d5, v1, v2, v3, v4, v5, v6, v7, v8, e1, e2, e3, e4, e5, e6⟩ := W.hs
    clear e1 e3 e4 e5 e6
    obtain ⟨dx, m, t, d, h1, hp, h3, hm, h5, ht, h7, hd, htd⟩ := W.co.ex
    have nxp : x.co ≠ x.p := ne_of hp e2 (by intro z; cases z)
    refine ⟨_, (pss_cons (ps_if (pt_cmpR op_eq (pe_callB call_len_seq' (by rfl) T.n_len (by decide +kernel) (pa_cons (pe_fld (pv 0) rfl) pa_nil)) (pe_int) (nomark _)) (pss_cons (ps_fld (pv 0) (pe_str) rfl)
      (pss_cons (ps_fld (pv 0) (pe_lc (own := [("address", 1)]) (g := (gName 1)) (by rfl) sc_Collector_mark_one.nd (pi_list (pe_mt0 t_Store_addresses hr (by first | decide | omega) (pe_fld (pv 0) rfl))) (blkOk_by (own := [("address", 1)]) (N := n_Collector_mark_one) (sc := defScope s_Collector_mark_one) (by decide +kernel)) (fun _ _ _ _ _ => (pg_name (i := 1) sc_Collector_mark_one.nd rfl (by first | exact Or.inl rfl | exact Or.inr rfl))) (fun _ _ _ _ _ => (pts_one (pt_cmp (pc_dnotin hu (pv 1) (pe_fldK K rfl (pv 0) rfl))))) (fun _ _ _ _ _ => (pv 1))) rfl)
      (pss_one (ps_ret (pe_str))))) pss_nil)
      (pss_cons (ps_set (i := 1) sc_Collector_mark_one.nd rfl (by first | exact Or.inl rfl | exact Or.inr rfl) (pe_bm PySem.F.plainAttrs_list PySem.F.slot_list_pop PySem.F.type_list_pop mt_popAt (pe_fld (pv 0) rfl) (pa_cons (pe_int) pa_nil)))
      (pss_cons (ps_if (pt_cmp (pc_dnotin hu (pv 1) (pe_fld (pv 0) rfl))) (pss_cons (ps_dput hu (pe_fld (pv 0) rfl) (pv 1) (pe_bl) rfl)
      (pss_one (ps_fld (pv 0) (pe_op op_cat (pe_fld (pv 0) rfl) (pe_mt t_Store_below hr (by first | decide | omega) (pe_fld (pv 0) rfl) (pa_cons (pv 1) pa_nil))) rfl))) pss_nil)
      (pss_one (ps_ret (pe_str)))))), ?_⟩
    walk_at "lw"
    refine if2 (fun he => ?_) (fun he => ?_)
    · have he := int_eq.mp he
      have ht0 : s'.td = [] := by rw [List.length_map] at he; exact List.length_eq_zero_iff.mp (by omega)
      walk_at "lw"
      refine g_rsfld hp T.cl_Collector T.na_Collector_phase f_Collector_len fun H2 p2 k2 => ?_
      rw [f_Collector_put_phase] at p2
      have st2 : Stp (fun i => i = 6) c c H H2 := Stp.ch hp h1 (fun xs z => by cases z) p2 k2
      have m2 : H2 m = _ := (k2 m (ne_of hm hp (by intro z; cases z))).trans hm
      have t2 : H2 t = _ := (k2 t (ne_of ht hp (by intro z; cases z))).trans ht
      have d2' : H2 d = _ := (k2 d (ne_of hd hp (by intro z; cases z))).trans hd
      have W2 := W.coll ⟨dx, m, t, d, h1, p2, h3, m2, h5, t2, h7, d2', htd⟩ st2
      have s2 : H2 x.p = _ := (k2 x.p nxp.symm).trans e2
      clear hp e2 k2 hm ht hd
      walk_at "lw"
      refine ⟨c, x.p, s'.ks, s'.B, rfl, W2.st, Nat.lt_of_le_of_lt ok.kl (by decide), fun ys r H3 pe so s3 hr3 => ?_⟩
      have p3 := s3.at p2
      have m3 := s3.at m2
      refine g_ritL (SqL.of hr3) ?_
      refine lc_map (G := fun H' => SqL K H' r (ys.map V.str)) walk_list (fun H' s => SqL.of (s.at hr3)) (by rw [List.length_map, pe.length_eq]; have := ok.kl; omega) (fun v => match v with | .str z => decide (z ∉ s'.mr) | _ => false) (fun v => v) ?_ ?_
      · intro y hy H' R s4 kk
        obtain ⟨z, hz, rfl⟩ := List.mem_map.mp hy
        walk_at "lw"
        refine kk _ rfl (fun H'' R s5 r => ?_) (fun _ H'' R s5 r => ?_)
        · have p5 := s5.at p3
          have m5 := s5.at m3
          walk_at "lw"
          refine g_rdnotinS (.of m5) ?_
          rw [dec_in]
          walk_at "lw"
          have e : (!decide (z ∈ s'.mr)) = decide (z ∉ s'.mr) := by by_cases q : z ∈ s'.mr <;> simp [q]
          rw [e]
          walk_at "lw"
          exact r
        · walk_at "lw"
          exact r _ (Same.refl _)
      intro q H4 nq s4 hq
      rw [str_pred, List.map_id'] at hq
      have st3 : Stp (fun i => i = 6) c c H2 H3 := Stp.same s3
      have st4 : Stp (fun i => i = 6) c (Stp.paint c q 6) H3 H4 := L2x_sameN s4 nq
      have cq : Stp.paint c q 6 q = 6 := Stp.paint_same
      have W4 := (W2.same s3).frame (L2x_sameN (I := fun _ => False) (i := 6) (c := c) s4 nq) (fun i z => z.elim)
      have qp : q ≠ x.co := (ne_of_none p3 nq).symm
      have qt : t ≠ q := ne_of_none (s3.at t2) nq
      have p4 := s4.at p3
      have st := st2.trans (st3.trans st4)
      obtain ⟨dy, m', t', d', h1', hp', h3', hm', h5', ht', h7', hd', htd'⟩ := W4.co.ex
      have eq : HO.ins C_Collector dy (f_Collector (.ref x.p) (.str "sweep") (.ref m') (.ref t') (.ref d')) = HO.ins C_Collector dx (f_Collector (.ref x.p) (.str "sweep") (.ref m) (.ref t) (.ref d)) := Option.some.inj (hp'.symm.trans p4)
      generalize Stp.paint c q 6 = c4 at cq W4 st h1' h3' h5' h7'
      clear st2 st3 st4 W2 s3 s4 p2 m2 t2 d2' s2 p3 m3 nq hr3 h1 h3 h5 h7 htd
      walk_at "lw"
      refine g_rsfld hp' T.cl_Collector T.na_Collector_doomed f_Collector_len fun H5 p5 k5 => ?_
      rw [f_Collector_put_doomed] at p5
      have st5 : Stp (fun i => i = 6) c4 c4 H4 H5 := Stp.ch hp' h1' (fun xs z => by cases z) p5 k5
      have ett : t' = t := by
        have := (HO.ins.inj eq).2.2
        simp [f_Collector] at this
        exact this.2.1
      walk_at "lw"
      refine k c4 H5 { s' with ph := "sweep", dm := ys.filter fun a => decide (a ∉ s'.mr) } _ (fun rs => .turn ys hph ht0 pe so) (W4.coll (td := s'.td) (mk := s'.mr) ⟨dy, m', t', q, h1', p5, h3', by rw [k5 m' (ne_of hm' hp' (by intro z; cases z))]; exact hm', h5', by rw [k5 t' (ne_of ht' hp' (by intro z; cases z))]; exact ht', cq, by rw [k5 q qp]; exact hq, by rw [ett]; exact qt⟩ st5) ((st.trans st5).mono ic6)
    · obtain ⟨a, l, hal⟩ : ∃ a l, s'.td = a :: l := by
        cases e : s'.td with
        | nil => rw [e] at he; exact absurd rfl he
        | cons a l => exact ⟨a, l, rfl⟩
      have tl := ok.tl
      have ma := ok.tk hph a (by rw [hal]; exact List.mem_cons_self)
      walk_at "lw"
      refine g_tyL ht ?_
      walk_at "lw"
      refine g_popAt (i := 0) ht (y := .str a) (by rw [hal]; rfl) (by rw [List.length_map]; omega) fun H2 t2 k2 => ?_
      rw [hal] at t2
      have t2 : H2 t = some (.lst (l.map V.str)) := t2
      have st2 : Stp (fun i => i = 6) c c H H2 := Stp.ch ht h5 (fun xs z => by cases z) t2 k2
      have p2 : H2 x.co = _ := (k2 x.co (ne_of hp ht (by intro z; cases z))).trans hp
      have m2 : H2 m = _ := (k2 m (ne_of hm ht (by intro z; cases z))).trans hm
      have d2' : H2 d = _ := (k2 d htd.symm).trans hd
      have s2 : H2 x.p = _ := (k2 x.p (ne_of e2 ht (by intro z; cases z))).trans e2
      have W2 := W.coll (td := l) ⟨dx, m, t, d, h1, p2, h3, m2, h5, t2, h7, d2', htd⟩ st2
      clear hp e2 k2 hm ht hd
      walk_at "lw"
      refine g_rdnotinS (.of m2) ?_
      rw [dec_in]
      walk_at "lw"
      refine ifn2 (fun hmr => ?_) (fun hmr => ?_)
      · walk_at "lw"
        exact k c H2 _ _ (fun rs => .skip a l hph hal hmr) W2 (st2.mono ic6)
      · walk_at "lw"
        refine g_rdputS m2 (by rw [mkS_len]; have := ok.ml; omega) fun H3 m3 k3 => ?_
        rw [putK_S, show (fun j : Str => if j = a then V.bl true else V.bl true) = (fun _ : Str => V.bl true) from funext fun j => ite_self _] at m3
        have emr : putS s'.mr a = s'.mr ++ [a] := if_neg hmr
        rw [emr] at m3
        have st3 : Stp (fun i => i = 6) c c H2 H3 := Stp.ch m2 h3 (fun xs z => by cases z) m3 k3
        have p3 : H3 x.co = _ := (k3 x.co (ne_of p2 m2 (by intro z; cases z))).trans p2
        have t3 : H3 t = _ := (k3 t (ne_of t2 m2 (by intro z; cases z))).trans t2
        have d3' : H3 d = _ := (k3 d (ne_of d2' m2 (by intro z; cases z))).trans d2'
        have s3 : H3 x.p = _ := (k3 x.p (ne_of s2 m2 (by intro z; cases z))).trans s2
        have W3 := W2.coll (mk := s'.mr ++ [a]) (td := l) ⟨dx, m, t, d, h1, p3, h3, m3, h5, t3, h7, d3', htd⟩ st3
        have st := st2.trans st3
        clear st2 st3 p2 m2 t2 d2' s2 k3 W2
        walk_at "lw"
        refine ⟨c, x.p, s'.ks, s'.B, a, rfl, W3.st, ok.sw, ma, fun r H4 s4 hr4 => ?_⟩
        walk_at "lw"
        have rl := refs_len (ok.sw.ok a ma)
        have ll : l.length + 1 ≤ 50000 := by have e := congrArg List.length hal; rw [List.length_cons] at e; omega
        refine g_cat (s4.at t3) hr4 (by rw [List.length_map, List.length_map]; omega) fun q H5 nq s5 hq => ?_
        have hq : H5 q = some (.lst ((l ++ (s'.B a).refs.map SX.S).map V.str)) := by
          rw [hq, List.map_append, List.map_map]
          rfl
        have s45 := s4.trans s5
        have st5 : Stp (fun i => i = 6) c (Stp.paint c q 6) H3 H5 := (Stp.same s4).trans (L2x_sameN s5 nq)
        have cq : Stp.paint c q 6 q = 6 := Stp.paint_same
        have W5 := (W3.same s4).frame (L2x_sameN (I := fun _ => False) (i := 6) (c := c) s5 nq) (fun i z => z.elim)
        have p5 := s45.at p3
        have m5 := s45.at m3
        have d5' := s45.at d3'
        have qp : q ≠ x.co := (ne_of_none (s4.at p3) nq).symm
        have qd : q ≠ d := (ne_of_none (s4.at d3') nq).symm
        have c1 : Stp.paint c q 6 x.co = 6 := by rw [st5.col _ _ p3, h1]
        have c3 : Stp.paint c q 6 m = 6 := by rw [st5.col _ _ m3, h3]
        have c7 : Stp.paint c q 6 d = 6 := by rw [st5.col _ _ d3', h7]
        generalize Stp.paint c q 6 = c5 at cq W5 st5 c1 c3 c7
        have st := st.trans st5
        clear st5 s45 s4 s5 p3 m3 t3 d3' s3 W3 nq hr4
        walk_at "lw"
        refine g_rsfld p5 T.cl_Collector T.na_Collector_todo f_Collector_len fun H6 p6 k6 => ?_
        rw [f_Collector_put_todo] at p6
        have st6 : Stp (fun i => i = 6) c5 c5 H5 H6 := Stp.ch p5 c1 (fun xs z => by cases z) p6 k6
        walk_at "lw"
        refine k c5 H6 { s' with mr := s'.mr ++ [a], td := l ++ (s'.B a).refs.map SX.S } _ (fun rs => .mark a l hph hal hmr) (W5.coll ⟨dx, m, q, d, c1, p6, c3, by rw [k6 m (ne_of m5 p5 (by intro z; cases z))]; exact m5, cq, by rw [k6 q qp]; exact hq, c7, by rw [k6 d (ne_of d5' p5 (by intro z; cases z))]; exact d5', qd⟩ st6) ((st.trans st6).mono ic6)
theorem ok_Collector_sweep_one (T : Txt w K mg C_Collector C_Store C_Refused C_Malformed a_KINDS) : Met P w K mg base 2 C_Collector "sweep_one" (spSweep C_Store C_Store C_Store C_Collector C_Store) := by
  have t_Collector_stop : Met P w K mg base 1 C_Collector "stop" (spStop C_Store C_Store C_Store C_Collector C_Store) := ok_Collector_stop T
  have t_Store_remove_blob : Met P w K mg base 1 C_Store "remove_blob" (spRemove C_Store) := ok_Store_remove_blob T
  refine met_mk T.cl_Collector T.m_Collector_sweep_one sc_Collector_sweep_one (fun vs H Q E h => ?_) (fun f cdv A outer s H vs Q E hr h => ?_)
  · obtain ⟨c, x, s, rfl, _⟩ := h
    rfl
  · obtain ⟨c, x, s', rfl, W, ok, hph, k⟩ := h
    have hu := hu_of hr
    obtain ⟨d1, d2, d3, d4, d5, v1, v2, v3, v4, v5, v6, v7, v8, e1, e2, e3, e4, e5, e6⟩ := W.hs
    clear e1 e3 e4 e5 e6
    obtain ⟨dx, m, t, d, h1, hp, h3, hm, h5, ht, h7, hd, htd⟩ := W.co.ex
    refine ⟨_, (pss_cons (ps_if (pt_cmpR op_eq (pe_callB call_len_seq' (by rfl) T.n_len (by decide +kernel) (pa_cons (pe_fld (pv 0) rfl) pa_nil)) (pe_int) (nomark _)) (pss_cons (ps_expr (pe_mt0 t_Collector_stop hr (by first | decide | omega) (pv 0)))
      (pss_one (ps_ret (pe_str)))) pss_nil)
      (pss_cons (ps_set (i := 1) sc_Collector_sweep_one.nd rfl (by first | exact Or.inl rfl | exact Or.inr rfl) (pe_bm PySem.F.plainAttrs_list PySem.F.slot_list_pop PySem.F.type_list_pop mt_popAt (pe_fld (pv 0) rfl) (pa_cons (pe_int) pa_nil)))
      (pss_cons (ps_if (pt_cmp (pc_dnotin hu (pv 1) (pe_fld (pv 0) rfl))) (pss_one (ps_expr (pe_mt t_Store_remove_blob hr (by first | decide | omega) (pe_fld (pv 0) rfl) (pa_cons (pv 1) pa_nil)))) pss_nil)
      (pss_one (ps_ret (pe_str)))))), ?_⟩
    walk_at "lw"
    refine if2 (fun he => ?_) (fun he => ?_)
    · have he := int_eq.mp he
      have hd0 : s'.dm = [] := by rw [List.length_map] at he; exact List.length_eq_zero_iff.mp (by omega)
      walk_at "lw"
      refine ⟨c, x, s', rfl, W, fun c' H' W' st => ?_⟩
      walk_at "lw"
      exact k c' H' _ _ (fun rs => .fin hph hd0) W' (st.mono ic6)
    · obtain ⟨a, l, hal⟩ : ∃ a l, s'.dm = a :: l := by
        cases e : s'.dm with
        | nil => rw [e] at he; exact absurd rfl he
        | cons a l => exact ⟨a, l, rfl⟩
      have ma := ok.dk hph a (by rw [hal]; exact List.mem_cons_self)
      walk_at "lw"
      refine g_tyL hd ?_
      walk_at "lw"
      refine g_popAt (i := 0) hd (y := .str a) (by rw [hal]; rfl) (by rw [List.length_map]; have := ok.dl; omega) fun H2 d2' k2 => ?_
      rw [hal] at d2'
      have d2' : H2 d = some (.lst (l.map V.str)) := d2'
      have st2 : Stp (fun i => i = 6) c c H H2 := Stp.ch hd h7 (fun xs z => by cases z) d2' k2
      have p2 : H2 x.co = _ := (k2 x.co (ne_of hp hd (by intro z; cases z))).trans hp
      have m2 : H2 m = _ := (k2 m (ne_of hm hd (by intro z; cases z))).trans hm
      have t2 : H2 t = _ := (k2 t htd).trans ht
      have s2 : H2 x.p = _ := (k2 x.p (ne_of e2 hd (by intro z; cases z))).trans e2
      have W2 := W.coll (dm := l) ⟨dx, m, t, d, h1, p2, h3, m2, h5, t2, h7, d2', htd⟩ st2
      clear hp e2 k2 hm ht hd
      walk_at "lw"
      refine g_rdnotinS (.of m2) ?_
      rw [dec_in]
      walk_at "lw"
      refine ifn2 (fun hmr => ?_) (fun hmr => ?_)
      · walk_at "lw"
        exact k c H2 _ _ (fun rs => .leave a l hph hal hmr) W2 (st2.mono ic6)
      · walk_at "lw"
        refine ⟨c, x.p, s'.ks, s'.B, a, rfl, W2.st, ma, fun H3 S3 st3 => ?_⟩
        walk_at "lw"
        exact k c H3 { s' with ks := s'.ks.filter fun j => decide (j ≠ a), dm := l } _ (fun rs => .drop a l hph hal hmr) (W2.store S3 st3) ((st2.mono ic6).trans (st3.mono ic1))
theorem ok_Collector_step (T : Txt w K mg C_Collector C_Store C_Refused C_Malformed a_KINDS) : Met P w K mg base 8 C_Collector "step" (spStep C_Store C_Store C_Store C_Collector C_Store) := by
  have t_Collector_mark_one : Met P w K mg base 7 C_Collector "mark_one" (spMark C_Store C_Store C_Store C_Collector C_Store) := ok_Collector_mark_one T
  have t_Collector_sweep_one : Met P w K mg base 2 C_Collector "sweep_one" (spSweep C_Store C_Store C_Store C_Collector C_Store) := ok_Collector_sweep_one T
  refine met_mk T.cl_Collector T.m_Collector_step sc_Collector_step (fun vs H Q E h => ?_) (fun f cdv A outer s H vs Q E hr h => ?_)
  · obtain ⟨c, x, s, p, rs, rfl, _⟩ := h
    rfl
  · obtain ⟨c, x, s', p, rs, rfl, hrs, hrl, W, ok, k⟩ := h
    have hu := hu_of hr
    obtain ⟨dx, m, t, d, h1, hp, h3, hm, h5, ht, h7, hd, htd⟩ := W.co.ex
    refine ⟨_, (pss_cons (ps_if (pt_cmpR op_eq (pe_fld (pv 0) rfl) (pe_str) (nomark _)) (pss_cons (ps_fld (pv 0) (pe_str) rfl)
      (pss_cons (ps_fld (pv 0) (pe_callTy call_list_of (by rfl) T.n_list (by decide +kernel) (pa_cons (pv 1) pa_nil)) rfl)
      (pss_one (ps_ret (pe_str))))) pss_nil)
      (pss_cons (ps_if (pt_cmpR op_eq (pe_fld (pv 0) rfl) (pe_str) (nomark _)) (pss_one (ps_ret (pe_mt0 t_Collector_mark_one hr (by first | decide | omega) (pv 0)))) pss_nil)
      (pss_one (ps_ret (pe_mt0 t_Collector_sweep_one hr (by first | decide | omega) (pv 0)))))), ?_⟩
    walk_at "lw"
    refine if2 (fun he => ?_) (fun he => ?_)
    · have he := str_eq.mp he
      walk_at "lw"
      refine g_rsfld hp T.cl_Collector T.na_Collector_phase f_Collector_len fun H2 p2 k2 => ?_
      rw [f_Collector_put_phase] at p2
      have st2 : Stp (fun i => i = 6) c c H H2 := Stp.ch hp h1 (fun xs z => by cases z) p2 k2
      have m2 : H2 m = _ := (k2 m (ne_of hm hp (by intro z; cases z))).trans hm
      have t2 : H2 t = _ := (k2 t (ne_of ht hp (by intro z; cases z))).trans ht
      have d2' : H2 d = _ := (k2 d (ne_of hd hp (by intro z; cases z))).trans hd
      have r2 : H2 p = _ := (k2 p (ne_of hrs hp (by intro z; cases z))).trans hrs
      have W2 := W.coll ⟨dx, m, t, d, h1, p2, h3, m2, h5, t2, h7, d2', htd⟩ st2
      clear hp k2 hm ht hd hrs
      walk_at "lw"
      refine ⟨p, _, rfl, .inl (SqL.of r2), fun q nq => ?_⟩
      have s3 : Same H2 (upd H2 q (.lst (rs.map V.str))) := Same.new nq
      have q3 : (upd H2 q (.lst (rs.map V.str))) q = some (.lst (rs.map V.str)) := upd_same
      generalize upd H2 q (.lst (rs.map V.str)) = H3 at s3 q3
      have st3 : Stp (fun i => i = 6) c (Stp.paint c q 6) H2 H3 := L2x_sameN s3 nq
      have cq : Stp.paint c q 6 q = 6 := Stp.paint_same
      have W3 := W2.frame (L2x_sameN (I := fun _ => False) (i := 6) (c := c) s3 nq) (fun i z => z.elim)
      have p3 := s3.at p2
      have m3 := s3.at m2
      have d3' := s3.at d2'
      have qp : q ≠ x.co := (ne_of_none p2 nq).symm
      have qd : q ≠ d := (ne_of_none d2' nq).symm
      have c1 : Stp.paint c q 6 x.co = 6 := by rw [st3.col _ _ p2, h1]
      have c3 : Stp.paint c q 6 m = 6 := by rw [st3.col _ _ m2, h3]
      have c7 : Stp.paint c q 6 d = 6 := by rw [st3.col _ _ d2', h7]
      generalize Stp.paint c q 6 = c5 at cq W3 st3 c1 c3 c7
      have st := st2.trans st3
      clear st2 st3 p2 m2 t2 d2' W2 nq s3 r2
      walk_at "lw"
      refine g_rsfld p3 T.cl_Collector T.na_Collector_todo f_Collector_len fun H6 p6 k6 => ?_
      rw [f_Collector_put_todo] at p6
      have st6 : Stp (fun i => i = 6) c5 c5 H3 H6 := Stp.ch p3 c1 (fun xs z => by cases z) p6 k6
      walk_at "lw"
      exact k c5 H6 { s' with ph := "mark", td := rs } _ (.begin he) (W3.coll ⟨dx, m, q, d, c1, p6, c3, by rw [k6 m (ne_of m3 p3 (by intro z; cases z))]; exact m3, cq, by rw [k6 q qp]; exact q3, c7, by rw [k6 d (ne_of d3' p3 (by intro z; cases z))]; exact d3', qd⟩ st6) ((st.trans st6).mono ic6)
    · walk_at "lw"
      have he : ¬ s'.ph = "idle" := fun z => he (by rw [z])
      refine if2 (fun he2 => ?_) (fun he2 => ?_)
      · have he2 := str_eq.mp he2
        walk_at "lw"
        refine ⟨c, x, s', rfl, W, ok, he2, fun c' H' s2 w a b st => ?_⟩
        walk_at "lw"
        exact k c' H' s2 w (a rs) b st
      · have he2 : ¬ s'.ph = "mark" := fun z => he2 (by rw [z])
        walk_at "lw"
        refine ⟨c, x, s', rfl, W, ok, (ok.ph.resolve_left he).resolve_left he2, fun c' H' s2 w a b st => ?_⟩
        walk_at "lw"
        exact k c' H' s2 w (a rs) b st
end
end Lw

/-! ## many numbers in one -/
namespace Sw
/-- n slots of w bits -/
def pf (w : Nat) : Nat → (Nat → Nat) → Nat
  | 0, _ => 0
  | n + 1, F => F 0 + 2 ^ w * pf w n (fun i => F (i + 1))
def pk (w : Nat) : List Nat → Nat
  | [] => 0
  | x :: xs => x + 2 ^ w * pk w xs
theorem pk_pf (w : Nat) : ∀ l : List Nat, pk w l = pf w l.length (fun i => l.getD i 0)
  | [] => rfl
  | x :: xs => by
    show x + 2 ^ w * pk w xs = x + 2 ^ w * pf w xs.length (fun i => xs.getD i 0)
    rw [pk_pf w xs]
theorem pf_congr {w : Nat} : ∀ {n : Nat} {F G : Nat → Nat}, (∀ i, i < n → F i = G i) → pf w n F = pf w n G
  | 0, _, _, _ => rfl
  | n + 1, F, G, h => by
    show F 0 + _ = G 0 + _
    rw [h 0 (Nat.succ_pos _), pf_congr (F := fun i => F (i + 1)) (G := fun i => G (i + 1)) fun i hi => h (i + 1) (Nat.succ_lt_succ hi)]
theorem pf_add (w : Nat) : ∀ (n : Nat) (F G : Nat → Nat), pf w n F + pf w n G = pf w n (fun i => F i + G i)
  | 0, _, _ => rfl
  | n + 1, F, G => by
    show F 0 + 2 ^ w * pf w n _ + (G 0 + 2 ^ w * pf w n _) = F 0 + G 0 + 2 ^ w * pf w n _
    rw [← pf_add w n (fun i => F (i + 1)) (fun i => G (i + 1)), Nat.mul_add]
    omega
theorem pf_mul (w c : Nat) : ∀ (n : Nat) (F : Nat → Nat), c * pf w n F = pf w n (fun i => c * F i)
  | 0, _ => Nat.mul_zero _
  | n + 1, F => by
    show c * (F 0 + 2 ^ w * pf w n _) = c * F 0 + 2 ^ w * pf w n _
    rw [← pf_mul w c n (fun i => F (i + 1)), Nat.mul_add, Nat.mul_left_comm]
theorem bit_of {w a b j : Nat} (h : a < 2 ^ w) : (a + 2 ^ w * b).testBit j = if j < w then a.testBit j else b.testBit (j - w) := by
  rw [Nat.add_comm, Nat.testBit_two_pow_mul_add b h]
theorem lt_slot {w a b c : Nat} (h : a < 2 ^ w) (hb : b < c) : a + 2 ^ w * b < 2 ^ w * c := by
  have : 2 ^ w * (b + 1) ≤ 2 ^ w * c := Nat.mul_le_mul_left _ hb
  rw [Nat.mul_add, Nat.mul_one] at this
  omega
theorem land_slot {w a b m M : Nat} (ha : a < 2 ^ w) (hm : m < 2 ^ w) : (a + 2 ^ w * b) &&& (m + 2 ^ w * M) = (a &&& m) + 2 ^ w * (b &&& M) := by
  apply Nat.eq_of_testBit_eq
  intro j
  rw [Nat.testBit_and, bit_of ha, bit_of hm, bit_of (Nat.lt_of_le_of_lt Nat.and_le_left ha)]
  split
  · rw [Nat.testBit_and]
  · rw [Nat.testBit_and]
theorem xor_slot {w a b m M : Nat} (ha : a < 2 ^ w) (hm : m < 2 ^ w) : (a + 2 ^ w * b) ^^^ (m + 2 ^ w * M) = (a ^^^ m) + 2 ^ w * (b ^^^ M) := by
  apply Nat.eq_of_testBit_eq
  intro j
  rw [Nat.testBit_xor, bit_of ha, bit_of hm, bit_of (Nat.xor_lt_two_pow ha hm)]
  split
  · rw [Nat.testBit_xor]
  · rw [Nat.testBit_xor]
theorem shr_slot {w k a b m M : Nat} (ha : a < 2 ^ w) (hk : k ≤ w) (hm : m < 2 ^ (w - k)) : ((a + 2 ^ w * b) >>> k) &&& (m + 2 ^ w * M) = ((a >>> k) &&& m) + 2 ^ w * ((b >>> k) &&& M) := by
  have hm2 : m < 2 ^ w := Nat.lt_of_lt_of_le hm (Nat.pow_le_pow_right (by decide) (Nat.sub_le _ _))
  apply Nat.eq_of_testBit_eq
  intro j
  rw [Nat.testBit_and, Nat.testBit_shiftRight, bit_of ha, bit_of hm2, bit_of (Nat.lt_of_le_of_lt Nat.and_le_right hm2)]
  by_cases hj : j < w
  · rw [if_pos hj, if_pos hj, Nat.testBit_and, Nat.testBit_shiftRight]
    by_cases h2 : k + j < w
    · rw [if_pos h2]
    · have : m.testBit j = false := Nat.testBit_lt_two_pow (Nat.lt_of_lt_of_le hm (Nat.pow_le_pow_right (by decide) (by omega)))
      rw [this, Bool.and_false, Bool.and_false]
  · rw [if_neg hj, if_neg hj, Nat.testBit_and, Nat.testBit_shiftRight, if_neg (by omega), show k + j - w = k + (j - w) by omega]
theorem pf_land {w : Nat} : ∀ {n : Nat} {F G : Nat → Nat}, (∀ i, i < n → F i < 2 ^ w) → (∀ i, i < n → G i < 2 ^ w) → pf w n F &&& pf w n G = pf w n (fun i => F i &&& G i)
  | 0, _, _, _, _ => Nat.and_zero 0
  | n + 1, F, G, h, g => by
    show (F 0 + 2 ^ w * pf w n _) &&& (G 0 + 2 ^ w * pf w n _) = (F 0 &&& G 0) + 2 ^ w * pf w n _
    rw [land_slot (h 0 (Nat.succ_pos _)) (g 0 (Nat.succ_pos _)), pf_land (F := fun i => F (i + 1)) (G := fun i => G (i + 1)) (fun i hi => h (i + 1) (Nat.succ_lt_succ hi)) fun i hi => g (i + 1) (Nat.succ_lt_succ hi)]
theorem pf_xor {w : Nat} : ∀ {n : Nat} {F G : Nat → Nat}, (∀ i, i < n → F i < 2 ^ w) → (∀ i, i < n → G i < 2 ^ w) → pf w n F ^^^ pf w n G = pf w n (fun i => F i ^^^ G i)
  | 0, _, _, _, _ => Nat.xor_zero 0
  | n + 1, F, G, h, g => by
    show (F 0 + 2 ^ w * pf w n _) ^^^ (G 0 + 2 ^ w * pf w n _) = (F 0 ^^^ G 0) + 2 ^ w * pf w n _
    rw [xor_slot (h 0 (Nat.succ_pos _)) (g 0 (Nat.succ_pos _)), pf_xor (F := fun i => F (i + 1)) (G := fun i => G (i + 1)) (fun i hi => h (i + 1) (Nat.succ_lt_succ hi)) fun i hi => g (i + 1) (Nat.succ_lt_succ hi)]
theorem pf_shr {w k m : Nat} (hk : k ≤ w) (hm : m < 2 ^ (w - k)) : ∀ {n : Nat} {F : Nat → Nat}, (∀ i, i < n → F i < 2 ^ w) → (pf w n F >>> k) &&& pf w n (fun _ => m) = pf w n (fun i => (F i >>> k) &&& m)
  | 0, _, _ => by show (0 >>> k) &&& 0 = 0; rw [Nat.and_zero]
  | n + 1, F, h => by
    show ((F 0 + 2 ^ w * pf w n _) >>> k) &&& (m + 2 ^ w * pf w n _) = ((F 0 >>> k) &&& m) + 2 ^ w * pf w n _
    rw [shr_slot (h 0 (Nat.succ_pos _)) hk hm, pf_shr hk hm (F := fun i => F (i + 1)) fun i hi => h (i + 1) (Nat.succ_lt_succ hi)]
theorem pf_inj {w : Nat} : ∀ {n : Nat} {F G : Nat → Nat}, (∀ i, i < n → F i < 2 ^ w) → (∀ i, i < n → G i < 2 ^ w) → pf w n F = pf w n G → ∀ i, i < n → F i = G i
  | 0, _, _, _, _, _, i, hi => absurd hi (Nat.not_lt_zero _)
  | n + 1, F, G, h, g, e, i, hi => by
    have e : F 0 + 2 ^ w * pf w n (fun i => F (i + 1)) = G 0 + 2 ^ w * pf w n (fun i => G (i + 1)) := e
    have e0 : F 0 = G 0 := by
      have := congrArg (· % 2 ^ w) e
      simpa [Nat.add_mul_mod_self_left, Nat.mod_eq_of_lt (h 0 (Nat.succ_pos _)), Nat.mod_eq_of_lt (g 0 (Nat.succ_pos _))] using this
    cases i with
    | zero => exact e0
    | succ i =>
      rw [e0] at e
      have e1 := Nat.eq_of_mul_eq_mul_left (Nat.two_pow_pos w) (Nat.add_left_cancel e)
      exact pf_inj (F := fun i => F (i + 1)) (G := fun i => G (i + 1)) (fun i hi => h (i + 1) (Nat.succ_lt_succ hi)) (fun i hi => g (i + 1) (Nat.succ_lt_succ hi)) e1 i (Nat.lt_of_succ_lt_succ hi)
theorem pf_one (w n m : Nat) : pf w n (fun _ => m) = m * pf w n (fun _ => 1) := by
  rw [pf_mul]
  exact pf_congr fun i _ => (Nat.mul_one m).symm
/-- two slots are one of double width -/
theorem pf_pair (w : Nat) : ∀ (n : Nat) (F : Nat → Nat), pf (2 * w) n (fun i => F (2 * i) + 2 ^ w * F (2 * i + 1)) = pf w (2 * n) F
  | 0, _ => rfl
  | n + 1, F => by
    have ih := pf_pair w n (fun i => F (i + 2))
    show F 0 + 2 ^ w * F 1 + 2 ^ (2 * w) * pf (2 * w) n (fun i => F (2 * (i + 1)) + 2 ^ w * F (2 * (i + 1) + 1)) = pf w (2 * n + 1 + 1) F
    show _ = F 0 + 2 ^ w * (F 1 + 2 ^ w * pf w (2 * n) (fun i => F (i + 1 + 1)))
    rw [← ih, Nat.mul_add, ← Nat.mul_assoc, ← Nat.pow_add, show w + w = 2 * w by omega]
    rw [show pf (2 * w) n (fun i => F (2 * (i + 1)) + 2 ^ w * F (2 * (i + 1) + 1)) = pf (2 * w) n (fun i => F (2 * i + 2) + 2 ^ w * F (2 * i + 1 + 2)) from pf_congr fun i _ => by
      rw [show 2 * (i + 1) = 2 * i + 2 by omega, show 2 * i + 2 + 1 = 2 * i + 1 + 2 by omega]]
    omega
/-! ### steps on slots -/
/-- X has n slots of w bits, each at most M -/
structure Rel (w n X : Nat) (F : Nat → Nat) (M : Nat) : Prop where
  e : X = pf w n F
  b : ∀ i, i < n → F i ≤ M
section
variable {w n X M : Nat} {F : Nat → Nat}
def spread (m1 m2 s X : Nat) : Nat := Nat.add (Nat.land X m1) (Nat.mul s (Nat.land X m2))
def comb (a m k s X : Nat) : Nat := Nat.add (Nat.mul a (Nat.land X m)) (Nat.mul s (Nat.land (Nat.shiftRight X k) m))
def fold (mp mq X : Nat) : Nat := Nat.add (Nat.land X mp) (Nat.land (Nat.shiftRight X 61) mq)
def canon (o mp X : Nat) : Nat := Nat.land (Nat.add X (Nat.land (Nat.shiftRight (Nat.add X o) 61) o)) mp
def addb (o6 o1 X : Nat) : Nat := Nat.add X (Nat.mul 39 (Nat.land (Nat.shiftRight (Nat.add X o6) 4) o1))
theorem Rel.mono {M' : Nat} (h : Rel w n X F M) (hm : M ≤ M') : Rel w n X F M' := ⟨h.e, fun i hi => Nat.le_trans (h.b i hi) hm⟩
theorem Rel.congr {G : Nat → Nat} (h : Rel w n X F M) (hg : ∀ i, i < n → F i = G i) : Rel w n X G M := ⟨h.e.trans (pf_congr hg), fun i hi => by rw [← hg i hi]; exact h.b i hi⟩
theorem Rel.ones (m : Nat) : Rel w n (m * pf w n (fun _ => 1)) (fun _ => m) m := ⟨(pf_one w n m).symm, fun _ _ => Nat.le_refl _⟩
theorem Rel.add {Y N : Nat} {G : Nat → Nat} (h : Rel w n X F M) (g : Rel w n Y G N) : Rel w n (X + Y) (fun i => F i + G i) (M + N) := ⟨by rw [h.e, g.e, pf_add], fun i hi => Nat.add_le_add (h.b i hi) (g.b i hi)⟩
theorem Rel.mul (h : Rel w n X F M) (c : Nat) : Rel w n (c * X) (fun i => c * F i) (c * M) := ⟨by rw [h.e, pf_mul], fun i hi => Nat.mul_le_mul_left _ (h.b i hi)⟩
theorem Rel.lt {B : Nat} (h : Rel w n X F M) (hm : M < B) : ∀ i, i < n → F i < B := fun i hi => Nat.lt_of_le_of_lt (h.b i hi) hm
theorem Rel.land {Y N : Nat} {G : Nat → Nat} (h : Rel w n X F M) (g : Rel w n Y G N) (hm : M < 2 ^ w) (hn : N < 2 ^ w) : Rel w n (X &&& Y) (fun i => F i &&& G i) N := ⟨by rw [h.e, g.e, pf_land (h.lt hm) (g.lt hn)], fun i hi => Nat.le_trans Nat.and_le_right (g.b i hi)⟩
theorem Rel.mask (h : Rel w n X F M) (m : Nat) (hm : M < 2 ^ w) (hn : m < 2 ^ w) : Rel w n (X &&& (m * pf w n (fun _ => 1))) (fun i => F i &&& m) m := h.land (Rel.ones m) hm hn
theorem Rel.shr (h : Rel w n X F M) (k m : Nat) (hm : M < 2 ^ w) (hk : k ≤ w) (hn : m < 2 ^ (w - k)) : Rel w n ((X >>> k) &&& (m * pf w n (fun _ => 1))) (fun i => (F i >>> k) &&& m) m :=
  ⟨by rw [h.e, ← pf_one, pf_shr hk hn (h.lt hm)], fun i hi => Nat.and_le_right⟩
theorem Rel.xor {Y B : Nat} {G : Nat → Nat} (h : Rel w n X F (2 ^ B - 1)) (g : Rel w n Y G (2 ^ B - 1)) (hB : B ≤ w) : Rel w n (X ^^^ Y) (fun i => F i ^^^ G i) (2 ^ B - 1) := by
  have hp := Nat.two_pow_pos B
  have hb : 2 ^ B ≤ 2 ^ w := Nat.pow_le_pow_right (by decide) hB
  refine ⟨by rw [h.e, g.e, pf_xor (fun i hi => by have := h.b i hi; omega) (fun i hi => by have := g.b i hi; omega)], fun i hi => ?_⟩
  have := Nat.xor_lt_two_pow (x := F i) (y := G i) (n := B) (by have := h.b i hi; omega) (by have := g.b i hi; omega)
  omega
theorem Rel.spread (h : Rel w n X F M) (m1 m2 s : Nat) (hm : M < 2 ^ w) (h1 : m1 < 2 ^ w) (h2 : m2 < 2 ^ w) : Rel w n (spread (m1 * pf w n (fun _ => 1)) (m2 * pf w n (fun _ => 1)) s X) (fun i => Sw.spread m1 m2 s (F i)) (m1 + s * m2) :=
  (h.mask m1 hm h1).add ((h.mask m2 hm h2).mul s)
theorem Rel.comb (h : Rel w n X F M) (a m k s : Nat) (hm : M < 2 ^ w) (h1 : m < 2 ^ w) (hk : k ≤ w) (h2 : m < 2 ^ (w - k)) : Rel w n (comb a (m * pf w n (fun _ => 1)) k s X) (fun i => Sw.comb a m k s (F i)) (a * m + s * m) :=
  ((h.mask m hm h1).mul a).add ((h.shr k m hm hk h2).mul s)
theorem Rel.fold (h : Rel w n X F M) (p q : Nat) (hm : M < 2 ^ w) (h1 : p < 2 ^ w) (hk : 61 ≤ w) (h2 : q < 2 ^ (w - 61)) : Rel w n (fold (p * pf w n (fun _ => 1)) (q * pf w n (fun _ => 1)) X) (fun i => Sw.fold p q (F i)) (p + q) :=
  (h.mask p hm h1).add (h.shr 61 q hm hk h2)
theorem Rel.canon (h : Rel w n X F M) (p : Nat) (hm : M + 1 < 2 ^ w) (hk : 61 < w) (h1 : p < 2 ^ w) : Rel w n (canon (pf w n (fun _ => 1)) (p * pf w n (fun _ => 1)) X) (fun i => Sw.canon 1 p (F i)) p := by
  have o : Rel w n (pf w n (fun _ => 1)) (fun _ => 1) 1 := ⟨rfl, fun _ _ => Nat.le_refl _⟩
  have a := (h.add o).shr 61 1 hm (Nat.le_of_lt hk) (Nat.one_lt_two_pow (by omega))
  rw [Nat.one_mul] at a
  exact (h.add a).mask p hm h1
theorem Rel.addb (h : Rel w n X F M) (hm : M + 6 < 2 ^ w) (hk : 4 < w) : Rel w n (addb (6 * pf w n (fun _ => 1)) (1 * pf w n (fun _ => 1)) X) (fun i => Sw.addb 6 1 (F i)) (M + 39 * 1) :=
  h.add (((h.add (Rel.ones 6)).shr 4 1 hm (Nat.le_of_lt hk) (Nat.one_lt_two_pow (by omega))).mul 39)
end
end Sw

/-! ## the address of a bundle, many at once (printed by n1.py) -/
namespace Sw
def P : Nat := 2305843009213693951
def bunl (x : Nat) : Nat :=
  (canon 1 2305843009213693951 (fold 2305843009213693951 147573952589676412927 (fold 2305843009213693951 147573952589676412927 (Nat.add (comb 257 18446744073709551615 64 312013355238035786 (comb 1 39614081238685424725209907199 32 4362470401 (comb 1 1297994986773405651024978571706367 16 66049 (comb 1 327119693538096028049021137837817919 8 257 (addb 8006643927551493257961755468982781446 1334440654591915542993625911497130241 (spread 77885641318594292392624080437575695 1246170261097508678281985287001211120 16 (spread 20203181445841325826244859658495 5172014450135379411518684072574720 256 (spread 1208907372870555465220095 79226953588444722968664145920 65536 (spread 4294967295 18446744069414584320 4294967296 x))))))))) 1838078109607999688))))
def bun (R X : Nat) : Nat :=
  (canon R (Nat.mul 2305843009213693951 R) (fold (Nat.mul 2305843009213693951 R) (Nat.mul 147573952589676412927 R) (fold (Nat.mul 2305843009213693951 R) (Nat.mul 147573952589676412927 R) (Nat.add (comb 257 (Nat.mul 18446744073709551615 R) 64 312013355238035786 (comb 1 (Nat.mul 39614081238685424725209907199 R) 32 4362470401 (comb 1 (Nat.mul 1297994986773405651024978571706367 R) 16 66049 (comb 1 (Nat.mul 327119693538096028049021137837817919 R) 8 257 (addb (Nat.mul 8006643927551493257961755468982781446 R) (Nat.mul 1334440654591915542993625911497130241 R) (spread (Nat.mul 77885641318594292392624080437575695 R) (Nat.mul 1246170261097508678281985287001211120 R) 16 (spread (Nat.mul 20203181445841325826244859658495 R) (Nat.mul 5172014450135379411518684072574720 R) 256 (spread (Nat.mul 1208907372870555465220095 R) (Nat.mul 79226953588444722968664145920 R) 65536 (spread (Nat.mul 4294967295 R) (Nat.mul 18446744069414584320 R) 4294967296 X))))))))) (Nat.mul 1838078109607999688 R)))))
theorem addb_rel {w n X M a b : Nat} {F : Nat → Nat} (h : Rel w n X F M) (hm : M + a < 2 ^ w) (hk : 4 ≤ w) (h1 : b < 2 ^ (w - 4)) : Rel w n (addb (a * pf w n (fun _ => 1)) (b * pf w n (fun _ => 1)) X) (fun i => addb a b (F i)) (M + 39 * b) :=
  h.add (((h.add (Rel.ones a)).shr 4 b hm hk h1).mul 39)
theorem bun_rel {n X : Nat} {F : Nat → Nat} (h : Rel 128 n X F P) : Rel 128 n (bun (pf 128 n (fun _ => 1)) X) (fun i => bunl (F i)) P := by
  have h := h.spread 4294967295 18446744069414584320 4294967296 (by decide) (by decide) (by decide)
  have h := h.spread 1208907372870555465220095 79226953588444722968664145920 65536 (by decide) (by decide) (by decide)
  have h := h.spread 20203181445841325826244859658495 5172014450135379411518684072574720 256 (by decide) (by decide) (by decide)
  have h := h.spread 77885641318594292392624080437575695 1246170261097508678281985287001211120 16 (by decide) (by decide) (by decide)
  have h := addb_rel (a := 8006643927551493257961755468982781446) (b := 1334440654591915542993625911497130241) h (by decide) (by decide) (by decide)
  have h := h.comb 1 327119693538096028049021137837817919 8 257 (by decide) (by decide) (by decide) (by decide)
  have h := h.comb 1 1297994986773405651024978571706367 16 66049 (by decide) (by decide) (by decide) (by decide)
  have h := h.comb 1 39614081238685424725209907199 32 4362470401 (by decide) (by decide) (by decide) (by decide)
  have h := h.comb 257 18446744073709551615 64 312013355238035786 (by decide) (by decide) (by decide) (by decide)
  have h := h.add (Rel.ones (w := 128) (n := n) 1838078109607999688)
  have h := h.fold P 147573952589676412927 (by decide) (by decide) (by decide) (by decide)
  have h := h.fold P 147573952589676412927 (by decide) (by decide) (by decide) (by decide)
  exact h.canon P (by decide) (by decide) (by decide)
theorem and3 {u v t : Nat} (hu : u ≤ 1) (hv : v ≤ 1) (ht : t ≤ 1) (h : u &&& (v &&& t) = 1) : u = 1 ∧ v = 1 ∧ t = 1 := by
  have a := Nat.le_trans (Nat.le_of_eq h.symm) Nat.and_le_left
  have b := Nat.le_trans (Nat.le_of_eq h.symm) (Nat.le_trans Nat.and_le_right Nat.and_le_left)
  have d := Nat.le_trans (Nat.le_of_eq h.symm) (Nat.le_trans Nat.and_le_right Nat.and_le_right)
  omega
/-- X: sums of 585 images' parts; what is asked of each of them -/
def one (R X : Nat) : Bool :=
  (fun x => (fun y => Nat.beq (Nat.land (Nat.land (Nat.shiftRight (Nat.add x (Nat.mul 18446744073675997184 R)) 64) (Nat.mul 1 R)) (Nat.land (Nat.land (Nat.shiftRight (Nat.add y (Nat.mul 18446744073675997184 R)) 64) (Nat.mul 1 R)) (Nat.land (Nat.shiftRight (Nat.add (Nat.xor (bun R y) x) (Nat.mul P R)) 61) (Nat.mul 1 R)))) R) (bun R x)) (canon R (Nat.mul P R) (fold (Nat.mul P R) (Nat.mul 147573952589676412927 R) X))
def red (v : Nat) : Nat := canon 1 P (fold P 147573952589676412927 v)
theorem one_rel {n X : Nat} {F : Nat → Nat} (h : Rel 128 n X F (2 ^ 64)) (ho : one (pf 128 n (fun _ => 1)) X = true) : ∀ i, i < n → ((red (F i) + 18446744073675997184) >>> 64) &&& 1 = 1 ∧ ((bunl (red (F i)) + 18446744073675997184) >>> 64) &&& 1 = 1 ∧ (((bunl (bunl (red (F i)))) ^^^ red (F i)) + P) >>> 61 &&& 1 = 1 := by
  have hx := (h.fold P 147573952589676412927 (by decide) (by decide) (by decide) (by decide)).canon P (by decide) (by decide) (by decide)
  have hy := bun_rel hx
  have hz := bun_rel hy
  have a := (hx.add (Rel.ones (w := 128) (n := n) 18446744073675997184)).shr 64 1 (by decide) (by decide) (by decide)
  have b := (hy.add (Rel.ones (w := 128) (n := n) 18446744073675997184)).shr 64 1 (by decide) (by decide) (by decide)
  have d := ((Rel.xor (B := 61) hz hx (by decide)).add (Rel.ones (w := 128) (n := n) P)).shr 61 1 (by decide) (by decide) (by decide)
  have e := a.land (b.land d (by decide) (by decide)) (by decide) (by decide)
  have e1 := Nat.eq_of_beq_eq_true ho
  have key := pf_inj (w := 128) (n := n) (fun i hi => Nat.lt_of_le_of_lt (e.b i hi) (by decide)) (fun i hi => (by decide : 1 < 2 ^ 128)) (e.e.symm.trans e1)
  intro i hi
  have k := key i hi
  have ha := a.b i hi
  have hb := b.b i hi
  have hd := d.b i hi
  show _ = 1 ∧ _ = 1 ∧ _ = 1
  exact and3 ha hb hd k
end Sw

/-! ## what is reckoned in one slot (printed by n2.py) -/
namespace Sw
theorem land_pow (x j : Nat) : x &&& (2 ^ j - 1) = x % 2 ^ j := Nat.and_two_pow_sub_one_eq_mod x j
theorem fold_eq {v : Nat} (h : v < 2 ^ 128) : fold P 147573952589676412927 v = v % 2 ^ 61 + v / 2 ^ 61 := by
  show (v &&& (2 ^ 61 - 1)) + ((v >>> 61) &&& (2 ^ 67 - 1)) = _
  rw [land_pow, land_pow, Nat.shiftRight_eq_div_pow, Nat.mod_eq_of_lt (a := v / 2 ^ 61) (by omega)]
theorem canon_eq {v : Nat} (h : v < 2 * P) : canon 1 P v = v % P := by
  show (v + (((v + 1) >>> 61) &&& (2 ^ 1 - 1))) &&& (2 ^ 61 - 1) = _
  rw [land_pow, land_pow, Nat.shiftRight_eq_div_pow, show (2 : Nat) ^ 1 = 2 from rfl, show (2 : Nat) ^ 61 = 2305843009213693952 from rfl]
  unfold P at *
  by_cases hv : v < 2305843009213693951
  · rw [Nat.div_eq_of_lt (by omega), Nat.zero_mod, Nat.add_zero, Nat.mod_eq_of_lt (by omega), Nat.mod_eq_of_lt hv]
  · have e : (v + 1) / 2305843009213693952 = 1 := by omega
    rw [e]
    show (v + 1) % 2305843009213693952 = v % 2305843009213693951
    rw [Nat.mod_eq_sub_mod (by omega), Nat.mod_eq_of_lt (by omega), Nat.mod_eq_sub_mod (a := v) (by omega), Nat.mod_eq_of_lt (by omega)]
    omega
theorem red_eq {v : Nat} (h : v ≤ 2 ^ 64) : red v = v % P := by
  unfold red
  rw [fold_eq (Nat.lt_of_le_of_lt h (by decide)), canon_eq (by unfold P; omega)]
  unfold P
  omega
theorem ge25 {x : Nat} (h : ((x + 18446744073675997184) >>> 64) &&& 1 = 1) : 2 ^ 25 ≤ x := by
  rw [Nat.shiftRight_eq_div_pow, Nat.and_one_is_mod] at h
  omega
theorem ne61 {x z : Nat} (h : ((z ^^^ x) + P) >>> 61 &&& 1 = 1) : z ≠ x := by
  intro e
  rw [e, Nat.xor_self, Nat.shiftRight_eq_div_pow, Nat.and_one_is_mod] at h
  unfold P at h
  omega
def dig (q x i : Nat) : Nat := x / 2 ^ (q * i) % 2 ^ q
theorem dig_lt (q x i : Nat) : dig q x i ≤ 2 ^ q - 1 := by
  have := Nat.mod_lt (x / 2 ^ (q * i)) (Nat.two_pow_pos q)
  unfold dig
  omega
theorem dig_lo (q x i : Nat) : dig (2 * q) x i % 2 ^ q = dig q x (2 * i) := by
  unfold dig
  rw [Nat.mod_mod_of_dvd _ (Nat.pow_dvd_pow 2 (by omega : q ≤ 2 * q)), show 2 * q * i = q * (2 * i) by rw [Nat.mul_comm 2 q, Nat.mul_assoc]]
theorem dig_hi (q x i : Nat) : dig (2 * q) x i / 2 ^ q = dig q x (2 * i + 1) := by
  unfold dig
  rw [show 2 ^ (2 * q) = 2 ^ q * 2 ^ q by rw [← Nat.pow_add]; congr 1; omega, Nat.mod_mul_right_div_self, Nat.div_div_eq_div_mul, ← Nat.pow_add, show 2 * q * i + q = q * (2 * i + 1) by rw [Nat.mul_add, Nat.mul_one, Nat.mul_comm 2 q, Nat.mul_assoc]]
theorem land_hi (z q : Nat) : z &&& ((2 ^ q - 1) * 2 ^ q) = 2 ^ q * (z / 2 ^ q % 2 ^ q) := by
  have hp := Nat.two_pow_pos q
  have e := Nat.mod_add_div z (2 ^ q)
  have := land_slot (w := q) (a := z % 2 ^ q) (b := z / 2 ^ q) (m := 0) (M := 2 ^ q - 1) (Nat.mod_lt _ hp) hp
  rw [e, Nat.zero_add, Nat.and_zero, Nat.zero_add, land_pow] at this
  rw [Nat.mul_comm (2 ^ q - 1)]
  exact this
theorem stage {q n x X m1 m2 s : Nat} (h : Rel (2 * (2 * q)) n X (dig (2 * q) x) (2 ^ (2 * q) - 1)) (hq : 0 < q) (e1 : m1 = (2 ^ q - 1) * pf (2 * (2 * q)) n (fun _ => 1)) (e2 : m2 = (2 ^ q - 1) * 2 ^ q * pf (2 * (2 * q)) n (fun _ => 1)) (e3 : s = 2 ^ q) :
    Rel (2 * q) (2 * n) (spread m1 m2 s X) (dig q x) (2 ^ q - 1) := by
  subst e1 e2 e3
  have hp := Nat.two_pow_pos q
  have hq2 : 2 ^ (2 * q) = 2 ^ q * 2 ^ q := by rw [← Nat.pow_add]; congr 1; omega
  have hq4 : 2 ^ (2 * (2 * q)) = 2 ^ (2 * q) * 2 ^ (2 * q) := by rw [← Nat.pow_add]; congr 1; omega
  have hp2 := Nat.two_pow_pos (2 * q)
  have hle : 2 ^ (2 * q) ≤ 2 ^ (2 * (2 * q)) := Nat.pow_le_pow_right (by decide) (by omega)
  have hm2 : (2 ^ q - 1) * 2 ^ q < 2 ^ (2 * q) := by rw [hq2]; exact Nat.mul_lt_mul_of_pos_right (by omega) hp
  have hm1 : 2 ^ q - 1 < 2 ^ (2 * q) := Nat.lt_of_lt_of_le (by omega : 2 ^ q - 1 < 2 ^ q) (Nat.pow_le_pow_right (by decide) (by omega))
  have r := h.spread (2 ^ q - 1) ((2 ^ q - 1) * 2 ^ q) (2 ^ q) (by omega) (by omega) (by omega)
  refine ⟨?_, fun i _ => dig_lt q x i⟩
  rw [r.e, ← pf_pair (2 * q) n (dig q x)]
  refine pf_congr fun i hi => ?_
  show (dig (2 * q) x i &&& (2 ^ q - 1)) + 2 ^ q * (dig (2 * q) x i &&& ((2 ^ q - 1) * 2 ^ q)) = _
  have hd : dig (2 * q) x i / 2 ^ q < 2 ^ q := by
    have := dig_lt (2 * q) x i
    rw [Nat.div_lt_iff_lt_mul hp, ← hq2]
    omega
  rw [land_pow, land_hi, dig_lo, Nat.mod_eq_of_lt hd, dig_hi, ← Nat.mul_assoc, ← hq2]
/-- a pair of slots put together -/
theorem pairs {w n X M j m s s2 : Nat} {F : Nat → Nat} (h : Rel w (2 * n) X F M) (a : Nat) (hj : j ≤ w) (hM : M < 2 ^ j) (e : m = (2 ^ j - 1) * pf (2 * w) n (fun _ => 1)) (hs : s2 = w) (hw : M + 2 ^ w * M < 2 ^ (2 * w)) :
    Rel (2 * w) n (comb a m s2 s X) (fun i => a * F (2 * i) + s * F (2 * i + 1)) (a * M + s * M) := by
  subst e hs
  have hp := Nat.two_pow_pos j
  have hjw : 2 ^ j ≤ 2 ^ s2 := Nat.pow_le_pow_right (by decide) hj
  have hww : 2 ^ s2 ≤ 2 ^ (2 * s2) := Nat.pow_le_pow_right (by decide) (by omega)
  have r0 : Rel (2 * s2) n X (fun i => F (2 * i) + 2 ^ s2 * F (2 * i + 1)) (M + 2 ^ s2 * M) := ⟨by rw [h.e, pf_pair], fun i hi => Nat.add_le_add (h.b _ (by omega)) (Nat.mul_le_mul_left _ (h.b _ (by omega)))⟩
  have r := r0.comb a (2 ^ j - 1) s2 s hw (by omega) (by omega) (by rw [show 2 * s2 - s2 = s2 by omega]; omega)
  refine ⟨?_, fun i hi => Nat.add_le_add (Nat.mul_le_mul_left _ (h.b _ (by omega))) (Nat.mul_le_mul_left _ (h.b _ (by omega)))⟩
  rw [r.e]
  refine pf_congr fun i hi => ?_
  have h0 := h.b (2 * i) (by omega)
  have h1 := h.b (2 * i + 1) (by omega)
  show a * ((F (2 * i) + 2 ^ s2 * F (2 * i + 1)) &&& (2 ^ j - 1)) + s * (((F (2 * i) + 2 ^ s2 * F (2 * i + 1)) >>> s2) &&& (2 ^ j - 1)) = _
  have ej : 2 ^ s2 = 2 ^ j * 2 ^ (s2 - j) := by rw [← Nat.pow_add]; congr 1; omega
  rw [land_pow, land_pow, Nat.shiftRight_eq_div_pow, Nat.add_mul_div_left _ _ (Nat.two_pow_pos s2), Nat.div_eq_of_lt (a := F (2 * i)) (by omega), Nat.zero_add, Nat.mod_eq_of_lt (a := F (2 * i + 1)) (by omega)]
  rw [ej, Nat.mul_assoc, Nat.add_mul_mod_self_left, Nat.mod_eq_of_lt (by omega)]
/-- a sign's number, from 48 -/
def wd (d : Nat) : Nat := addb 6 1 d
theorem wd_eq {d : Nat} (h : d < 16) : wd d = d + if 10 ≤ d then 39 else 0 := by
  have : ∀ d, d < 16 → wd d = d + if 10 ≤ d then 39 else 0 := by decide
  exact this d h
theorem wd_le {d : Nat} (h : d < 16) : wd d ≤ 54 := by
  have : ∀ d, d < 16 → wd d ≤ 54 := by decide
  exact this d h
def g1 (x i : Nat) : Nat := 1 * wd (dig 4 x (2 * i)) + 257 * wd (dig 4 x (2 * i + 1))
def g2 (x i : Nat) : Nat := 1 * g1 x (2 * i) + 66049 * g1 x (2 * i + 1)
def g3 (x i : Nat) : Nat := 1 * g2 x (2 * i) + 4362470401 * g2 x (2 * i + 1)
theorem bunl_eq {x : Nat} (h : x < 2 ^ 64) : bunl x = (257 * g3 x 0 + 312013355238035786 * g3 x 1 + 1838078109607999688) % P := by
  have r0 : Rel (2 * (2 * 32)) 1 x (dig (2 * 32) x) (2 ^ (2 * 32) - 1) := ⟨by show x = dig 64 x 0 + 2 ^ 128 * 0; unfold dig; rw [Nat.mul_zero, Nat.pow_zero, Nat.div_one, Nat.add_zero, Nat.mod_eq_of_lt h], fun i _ => dig_lt _ _ _⟩
  have r1 := stage (q := 32) (m1 := 4294967295) (m2 := 18446744069414584320) (s := 4294967296) r0 (by decide) (by decide) (by decide) (by decide)
  have r2 := stage (q := 16) (m1 := 1208907372870555465220095) (m2 := 79226953588444722968664145920) (s := 65536) r1 (by decide) (by decide) (by decide) (by decide)
  have r3 := stage (q := 8) (m1 := 20203181445841325826244859658495) (m2 := 5172014450135379411518684072574720) (s := 256) r2 (by decide) (by decide) (by decide) (by decide)
  have r4 := stage (q := 4) (m1 := 77885641318594292392624080437575695) (m2 := 1246170261097508678281985287001211120) (s := 16) r3 (by decide) (by decide) (by decide) (by decide)
  have r5 := addb_rel (a := 6) (b := 1) r4 (by decide) (by decide) (by decide)
  rw [show 6 * pf (2 * 4) (2 * (2 * (2 * (2 * 1)))) (fun _ => 1) = 8006643927551493257961755468982781446 by decide, show 1 * pf (2 * 4) (2 * (2 * (2 * (2 * 1)))) (fun _ => 1) = 1334440654591915542993625911497130241 by decide] at r5
  have r5 : Rel 8 (2 * 8) _ (fun i => wd (dig 4 x i)) 54 := ⟨r5.e, fun i _ => wd_le (by have := dig_lt 4 x i; omega)⟩
  have r6 : Rel 16 (2 * 4) _ (g1 x) _ := pairs (j := 6) (m := 327119693538096028049021137837817919) (s2 := 8) (s := 257) r5 1 (by decide) (by decide) (by decide) rfl (by decide)
  have r7 : Rel 32 (2 * 2) _ (g2 x) _ := pairs (j := 14) (m := 1297994986773405651024978571706367) (s2 := 16) (s := 66049) r6 1 (by decide) (by decide) (by decide) rfl (by decide)
  have r8 : Rel 64 (2 * 1) _ (g3 x) _ := pairs (j := 31) (m := 39614081238685424725209907199) (s2 := 32) (s := 4362470401) r7 1 (by decide) (by decide) (by decide) rfl (by decide)
  have r9 := pairs (j := 64) (m := 18446744073709551615) (s2 := 64) (s := 312013355238035786) r8 257 (by decide) (by decide) (by decide) rfl (by decide)
  have e9 := r9.e
  have b9 := r9.b 0 (by decide)
  have e9 : _ = 257 * g3 x 0 + 312013355238035786 * g3 x 1 + 2 ^ 128 * 0 := e9
  rw [Nat.mul_zero, Nat.add_zero] at e9
  have b9 : 257 * g3 x 0 + 312013355238035786 * g3 x 1 ≤ _ := b9
  unfold bunl
  rw [e9]
  generalize 257 * g3 x 0 + 312013355238035786 * g3 x 1 = T at b9 ⊢
  show canon 1 P (fold P 147573952589676412927 (fold P 147573952589676412927 (T + 1838078109607999688))) = _
  have b9 : T ≤ 2 ^ 125 := Nat.le_trans b9 (by decide)
  rw [fold_eq (v := T + 1838078109607999688) (by omega), fold_eq (by omega), canon_eq (by unfold P; omega)]
  unfold P
  omega
end Sw

/-! ## all images of three layers (printed by n3.py) -/
namespace Sw
@[irreducible] def s3 : List Nat := [440538995658052544, 440538995675423945, 440538995675424202, 440538995675424459, 440538995675369718, 440538995675369975, 440538995675159492, 440538995675225541, 440538995675225798, 440540143059035906, 440540143059036163, 440540143059036420, 440540143058981679, 440540143058981936, 440540143056195542, 440540143056261591, 440540143056261848, 440540143076010756, 440540143076011013, 440540143076011270, 440540143075956529, 440540143075956786, 440540143073170392, 440540143073236441, 440540143073236698, 440540143092985606, 440540143092985863, 440540143092986120, 440540143092931379, 440540143092931636, 440540143090145242, 440540143090211291, 440540143090211548, 440540139477342556, 440540139477342813, 440540139477343070, 440540139477330220, 440540139477330477, 440540139474502192, 440540139474568241, 440540139474568498, 440540139494317406, 440540139494317663, 440540139494317920, 440540139494305070, 440540139494305327, 440540139491477042, 440540139491543091, 440540139491543348, 440540125589339345, 440540125589339602, 440540125589339859, 440540125589285118, 440540125589285375, 440540125589074892, 440540125589140941, 440540125589141198, 440540129951875795, 440540129951876052, 440540129951876309, 440540129951821568, 440540129951821825, 440540129951611342, 440540129951677391, 440540129951677648, 440540129968850645, 440540129968850902, 440540129968851159, 440540129968796418, 440540129968796675, 440540129968586192, 440540129968652241, 440540129968652498, 516325712520856072, 516325712520856329, 516325712520856586, 516325712520801845, 516325712520802102, 516325711845240594, 516325711845306643, 516325711845306900, 516325712537830922, 516325712537831179, 516325712537841459, 516325712537776695, 516325712537828866, 516325712524224571, 516325712524290620, 516325712524290877, 516325712554805772, 516325712554816052, 516325712554816309, 516325712554803459, 516325712554803716, 516325712541199421, 516325712541265470, 516325712541265727, 516325711706021381, 516325711706021638, 516325711706073809, 516325711706009045, 516325711706009302, 516325711692415030, 516325711692481079, 516325711692481336, 516325711722996231, 516325711723048402, 516325711723048659, 516325711722983895, 516325711722984152, 516325711709389880, 516325711709455929, 516325711709456186, 516324813159363395, 516324813159363652, 516324813159363909, 516324813159309168, 516324813159309425, 516324813159098942, 516324813159164991, 516324813159165248, 516324817521899845, 516324817521900102, 516324817521900359, 516324817521845618, 516324817521845875, 516324817521635392, 516324817521701441, 516324817521701698, 516324817538874695, 516324817538874952, 516324817538875209, 516324817538820468, 516324817538820725, 516324817538610242, 516324817538676291, 516324817538676548, 516326833709698572, 516326833709698829, 516326833709709109, 516326833709644345, 516326833709696516, 516326833696092221, 516326833696158270, 516326833696158527, 516326833726673422, 516326833726683702, 516326833726683959, 516326833726671109, 516326833726671366, 516326833713067071, 516326833713133120, 516326833713133377, 516326833743658295, 516326833743658552, 516326833743658809, 516326833743645959, 516326833743646216, 516326833730041921, 516326833730107970, 516326833730118250, 516326832894863881, 516326832894916052, 516326832894916309, 516326832894851545, 516326832894851802, 516326832881257530, 516326832881323579, 516326832881323836, 516326832911890645, 516326832911890902, 516326832911891159, 516326832911826395, 516326832911826652, 516326832898232380, 516326832898298429, 516326832898350600, 516325935010215022, 516325935010215279, 516325935010215536, 516325935010160795, 516325935010161052, 516325935009950569, 516325935010016618, 516325935010016875, 516325939372751472, 516325939372751729, 516325939372751986, 516325939372697245, 516325939372697502, 516325939372487019, 516325939372553068, 516325939372553325, 516325939389726322, 516325939389726579, 516325939389736859, 516325939389672095, 516325939389724266, 516325939389461869, 516325939389527918, 516325939389528175, 516327954898541072, 516327954898551352, 516327954898551609, 516327954898538759, 516327954898539016, 516327954884934721, 516327954885000770, 516327954885001027, 516327954915525945, 516327954915526202, 516327954915526459, 516327954915513609, 516327954915513866, 516327954901909571, 516327954901975620, 516327954901985900, 516327958361368581, 516327958361368838, 516327958361369095, 516327958361356245, 516327958361356502, 516327954918894444, 516327954918960493, 516327954918960750, 516327954083758295, 516327954083758552, 516327954083758809, 516327954083694045, 516327954083694302, 516327954070100030, 516327954070166079, 516327954070218250, 516327954100733145, 516327954100733402, 516327954100733659, 516327954100668895, 516327954100669152, 516327954087126794, 516327954087192843, 516327954087193100, 516327056199057522, 516327056199057779, 516327056199068059, 516327056199003295, 516327056199055466, 516327056198793069, 516327056198859118, 516327056198859375, 516327060561593972, 516327060561594229, 516327060561604509, 516327060561539745, 516327060561591916, 516327060561329519, 516327060561395568, 516327060561395825, 516327060578568822, 516327060578579102, 516327060578579359, 516327060578566509, 516327060578566766, 516327060578304369, 516327060578370418, 516327060578370675, 516089143779938104, 516089143779938361, 516089143779990532, 516089143779925768, 516089143779926025, 516089143766331753, 516089143766397802, 516089143766398059, 516089143796912954, 516089143796965125, 516089143796965382, 516089143796900618, 516089143796900875, 516089143783306603, 516089143783372652, 516089143783372909, 516089144475948845, 516089144475949102, 516089144475949359, 516089144475884595, 516089144475884852, 516089143800281453, 516089143800347502, 516089143800399673, 516089140198286645, 516089140198286902, 516089140198287159, 516089140198232418, 516089140198232675, 516089140184680294, 516089140184746343, 516089140184746600, 516089143644129281, 516089143644129538, 516089143644129795, 516089143644075054, 516089143644075311, 516089140201655144, 516089140201721193, 516089140201721450, 516088245080454554, 516088245080454811, 516088245080455068, 516088245080442218, 516088245080442475, 516088245077614190, 516088245080256150, 516088245080256407, 516088249442991004, 516088249442991261, 516088249442991518, 516088249442978668, 516088249442978925, 516088249442726551, 516088249442792600, 516088249442792857, 516088249459965854, 516088249459966111, 516088249460018282, 516088249459953518, 516088249459953775, 516088249459701401, 516088249459767450, 516088249459767707, 516090265630789731, 516090265630841902, 516090265630842159, 516090265630777395, 516090265630777652, 516090264955174253, 516090264955240302, 516090264955240559, 516090265647816495, 516090265647816752, 516090265647817009, 516090265647752245, 516090265647752502, 516090265634158230, 516090265634224279, 516090265634276450, 516090265664791345, 516090265664791602, 516090265664791859, 516090265664727095, 516090265664727352, 516090265651184994, 516090265651251043, 516090265651251300, 516090264815996931, 516090264815997188, 516090264815997445, 516090264815942704, 516090264815942961, 516090264802390580, 516090264802456629, 516090264802456886, 516090264832971781, 516090264832972038, 516090264832972295, 516090264832917554, 516090264832917811, 516090264819365430, 516090264819431479, 516090264819431736, 516089366269297054, 516089366269297311, 516089366269349482, 516089366269284718, 516089366269284975, 516089366266456690, 516089366269098650, 516089366269098907, 516089370631833504, 516089370631833761, 516089370631885932, 516089370631821168, 516089370631821425, 516089370631569051, 516089370631635100, 516089370631635357, 516089370648808354, 516089370648860525, 516089370648860782, 516089370648796018, 516089370648796275, 516089370648543901, 516089370648609950, 516089370648610207, 515171127307551545, 515171127307551802, 515171127307552059, 515171127307497318, 515171127307497575, 515171127307287092, 515171127307353141, 515171127307353398, 515171127324526395, 515171127324526652, 515171127324526909, 515171127324472168, 515171127324472425, 515171127324261942, 515171127324327991, 515171127324328248, 515171127341501245, 515171127341501502, 515171127341511782, 515171127341447018, 515171127341499189, 515171127341236792, 515171127341302841, 515171127341303098, 515170953589512556, 515170953589512813, 515170953589513070, 515170953589500220, 515170953589500477, 515170953586672192, 515170953589314152, 515170953589314409, 515170953606487406, 515170953606487663, 515170953606539834, 515170953606475070, 515170953606475327, 515170953603647042, 515170953606289002, 515170953606289259, 515170939704085256, 515170939704085513, 515170939704085770, 515170939701455118, 515170939701455375, 515170939701244892, 515170939701310941, 515170939701311198, 515170944066621706, 515170944066621963, 515170944066622220, 515170944066567479, 515170944066567736, 515170944063781342, 515170944063847391, 515170944063847648, 515170944083596556, 515170944083596813, 515170944083597070, 515170944083542329, 515170944083542586, 515170944080756192, 515170944080822241, 515170944080822498, 515459272840074045, 515459272840074302, 515459272840074559, 515459272840019818, 515459272840020075, 515459272839809592, 515459272839875641, 515459272839875898, 515459272857048895, 515459272857049152, 515459272857049409, 515459272856994668, 515459272856994925, 515459272856784442, 515459272856850491, 515459272856850748, 515459272874023745, 515459272874024002, 515459272874034282, 515459272873969518, 515459272874021689, 515459272873759292, 515459272873825341, 515459272873825598, 515459269258380695, 515459269258380952, 515459269258381209, 515459269258368359, 515459269258368616, 515459269258116242, 515459269258182291, 515459269258182548, 515459269275355545, 515459269275355802, 515459269275407973, 515459269275343209, 515459269275343466, 515459269275091092, 515459269275157141, 515459269275157398, 515459085236607756, 515459085236608013, 515459085236608270, 515459085236553529, 515459085236553786, 515459085233767392, 515459085233833441, 515459085233833698, 515459089599144206, 515459089599144463, 515459089599144720, 515459089599089979, 515459089599090236, 515459089596303842, 515459089596369891, 515459089596370148, 515459089616119056, 515459089616119313, 515459089616119570, 515459089616064829, 515459089616065086, 515459089613278692, 515459089613344741, 515459089613344998, 515460394028916545, 515460394028916802, 515460394028917059, 515460394028862318, 515460394028862575, 515460394028652092, 515460394028718141, 515460394028718398, 515460394707900522, 515460394707900779, 515460394707911059, 515460394707846295, 515460394707898466, 515460394707636069, 515460394707702118, 515460394707702375, 515460394724875372, 515460394724885652, 515460394724885909, 515460394724873059, 515460394724873316, 515460394724610919, 515460394724676968, 515460394724677225, 515460393876090981, 515460393876091238, 515460393876143409, 515460393876078645, 515460393876078902, 515460393875826528, 515460393875892577, 515460393875892834, 515460393893065831, 515460393893118002, 515460393893118259, 515460393893053495, 515460393893053752, 515460393892801378, 515460393892867427, 515460393892867684, 515460206425450256, 515460206425450513, 515460206425450770, 515460206425396029, 515460206425396286, 515460206422609892, 515460206422675941, 515460206422676198, 515460210787986706, 515460210787986963, 515460210787987220, 515460210787932479, 515460210787932736, 515460210785146342, 515460210785212391, 515460210785212648, 515460210804961556, 515460210804961813, 515460210804962070, 515460210804907329, 515460210804907586, 515460210802121192, 515460210802187241, 515460210802187498]
@[irreducible] def s2 : List Nat := [406276947268347470, 1293189944595590858, 812303136969237295, 331416329342883732, 1303213948353658807, 822327140727305244, 369468011169207720, 1297080948735815383, 816194141109461820, 1238430752805138744, 757543945178785181, 276657137552431618, 1248454756563206693, 767567948936853130, 1031292401700159965, 1958905339266767628, 1478018531640414065, 1652238950786477619, 1171352143160124056, 690465335533770493, 1662262954544545568, 1181376146918192005, 1445100599681498840, 66870528034412552, 1891826729621752940, 2066047148767816494, 1585160341141462931, 1104273533515109368, 2076071152525884443, 1595184344899530880, 1858908797662837715, 480678726015751427, 2305634927603091815, 1546935328863006257, 1066048521236652694, 585161713610299131, 1571072002791037771, 1090185195164684208, 1339796977758027478, 2267409915324635141, 1786523107698281578, 1960743526844345132, 1479856719217991569, 998969911591638006, 1984880200772376646, 1503993393146023083, 1753605175739366353, 375375104092280065, 2200331305679620453, 421492307648527712, 2246448509235868100, 1765561701609514537, 431516311406595661, 2256472512993936049, 1803613383435838525, 425383311788752237, 2250339513376092625, 701420765022696841, 220533957396343278, 2045490158983683666, 711444768780764790, 230557961154411227, 2083541840810007654, 705311769162921366, 224424961536567803, 1115228963004035716, 634342155377682153, 153455347751328590, 1125252966762103665, 644366159135750102, 191507029577652578, 1119119967144260241, 638233159517906678, 2183011271784633622, 1702124464158280059, 1221237656531926496, 2193035275542701571, 1712148467916348008, 349299615718116772, 1276912553284724435, 796025745658370872, 290976460552278546, 2115932662139618934, 1327204430795028022, 301000464310346495, 1832227912349413099, 1068567894194051464, 1996180831760659127, 1515294024134305564, 704784658533617421, 2221899436402720460, 1741012628776366897, 421079908743411586, 2246036110330751974, 1482376092175390339, 104146020528304051, 1929102222115644439, 752849172219955665, 271962364593602102, 1803189812632668706, 776985846147987179, 296099038521633616, 1530440605861728583, 152210534214642295, 1977166735801982683, 1166657370201294540, 392041809026667193, 2216998010614007581, 1190794044129326054, 709907236502972491, 1944248803843067458, 566018732195981170, 85131924569627607, 1444556004572207131, 963669196945853568, 482782389319500005, 1454580008330275080, 973693200703921517, 520834071145823993, 1448447008712431656, 967560201086078093, 1724484461946376260, 1243597654320022697, 762710846693669134, 1734508465704444209, 1253621658078090646, 800762528519993122, 1728375466086600785, 1247488658460247222, 2138292659927715135, 1657405852301361572, 1176519044675008009, 2148316663685783084, 1667429856059429521, 1214570726501331997, 2142183664067939660, 1661296856441586097, 751456720089232218, 270569912462878655, 1787684690331981694, 761480723847300167, 2292708171886366771, 1529048153731005136, 150818082083918848, 1975774283671259236, 1165264918070571093, 376536686725980181, 2201492888313320569, 881560168280365258, 400673360654011695, 1942856351712344011, 564626280065257723, 83739472438904160, 1271231692333672619, 790344884707319056, 309458077080965493, 1295368366261704133, 814481558635350570, 50821540479988935, 978434478046596598, 189706246702005686, 1627137629738248212, 852522068563620865, 371635260937267302, 1651274303666279726, 1170387496039926163, 98886054166327179, 1026498991732934842, 545612184106581279, 1747217074171313303, 1266330266544959740, 785443458918606177, 2065082501647618601, 1584195694021265038, 512694252147666054, 1440307189714273717, 665691628539646370, 318461533371401544, 2143417734958741932, 1662530927332388369, 328485537129469493, 2153441738716809881, 1700582609158712357, 322352537511626069, 2147308739098966457, 598389990745570673, 117503183119217110, 1942459384706557498, 608413994503638622, 127527186877285059, 1980511066532881486, 602280994885795198, 121394187259441635, 1012198188726909548, 531311381100555985, 2048426158969659024, 1022222192484977497, 247606631310350150, 88476255300526410, 1016089192867134073, 535202385240780510, 1625745177607524765, 837016946262933853, 356130138636580290, 1342040427817318930, 861153620190965367, 97493602035603732, 1025106539602211395, 544219731975857832, 1731711951870626291, 1250825144244272728, 769938336617919165, 1755848625798657805, 1274961818172304242, 511301800016942607, 1438914737583550270, 650186506238959358, 712313554724015513, 231426747097661950, 2056382948685002338, 736450228652047027, 255563421025693464, 617268574280044133, 1544881511846651796, 1063994704220298233, 2207697333708266975, 1726810526081913412, 1245923718455559849, 219719751970878322, 2044675953558218710, 973174511684619726, 1900787449251227389, 1126171888076600042, 315662522475911899, 2140618724063252287, 1659731916436898724, 633527949952217197, 152641142325863634, 1093253956117684817, 2020866893684292480, 1539980086057938917, 1192749990889694091, 711863183263340528, 2228977961132443567, 1202773994647762040, 428158433473134693, 269028057463310953, 1196640995029918616, 715754187403565053, 1472678448263863220, 991791640637509657, 203063409292918745, 1482702452021931169, 708086890847303822, 548956514837480082, 1476569452404087745, 995682644777734182, 1886486646245202095, 1097758414900611183, 616871607274257620, 1602781896454996260, 1121895088828642697, 962764712818818957, 1890377650385426620, 1409490842759073057, 131460716403280998, 1956416917990621386, 1181801356815994039, 155597390331312512, 1980553591918652900, 909052150045053916, 1836665087611661579, 1355778279985308016, 545268914384619873, 2076496362423686477, 1595609554797332914, 569405588312651387, 88518780686297824, 1322860348026392791, 2250473285593000454, 1769586477966646891, 970808439312280781, 489921631685927218, 9034824059573655, 1288673866788586079, 807787059162232516, 1736668546007731666, 358438474360645378, 1889665922399711982, 454077962631112076, 2279034164218452464, 1798147356592098901, 464101966389180025, 2289058167976520413, 1231669396272884994, 2159282333839492657, 1678395526213139094, 1740522574698195249, 1259635767071841686, 778748959445488123, 1750546578456263198, 1269659770829909635, 1645477594254223869, 267247522607137581, 2092203724194477969, 2004308538899144275, 1523421731272790712, 1042534923646437149, 2028445212827175789, 1547558405200822226, 1797170187794165496, 2008199543039368800, 1527312735413015237, 2284236996273313404, 1803350188646959841, 1322463381020606278, 2530660987650967, 1827486862574991355, 1360515062846930266, 2288128000413537929, 1807241192787184366, 392202185040958328, 2217158386628298716, 1442542825453671369, 416338858968989842, 2241295060556330230, 1774323260828269141, 396093189181182853, 2221049390768523241, 1311209254416169362, 536593693241542015, 55706885615188452, 1335345928344200876, 854459120717847313, 1783340607563346463, 405110535916260175, 2230066737503600563, 1431288698849234453, 950401891222880890, 469515083596527327, 1749154126325539751, 1268267318699186188, 196765876825587204, 1124378814392194867, 349763253217567520, 1845096896830573328, 1364210089204219765, 883323281577866202, 2162962324306878626, 1682075516680525063, 316845321258652295, 1244458258825259958, 763571451198906395, 2201002834235148921, 1720116026608795358, 1239229218982441795, 2211026837993216870, 1730140030366863307, 672751258663227888, 1600364196229835551, 1119477388603481988, 308968023002793845, 2133924224590134233, 1653037416963780670, 318992026760861794, 2143948228348202182, 1086559456644566763, 2014172394211174426, 1533285586584820863, 572753987203742871, 91867179577389308, 1623094627616455912, 596890661131774385, 116003853505420822, 365615636098764092, 576644991343967396, 95758183717613833, 852682444577912000, 371795636951558437, 1903023084990625041, 876819118505943514, 395932310879589951, 2234803520365222813, 856573448718136525, 375686641091782962, 1266490642559250875, 491875081384623528, 10988273758269965, 1290627316487282389, 809740508860928826, 342768709132867737, 1270381646699475400, 789494839073121837, 308185829854138598, 2133142031441478986, 1652255223815125423, 318209833612206547, 2143166035199546935, 1690306905641449411, 312076833994363123, 2137033035581703511, 721994027835477473, 241107220209123910, 2066063421796464298, 732018031593545422, 251131223967191859, 2104115103622788286, 725885031975701998, 244998224349348435, 1135802225816816348, 654915418190462785, 2172030196059565824, 1145826229574884297, 371210668400256950, 212080292390433210, 1139693229957040873, 658806422330687310, 512112032066475476, 31225224440121913, 1856181426027462301, 536248705994506990, 55361898368153427, 304973680961496697, 516003036206700001, 35116228580346438, 925920230047814351, 445033422421460788, 1976260870460527392, 950056903975845865, 469170096349492302, 718781878942835572, 929811234188038876, 448924426561685313, 975928437744286523, 495041630117932960, 14154822491579397, 1702536023823758831, 1221649216197405268, 768790086639307744, 1696403024205915407, 1215516216579561844, 1255856895118455652, 774970087492102089, 294083279865748526, 1265880898876523601, 784994091250170038, 1048718544013476873, 1976331481580084536, 1495444673953730973, 1669665093099794527, 1188778285473440964, 707891477847087401, 1679689096857862476, 1198802289231508913, 1462526741994815748, 84296670347729460, 1909252871935069848, 1333547518327009930, 852660710700656367, 371773903074302804, 1343571522085077879, 862684714458724316, 409825584900626792, 1337438522467234455, 856551714840880892, 1747355716308348805, 1266468908681995242, 785582101055641679, 1757379720066416754, 1276492912440063191, 823633782881965667, 1751246720448573330, 1270359912822219767, 2161163914289687680, 1680277106663334117, 891548875318743205, 2171187918047755629, 1396572356873128282, 1237441980863304542, 2165054918429912205, 1684168110803558642, 1642052094384877443, 1161165286758523880, 680278479132170317, 1666188768312908957, 1185301960686555394, 718330160958494305, 1645943098525101968, 1165056290898748405, 2055860292366216318, 1574973484739862755, 800357923565235408, 2079996966294247832, 1599110158667894269, 1132138358939833180, 2059751296506440843, 1578864488880087280, 2001290126217157855, 1520403318590804292, 1039516510964450729, 2011314129975225804, 1530427322348872241, 1794151775112179076, 415921703465092788, 2240877905052433176, 2281218583591326984, 1800331775964973421, 1319444968338619858, 2291242587349394933, 1810355779723041370, 2074080232486348205, 695850160839261917, 214963353212908354, 389183772358971908, 2214139973946312296, 1733253166319958733, 399207776117039857, 2224163977704380245, 182045421253993129, 1109658358820600792, 628771551194247229, 2207835975845302477, 1726949168218948914, 1246062360592595351, 2217859979603370426, 1736973171977016863, 1284114042418919339, 2211726979985527002, 1730840172359173439, 621261245107543218, 140374437481189655, 1657489215350292694, 631285248865611167, 2162512696904677771, 2003382320894854031, 625152249247767743, 144265441621414180, 1035069443088882093, 246341211744291181, 2071297413331631569, 751364693298676258, 270477885672322695, 111347509662498955, 1038960447229106618, 558073639602753055, 1083133956775220337, 602247149148866774, 2133474597187933378, 1107270630703251851, 626383823076898288, 159412023348837199, 1087024960915444862, 606138153289091299, 1496942154756559212, 722326593581931865, 241439785955578302, 1521078828684590726, 1040192021058237163, 573220221330176074, 1500833158896783737, 1019946351270430174, 569735574521756451, 88848766895402888, 1913804968482743276, 579759578279824400, 98872770653470837, 362597223416777672, 1290210160983385335, 809323353357031772, 849664031895925580, 368777224269572017, 2193733425856912405, 859688035653993529, 378801228027639966, 642525680790946801, 1570138618357554464, 1089251810731200901, 1263472229877264455, 782585422250910892, 301698614624557329, 1273496233635332404, 792609426008978841, 1056333878772285676, 1983946816338893339, 1503060008712539776]
@[irreducible] def s1 : List Nat := [1894781342111369851, 1407993521330106792, 1652615204511066626, 1897236887692026460, 521364572848848740, 765986256029808574, 1029169532415078265, 1639180861152018926, 1883802544332978760, 173520114043564904, 418141797224524738, 662763480405484572, 1592734174776000803, 1837355857956960637, 1368527405738484059, 1978538734475424720, 2223160417656384554, 393728656087085947, 638350339268045781, 882972022449005615, 1812942716819521846, 2057564400000481680, 1588735947782005102, 2198747276518945763, 137525950486211646, 613937198130606990, 858558881311566824, 1103180564492526658, 2033151258863042889, 2277772942044002723, 1808944489825526145, 113112809348772855, 357734492529732689, 2132220936348197802, 70999610315463685, 315621293496423519, 1919595189730595525, 2164216872911555359, 1021385218829423006, 1631396547566363667, 1876018230747323501, 46586469178024894, 291208152358984728, 535829835539944562, 2139803731774116568, 78582405741382451, 1241593760872944049, 1851605089609884710, 2096226772790844544, 1125376534812366537, 1369998217993326371, 1614619901174286205, 238747586331108485, 483369269512068319, 746552545897338010, 1356563874634278671, 1601185557815238505, 72896609654925813, 317518292835885647, 562139976016845481, 1492110670387361712, 1736732353568321546, 1999915629953591237, 304083949476837947, 548705632657797781, 293105151698446856, 537726834879406690, 782348518060366524, 1712319212430882755, 1956940895611842589, 2220124171997112280, 524292491520358990, 768914174701318824, 277948385490315892, 522570068671275726, 767191751852235560, 1697162446222751791, 1941784129403711625, 2144470993612860046, 448639313136106756, 693260996317066590, 498156927533836935, 742778610714796769, 1304273901098414325, 1917370988266272834, 847026471299852214, 1412567031296268240, 2022578360033208901, 2267200043214168735, 718365469577357978, 1279860759960975534, 1524482443141935368, 822613330162413423, 1067235013343373257, 1632775573339789283, 2242786902076729944, 181565576043995827, 563150211606119808, 807771894787079642, 2043270387034352973, 350524464988517531, 595146148169477365, 1477560315368551113, 2087571644105491774, 26350318072757657, 783358753649640851, 2018857245896914182, 2263478929077874016, 570733007032038574, 815354690212998408, 1697768857412072156, 1937176935318866, 246558860116278700, 1071474064152465448, 1316095747333425282, 1560717430514385116, 184845115671207396, 429466798852167230, 692650075237436921, 1302661403974377582, 1547283087155337416, 18994138995024724, 263615822175984558, 508237505356944392, 1438208199727460623, 1682829882908420457, 1946013159293690148, 250181478816936858, 494803161997896692, 239202681038545767, 483824364219505601, 728446047400465435, 1658416741770981666, 1903038424951941500, 2166221701337211191, 470390020860457901, 715011704041417735, 2100291249287457085, 39069923254722968, 600565213638340524, 1213662300806199033, 143317783839778413, 708858343836194439, 1318869672573135100, 1563491355754094934, 14656782117284177, 576152072500901733, 820773755681861567, 118904642702339622, 363526325883299456, 929066885879715482, 1539078214616656143, 1783699897797615977, 551738931363462942, 796360614544422776, 1040982297725382610, 339113184745860665, 583734867926820499, 1149275427923236525, 1759286756660177186, 14939037830100791, 79650066189567050, 1315148558436840381, 1559770241617800215, 2172867328785658724, 111646002752924607, 994060169951998355, 1604071498688939016, 1848693181869898850, 1290735417299401590, 1535357100480361424, 1779978783661321258, 87232861615485816, 331854544796445650, 1214268711995519398, 1824280040732460059, 753935523766039439, 1941704423589493792, 2186326106770453626, 125104780737719509, 1055075475108235740, 1299697158289195574, 1562880434674465265, 2172891763411405926, 111670437378671809, 889224498432053068, 1133846181613012902, 1378467864793972736, 2595549950795016, 247217233131754850, 510400509517024541, 1120411838253965202, 1365033521434925036, 1109433040475574111, 1354054723656533945, 1915550014040151501, 222804091994316059, 1458302584241589390, 730609051560545584, 1340620380297486245, 1585242063478446079, 1616791103870904327, 2178286394254521883, 117065068221787766, 1721038964455959772, 1965660647636919606, 225358198419641681, 835369527156582342, 1079991210337542176, 2153873253117083092, 92651927084348975, 337273610265308809, 1941247506499480815, 2185869189680440649, 445566740463162724, 1055578069200103385, 1617073359583720941, 2054313303825356255, 2298934987006316089, 237713660973581972, 1841687557207753978, 2086309240388713812, 982648889709341489, 1592660218446282150, 1837281901627241984, 587026729839327789, 831648413020287623, 1076270096201247457, 1689367183369105966, 1933988866550065800, 510560024535445597, 1120571353272386258, 50226836305965638, 807235271882848832, 1051856955063808666, 1296478638244768500, 1909575725412627009, 2154197408593586843, 1721645375645280137, 25813695168526847, 270435378349486681, 1458204278172941034, 1702825961353900868, 2264321251737518424, 571575329691682982, 1807073821938956313, 1079380289257912507, 1689391617994853168, 1934013301175813002, 405724353015500310, 650346036196460144, 1211841326580077700, 1824938413747936209, 754593896781515589, 26900364100471783, 636911692837412444, 881533376018372278, 625932895059021353, 1187428185442638909, 1432049868623598743, 730180755644076798, 974802438825036632, 247108906143992826, 857120234880933487, 1101741918061893321, 118000171151697853, 362621854332657687, 1598120346579931018, 2211217433747789527, 149996107715055410, 1032410274914129158, 1642421603651069819, 1887043286832029653, 338208713195218896, 1573707205442492227, 1818328888623452061, 125582966577616619, 370204649758576453, 1252618816957650201, 1862630145694590862, 2107251828875550696, 597181559944940587, 841803243125900421, 1086424926306860255, 1699522013474718764, 1944143696655678598, 1472827359001171244, 2082838687738111905, 1012494170771691285, 444861186106292575, 689482869287252409, 934104552468212243, 1864075246838728474, 2108696930019688308, 1359271289868723880, 1969282618605664541, 2213904301786624375, 345301236814565738, 589922919995525572, 834544603176485406, 1764515297547001637, 2009136980727961471, 1579479831912244923, 2189491160649185584, 128269834616451467, 2265256354667428511, 204035028634694394, 448656711815654228, 2052630608049826234, 2297252291230786068, 1154420637148653715, 190600685275646694, 435222368456606528, 1212776429509987787, 1457398112690947621, 1702019795871907455, 1000150682892385510, 1244772366073345344, 833952440594959260, 1443963769331899921, 1688585452512859755, 1432984971553508830, 1677606654734468664, 607262137768048044, 1220359224935906553, 1464980908116866387, 1054160982638480303, 1664172311375420964, 1908793994556380798, 988230530588726197, 2223729022835999528, 162507696803265411, 775604783971123920, 1020226467152083754, 548910129497576400, 1158921458234517061, 1403543141415476895, 2199315881698560737, 138094555665826620, 382716238846786454, 995813326014644963, 1240435009195604797, 2122849176394678545, 427017495917925255, 1662515988165198586, 113681414528387829, 358303097709347663, 602924780890307497, 1216021868058166006, 1460643551239125840, 1028091518290819134, 1638102847027759795, 1882724530208719629, 1947435558568185888, 2192057241749145722, 130835915716411605, 1060806610086927836, 1305428293267887670, 556002653116923242, 1166013981853863903, 1410635665034823737, 2167644100611706931, 106422774578972814, 351044457759932648, 1281015152130448879, 1525636835311408713, 776211195160444285, 1386222523897384946, 1630844207078344780, 1781756209250875753, 2026377892431835587, 956033375465414967, 1569130462633273476, 1813752145814233310, 670920491732100957, 2012943549072787887, 2257565232253747721, 729276284093435029, 973897967274394863, 2209396459521668194, 516650537475832752, 761272220656792586, 350452295178406502, 960463623915347163, 1205085307096306997, 949484826136956072, 2184983318384229403, 123761992351495286, 736859079519353795, 981480762700313629, 570660837221927545, 1180672165958868206, 1425293849139828040, 1153008567468506063, 1397630250649465897, 1642251933830425731, 266379618987248011, 511001302168207845, 774184578553477536, 1384195907290418197, 1628817590471378031, 1373217109512027106, 1617838792692986940, 1862460475873946774, 486588161030769054, 731209844211728888, 994393120596998579, 1604404449333939240, 1849026132514899074, 1593425651555548149, 1838047334736507983, 93699615906431588, 706796703074290097, 1942295195321563428, 1214601662640519622, 1824612991377460283, 2069234674558420117, 1079421024456888397, 1324042707637848231, 1568664390818808065, 866795277839286120, 1111416961020245954, 2274428316151807552, 1310608364278800531, 1555230047459760365, 1299629566500409440, 1544251249681369274, 473906732714948654, 1087003819882807163, 1331625503063766997, 188793848981634644, 1530816906322321574, 1775438589503281408, 804588351524803401, 1049210034705763235, 1293831717886723069, 1491790683653493031, 1736412366834452865, 1999595643219722556, 303763962742969266, 548385645923929100, 2057951435581056628, 2302573118762016462, 241351792729282345, 1171322487099798576, 1415944170280758410, 947115718062281832, 1557127046799222493, 1801748729980182327, 2278159977624577671, 216938651591843554, 461560334772803388, 1391531029143319619, 1636152712324279453, 1167324260105802875, 1777335588842743536, 2021957272023703370, 1408993692953920611, 1653615376134880445, 1898237059315840279, 522364744472662559, 766986427653622393, 1030169704038892084, 1640181032775832745, 1884802715956792579, 1629202234997441654, 1873823918178401488, 2118445601359361322, 742573286516183602, 987194969697143436, 1250378246082413127, 1860389574819353788, 2105011258000313622, 1849410777040962697, 2094032460221922531, 349684741391846136, 962781828559704645, 2198280320806977976, 1470586788125934170, 2080598116862874831, 19376790830140714, 1061851506044859558, 1306473189225819392, 1551094872406779226, 849225759427257281, 1093847442608217115, 683027517129831031, 1293038845866771692, 1537660529047731526, 1282060048088380601, 1526681731269340435, 456337214302919815, 1069434301470778324, 1314055984651738158, 903236059173352074, 1513247387910292735, 1757869071091252569, 1060573477010217949, 1305195160191177783, 1549816843372137617, 173944528528959897, 418566211709919731, 2255580768705137104, 559749088228383814, 804370771409343648, 8093551852777225, 252715235033737059, 497336918214696893, 1427307612585213124, 1671929295766172958, 1203100843547696380, 1813112172284637041, 2057733855465596875, 228302093896298268, 472923777077258102, 717545460258217936, 1647516154628734167, 1892137837809694001, 1423309385591217423, 2033320714328158084, 2277942397509117918, 925493547537367853, 1170115230718327687, 1414736913899287521, 38864599056109801, 283486282237069635, 546669558622339326, 1156680887359279987, 1401302570540239821, 193589585220776047, 438211268401735881, 999706558785353437, 1612803645953211946, 542459128986791326, 2120608605519441471, 424776925042688181, 669398608223648015, 413798127264297090, 975293417647914646, 1219915100828874480, 518045987849352535, 762667671030312369, 34974138349268563, 644985467086209224, 889607150267169058, 258582869293058920, 503204552474018754, 1738703044721292085, 45957122675456643, 290578805856416477, 2185601889591724344, 489770209114971054, 734391892295930888, 478791411336579963, 1714289903583853294, 1958911586764813128, 266165664718977686, 510787347899937520, 99967422421551436, 709978751158492097, 954600434339451931, 577073331593665191, 821695014774625025, 1066316697955584859, 1996287392326101090, 2240909075507060924, 1772080623288584346, 76248942811831056, 320870625992790890, 1830436415649918418, 2075058098830878252, 13836772798144135, 943807467168660366, 1188429150349620200, 719600698131143622, 1329612026868084283, 1574233710049044117, 2050644957693439461, 2295266640874399295, 234045314841665178, 1164016009212181409, 1408637692393141243, 939809240174664665, 1549820568911605326, 1794442252092565160]
@[irreducible] def R5 : Nat := 392858246550990724359939977843207706283488140616251290185715606317239018315179755942677196307058276835240022600730849476034978947847914812470517473373166342334411210890675247649698765394319993397261184696957048162681678261170996896265184478735278051241955825020566914880186535217823292090763098208511361191637057210392093253546995179467950059311693789841673840437610299254887634185358756742550742392287074810268460700397740824862280716595859685836430448424131096034061546120316126558735351371677017523915600370353681648393365375392304021411830198278966192696076891461260188632709826865440789792493062839016152179189528666203181643173303499896431235140718280225677256923385223738788512233905069620121252870229605362752863279602862212738414905795013607381800223447712292283062030541132090245204926221248752603369381267293652520488902025051713926064532597070652939683042813318422182944391415360031352549378791471490712613328970419933444409919402434296153168665718824409805049643530965842685664284923363380363331524403987233485247489430646307149652895752640433230602827171907708948270638897525147546064513784684763905037699889612364557285213213523222681590797338076188729562243714821214627167573494545040545470347422568417008199188562323724788019208051391664255305808148300185430985284276341132757277869949907572520686882407069876104425643662458668942264890370052772516446626087368224993255918133807779558130097538112172556404198479471417851260171621922482471909399861481488521289087034219601361396602198494608046897023175509716749256805600743762232716240131732229852077886400227894706464206957159208114729276291989282877939821529286319937024029437114059488451194821857123716964380818001188093612916870760299580102729741278188285547345913419024172317736206884960214994022517424102037633409976482670247012862184672447432345215266826127441410224499644236890624310412690546862806443684442669550247566743486792761082463262674978807597846941883674306288479220649804098755951269942620566644238136111568302780948008183035888654094729428275573262789458544457166235253610721281280253940459995098641713204567852669489898889391997054547091490624731120889880423812839007842489317168548699643430136069813930357174023777007223353612325464744323381082698254448077731250780063765494954004769885202604080856557634593942945480877764489847353744673525198076729044915760364421680479598195142814515022627622759668200901594604008315042511638198068424381900545536658199351298498970650001713222694298462204224403311244641289541436810437164617257163368575333215043353025368279678291838395889045393071620917313359968022308362066134001788523855847703954461174961625654798851071307983432607149341040022512375552178286719743791995131454976061008575974523625699536495492388160242416346165436696234085494851379604706190436410183345773038478952062114756812710284095887552163777008516742947942416860442264694835868021161203211642060483237727485651047341785218413606495846142090648803205869348553370839877654026068731533532546709969838025420246169997317771717485846047302790218411020039703392933137409376631753496400455251518037718170380739475881432314037426472037747067467960723304883337907023987227602162144998184250300100955717901066095661610459588511510017292953014638473118230667785247075072151220784146885889087850969166790941801310251569713926994431943011431104339580025099738048154912010346302281187970867266813490026047870573630445566478794174286014000828452817610708457331562590999968393263996981492658691882729631467008190751764755262697392850456610970338989615382737521416223293783114251657561945636444319164177159117993265623325466857883743169616077070547071530857037307227287778482877403794552390558289832513176284881743519082914875395483922530940970550762396377816116765092830002731375908124698976064638225076894094169852066479853098420194601239143649144078450816028980382857013663095570945708393268173573332916466195306121382730746215821596689352508665848085144484598945105196159578496812838526212413377588830166755382394391349850228641356921518348405229063831532136000118504786622814137575093243458575301289909786409080276461404811978063079310249968051003537943205236424581668830419495566694023980303119756597139153442266035033595119753303013189099365373546357861543023441490894436389131307192540182905274904546236600672622746489411749642419402332393960913565139679765715678157717006057804370874935261914411868563205265719064885787458170435897773916606209273014360115606383502034859214368267093550802163366294812963357147705393077671780915867557251533729429282711052966462330466413812245292298011790404910970401981643763930270540176397815446594884286427817526386109913775292786539553588258364960577196569238643508319479465415909568542279853526008823038871952291668909405644555456056979512692661462656061237882565497097875529852618365685507962275287800972475831457081012627126881846989792637473907889740166982607598916143048533727129738738800875074652779478134790141696418383028565445907827179879844292936181322309013781516999791702717733553473746627240665820303824896652860233447715098176588200906886409713509558640131788152011449866738442425325606264400031276164474456232360403487750367325903613263600549037933007470844819985609612021675721104590777098219065279221960044260006744506049090763092386370448808512009643592409249402352817717303046034526113494859590145223905173499549788923470773156780821907608438208345732844920726758064482773897182967469783584487298447497530599149230484519677337247396837775412246506905922472299394957903619131603603415873887025490705461290205930906902650888454473914250725470035739559920386944550171958379921747349080103300522127093650494609848299830990439893617228742147295646591432832115865510958853030187075018708071295996149729054900859851790730321504316174518384889101487374803206168669007514482222124693502293412642164385625750916645704826005436520912778350426432638792539627550819576074571483702766818219473130687734227177885474620035468968921212246398627026184461560691148425920795533358770816892052894137736732931022211892135430650921749410122160709409445404384375696704334991357207601568422740576361688768093896024457451007500082634479481627566018140594381376346136391918389644091363224896244734426028346999875542828013141156846625494522120476921524239148016249409304311638547798858402654246162960145768382573468488439901231392611285392921774999264333382559176690661818338269924581297500355442611894404605513085506658163606579306031147780221765669877110178912584836235019171959753017142469432601597026601144847966315040394994853510872713077167833829204142843090499276039298811980473400825365387965018004508882982422677761362913845957213356445928725705222342534215345985583150342132440714638481848804091294098595490319618695700891011870779969868717997834898567550911571781176556929528126406862849712229417224495201282881644698198151830143905213233066691264084456298063569332700539504473638787451706551165649265355547054396309418914542005556751052483853913199455503341616108875885729497560909883007171279391381521478323792409532137245633740454687668231931257782494827628230847545934771964134817720496092505708022447245244441430761877967396951558892748745258977989120402407164241761340195829550677883709828297879495634672710314122362918645517629073303817792602225956541458365719649711785131915418380617618265058617834409538574256845633020267903653041731520678439610797577493261586093557105683642222079090053478931631922396622212327191362934473632411695347063257587967747435543154534324919954272589950576964403456855798564081110538656426000415671362862059979649196216992963730677080664287559543416526657114634246796897492039264277876781818004287108877381182145088630741316561714382843662611848502155266479443895459839212782995408602087715509581683307533136316364273038152468797614554615191133764375713161448522768486234269759567326984791616448643115347810142733149643057493342054544960345850659754039083480168723335495907848743791563750112582995020610463560334665954989356556670147783281446617854665879883361106369881058842087079305618737654747242338974344477116078804065648226352306325257443598944291651437613536404277312326535972761898810627824509449864736022283049801375722556287963447751527002358183595990709262961031269407551745385420075890341631650274151001499811125170126405508409205554599310264455951177603136384252776545730931128117059729271298408908733948169521995047198950290960151862268243916632221560712008627111068870303189514165595891469175034239617926486301604612152181418328740682553222811971426069750003749216772887363214562194521371120881341498648912313113496741643268688319074064700473704674279779998083915139558427265483269043780698325720938235164160943176241257789783143139458889123756216568413813428193795789083677395370207198381456209232107032328502247840709885576032522632385335213907413549550829781006583971766675339552327188502506827722319012841402563496225633819075966306263508172464135351431258308610304235809062211741720860454008665893694769305188401660701938079004959349447264043134060896908565592916953520628100567544637061746450242008680795737372237263757468053298639503238387255974891869706791450727283836374472398211500914889775394628775338222869537295421580025120408184135608228790430881692792151375125389001820662563592469278170938655390479281556403109032519458544318846290204202900336783411094622503060997235198188755378937253172426474114331699881987199340177378535966769943075988413837894901232476344201821088066107098888415316081111836563620217685520558942416560258666149699134665266402814246193425105014481328965930217255248831002700762722300548751592175051148315279815456719397275100684168648972061340867336664236917559621474516239266077115039105132671899304822610439043768178268147300265090169018324814624371307490137056626303062656292353208996202398907487164592325851420583978477538623749423366179098724685268356974036508357042606957455716669268146983144338088625828005305327976482361401224577010548436196874437253696622753398570525995278268990756433390786952540148452835511116298518608827797188209208005271701825908686247257641593039844129619569688524068158236146202502889156844176621896596662117320745133705761676508192312967921666297667477141923148411098299099745007361693059589990969196118949502363059072248913241429756946192673336743000934929344494370297935947412069551808340619287845099153898504340505926235421922868708341514134136611649172795961531242448396248672907335213820276494806874328949611086095816043490784685369483250176685046743183737969651227246356216667304168097254636934084656528534305649850343597643616921866834747706008949546012120777522277587841324021626532914607129348848239844842595038922266337949084333968333690622451321124818064424313190182835554137929762823852219421762626582901720047510300308409423697026847023036944456638295397021436723689882670484868432196001446963754857982032437638044374005081333499433148430733655255636431780075729183467306986857786577734226039811093511295538515181334763460820867948791925236089603106907233754763338855867257167127532743226058583458959195220842142351509156878555161838758853896322555127662957690462333830803617674330586859131423482418385756830293086066257445788492748942696787305699833199955016246868342086578771474248005380821399230318612492070584512459079750155953582900243817180051559839357532037006829941086215825841652242660227089336176189150295590689672210165792184472194361157399163420465431757804935729819898046184435497510388383057706420862734744382064777589147336959942481521170554521152837087652252988061643178699737769362439522913822905116891372692940396660889650491482990054036791907489522175245257568785087321931770980256802953491481280536181924526123900897051770422250130640852314855653521047442798975109006770815740989720233385059702977673713362465348560179269241782966255201555349489367985210113996582297426640845991501914740837764731147660645357076662957426984290522148573044506971004160995994912224956628637385641305146110437176489011225962974191068722733430297443025390313881897230131073920156494630805762748917925835208444538364279371688113923035679536305885453312046198446633646708459542512653463666878864906120496956682209911806904690457228454602552330584775405561794164462989763860105255459914717488218133659606812557173741091147298660298553910520387230361368477035878421917631882124901700925373638122283470365170482318605381144393342142214292266759306335702300482596506671456680354851525279922540299995119333037673168926936075649246383753850328743190213268974409959739715842282223256683288268551571559806740271150839624720816492442350262352877291359057943470138913554209254068464936752014696840555092828617410309787462682817402154313163254475910223537659429003661396411895631287882486713609164685862449204157921593314467329655873974934988667384812962116508597299688477937359004181386365995931012343384626920939180964387044562880849923503501434019021844378489455021485056167799464187917141143352606502701104628460208409583317395701666474585794434804760040358960982138716636856875486257051043362121776455340986427388861958433065104281768144480449939028684043160927096711790384165186997298025230115503720733635008580940177696394862893635185562959658978260323203855663774289795909332548199111502250412069379368362269886626067438394831047041398789709763295000364138092390806119975324657692614558210083826185854732195393379079177603134016459004568007711468267870075270387246350434018800454521975654422840966068919212306282446977622495246749513023644649712863651888839804079479263656520479015335570693714794437642859515327553018312483697690823174875398310793103461197148196557782730141605355434788958600747343379573572471810181048024934849489256161357511114487123470109265730947765138312509500088744114671740784410714005678816385348338696028336106633641238314997677617062145392464032006885349333698427471849540334089898307219014624070647319994386959397953343555119680112200158328190242904749879116025923268553568502871519590243309857817080217174026948889402883851112900945468042797251174376227621327298015950552644879141113928317461299803039650339830028489638120454112184898002167628275398821280521061046948702614519372702389021135477767797308727796884025048912327135868678424109361654187414390259002900665635874600639897494063108356754708455135398603514580416849097539882007088402517203399404711244183506340939609740485328344679264956522140822280245429104995542084777159861432851634015375399792080722454180088571316758592613968936585747282846112439135635711436765648510146587195208194012762992175287831025710860651643105430021646712804969992725559906173489597610868475950545565199273205591635554665731853512414517679178899795006391476352690504671178947117402143982374393510343763152039679649438699687743046257955517218100808346893157250078683659722682961156004525243072934120868302944076760348608834297364226732413358955655900731426482202151645254663035187446584886726786039819079676540386837182454766277369165885616551473137609729837522225357480171847854892448152684231272461420195382376673297866082660053723188964807248543628166148282685680679555276272297931516750079138888074016508049125295049485678734053294283942768463263719854528450520328825377211429830732584724073359531881347623031577995273738487010052127537532729905249511838537596950465612365918125940820235508239123123847293523302144448723537781389306184185007263649925072334752426203128924051597376646576101444370620158504514814129019378424488225617914522331232596646532788296614668859789090860517152860551095805530957591369750772064606136788316785957566849783327009848354168608959767995021481564567198516412847265069068399475783466720829142785235289040753305702925363607837195917957896724149816682240451691499406934002752451701797150369581230947360477863772592921053334308631873690727491588359420231010279570617730995547184346221899666110266436870257837798801657237893451077908255376932649062553093302006028585392713336739482523346935249798525478664325309845845242484558132373523897934116943885588144196829493631731044873894225697051089666550463004246828705078509123654827305579564096518251235626231356380405112112397102361096438135460709011154307930079388685580791029216285931812636734122791776481544980043764055771203905786270189574369057795929336008326788821771951702615071445103281988850208558752895678858453321914577745191260622740191513893920056889709223218118361833214883513008354898979326271119921737867721836432995349248233314306434670858969234023903647875471100632767605817420963995659673381881176005640630520256156295339655794830725163454421098799674132729487690295837391349092286351994527859753758847755795085125023231036845716217417404147998914000388111324038274095558568885914294502827261312514356730847943419769222029008218624179990622881585756404881425981841697833405102343947696057943872651333645189158141118663512839665526831023148883764614382564944978110584008963645337753106086613918706963728486259737011857317952075493764466865398598887844812395533736861831912463444473981034692749949093862376599927100462960591550023224244126335466686411940049590486527867131019353880636748762269037836750712917305387429666284179157216772653843878512309201647088423714168356820018305066888721112603346529450182522506722355156275334515491600198554510262586947805707068018378817096603439502159574838541503628758092707766795542523516458608114170313710278238925836751407695198311056955076208084157265463233893727865513820696039483483517818063793994504868976198719030874929446891075491958637840845511161494814321820278671600085921524262771514315024477864645797644580218431758242324924939643445380784489053350357704308744901938894331525290638676314112486799473680905056600521329326331806333632832540200101654924405916105205132255295718924607764552327207740575452284905509322809409734171632698823562771688709227249242782113716916287858313709758192709851953061033403686091990942851469930218676333656638438794911281796211444145941001302044149958088725451046692535471927722348594877946640646622489782419073341210808915492722162785491100746724493361285206989557889189702283440494938189407248207772445054599618408818932209135885257523162746236064868780472337046430426451926627542639436942358978432109002693412927953012068130795349718477655324668685036311749991593489263219084102684008543808618934003685216149034214722975867341309138224835988760415913260414481895569650417274930537025004806204467202650432233337241537648697067091224649982014745106809546381936081565321866409465931789543788579977756209781135099241321190072043016953916610103394428417353669847796567952607058942262187367338919866999411536283231900426087522394040105948236862068017749344868734475057974584230110009670085215874325754698111967461470131693136808801698780802446742728224334323783503552169377815963025038833913432852780852967935713911475262467873397517140817664953951257970469232964823513957427182653950302185968149195850651811972569284632010565426390373099434349198928320147199141605714312558999802534025321915465077225689037551115031994780488022155391526651122878431438543734399819097870547053027001310743279181882391287818899098089380850180604351796276013267974447144246594834030942581424345877150792808172822584174239589751623668370970106185934711700790463928342878549533601550364595579582658398304904180332513422303078806723845715551389030701683711721900759784610754787263597563125831663704576791383036483979944927298117613075918993209181487697389716112996716341336223494387613694659818955634059716653147996018384412223042929170141228930055602213689541438240519520991994840771177396847040533936971387361211455283459555315612214856233594428817492671980333266136008685661007611975528196942263972320254519186731056817474265539136742713093248401934250020652778478086320577483951426649472924159341356304101258319437278421044657192299415757685514605707244025847307827083973384922995549052523535964009799507548402423982962136147773392417936036241489923020611920355037927113998013491291808929381321023874072559099225983657444359969255862233244990832063131440452574973119011697843387991905976298424606092894713536089158548965964665351245138900933019502603518222124469841554949559871815125827837431311308075959203633103967530332325371920973805928810202648932385471733941111235263046120212561103928728826213885853777680030270483246340930821053434667410972086234030924186892687795569923807937177749932911942283564102683783174258973518913861443539323378691740043302573864847147700700211873232691681672243674368188582811275649138358598291251658282583420904614083838636468222362262929401620492684212980028628983269004928056053032325719175399205819686334663064726708611993582591885437437210431737060523389592332069914582935463766592950196654130671544158526876894319313484891238296013118545204502306664822574586926149634074677291084863120054531345895006923835334692567503272573659404157256480347401529703807533410381673587574222416886773594197775772293334391602941885810022403879696876301812564349263990429901445387159115301853686030132394335955661138708976060521473147036253526196477639513522697666799047242704041738460901213034188683940315028884924418938180788850144662355902933088896212424903264797116820181523883900029989982301730838075165032867627038639305440949668387771310676653279968947824409003411823626074960014819883321325615888450501542373845974825110314874701960682113324332308915592334547314838258842249183784220510202940212204064217655106869444578570443124409914214041622527580730473870474363145506802899571532121492068244572134803753783473600550787912643155588165094924253360708785240802011326304091687943196514603331477595423168624084390512812631812609608956792141219933773394614109743054254879338289141859406111606254828748504480532675298996893866049934039039462631956250135376255209069991262530703653272854246468705834288050655379153247330430603137812819819657154121584484219156154958882360843318771161307035110620119468203957560407009162603124208346681612727860191705063969769462992767587664121024637712109253248442489629850625861931477754453430961283757946186597487510612209591150030446656999170732472638820438479003403271658369602518638626111098804905049646689336284290717067608186459716207017195311121696329350508298059530534698819755170303187642027492095184050160878327519658968923194647835249806822715692305049412812207227546223230435422819863423625199718680352692196592399083462696450752809877700375439159520063906832343478804404466443533602639312570564982212368636124260896823460235364412017513245176112349185
@[irreducible] def V3 : Nat := 202502794582551428356033155161963093610723342692432649388814503745606943407798105783047711226905992736372744443599913680125171972044557465330769221267540395976448764918365860818170769052763469336096510500354789890007934567939914116333088144835590674476472196969851203437424008160244802828748115095486862823664997770209436572189731425125574639195750401361105093279160388012677601467311451475115754518715202134660214676625999471341045377903603471547719002004120034405703364211006201431874161806403812082690208963365026243982712083915502141006176216109525969605518742367959253800518985126697760716803176976272389964519988574454105672193484886743211545418799495304575844280063975350628118146857681576391957303183653117704101484928645271710367835660592047019507576576778787042488157123008436408459949543742550297579373933333601559193557145170188515091642284995379636242546499078438671377379058656348873660530404880573632141370457984572251221990999542850583249557063059865383810246127996924989840629043353846583478370827765006837203846798397416610464203800613954425720818541340135768881030310166597834954074979300645565355076513921707136348121097576041549172047918173365647785945861857569854660337573758649937567139946883778187254532538311188810022244757444905126817852886900022400144609417830354095444411722485406867464969055782977963740433185529963389310186003170389874215972102851449499669430352939414176379626135321028091092251847418510813731836857892142219417783391188076343020885212274267288359068848089810314911540571346950093812302324824448248246874191330823231335839665964521707694513465738831218469639543057238573076905174026970202528831095557422913801509789177879796764445642503563373275301781598670548743527397298312258084296901830988349936838701135084556715194400719205596679475814140305735523520646395084946292247056628342148079630308836798249659922752544361261820510942391401750418302785856090680508375325684192281569932539290628278530680087756817122133596580490437785033303805661544067143868308902918225343583103952392829655163887548660648774687616152167896799409223703780267581695632210016304660654594230115539062410693802476506483217765298252478578661976404314771756065816862322781177139549219828382437061607221813082995346625643880753214962331931438693956887867843144951910461001808030803031873243982524128921774069555087638070587238769654497714622961403126406413904672550215687910733331394576694426595702994946869323323125081594092780136495666944240993411518148894010578566523801949969382628189917174800180042100334805516823550748076839068005923970992961349814630396851796547189586682443215145424803860415412172071580581564948302712181206720685627766626696897986000729893186547214428455718831821870749720886960657827401676401130689656887982039187851639804682556919717904391102320448929091448607282826365277770744629493465841245148234646756182125931877098657251881837680811881564948516676484280581305224408894387049764831102415816788302838488163759358880442464841271996924009552125597656000029871945920069592135809714510305050568492282962076155200459823163520125599661331190247295423693479369539207897089029330687087063229794617600228426362802332143868419564986791042070871138834468927608681380324775469648084392233252023199060898262009852458814735220109798711335776886950657673712566903729101833679096080164436101616692225900223009530399701936957416576050868362023678288936540699662646493869380201691070291983092576690113109619669658530569567480231900738979832794365190110332063769224738261322716784213580134459162054883237420655122243442608912564485324739155123540214334721437832335980253175665883923748078808138778489892617786245009676695995859548955295793118491685177615611923849918876943788376089588112021254924514366035006159115495544220175117263791198973631893019532265240590650158688038725447778597846821968404990867233068404252317494705600744171983944392758155968017319264926064035717703689551546368577965524237984584395604640451322648784908808393920354421354933652022850042501024439565694317086166375889101966515903391033665722926492053751935662181036573710666589075054231090970789805470120372290763651694651737956026055054687580605924091836311941654722905991936452962402712420676696844914100498692993396405246024213281409199152177895316109505899844065270847394092352989187014821219700838822997390211420930467176902117138993644084289393184594101687893037552112380577561409115733753116197317893904996031155871434963268281989125060781802299793249506986935087403520582114759686915049811164288923068171166630645412804556834686849339811997272624345451209610072234799147636388394007442197755809229992892011662773045333394169297517043662047416955393835824464718955715533768003619764099353618296115116045408680392028112763026798045363605149580797590880897321978392407382471247703037201794555921517265491742131002049170377837186613587347856654698264224520135455208619756242889343857900269492573865653295657779846389252953974361845662819884659555606338422726324755071355904965836627228015472902605096491057234080297864676919290693866065284786508716002517025160342752274296347122698528445065403389938496652785688504261239308717042861988747921714084878183998044257689936614857248986098845530088704489088753804464247452328286493359080305308533699108470548755043522817524296851181607765078985856788110030378664603571405060072567858232927623904423427932332117192144440129374117987769606755052910410532637200261517256723990744323752786646279951389890790106432694051151792713635336556567036202974873508463761000619989073439337948312457999776257508748912272171365755907484407309457115279467646131051555386093430297862537589539047084718268873912295211307078771084391885925005727161705098381075273709196736059306168932037094412040038535835927026755930848331625639000669041827206120519627723667396317619609584741571250643618811659895371991595631420452317569320864713964169835367286455252699735346800949881727585259305812451301944080846001502837646538394776866006667832289949514978094087480505106365152747264458384978957571885793946341790171221195105504060293970977113319143365574783314065256365993901421293360447317689249168327889401187939684826177903480880184138860319576197956761576458592758857587547797250147749311750127196531760775946768015668774695341839372123970987581939808508666545471484307284827720441183615539001137504924945716991601066325237397217393710831911820673648136005724825840976455114819079720672764780574105283818363148341853770343641516723382040142120716543965755350617814198524573242038508248096382828575053618951418017201360336593725907782581007946275812166407641503255069615258635588683249285357741595980909388812016181149207523377253000975005446039692489808162146780657604227230517888796793129068460788110969857954425777246566458392099766378021811259154176065939767450500788620751224673196909614204634090852625390851493236390812518115132039494937741327739203780340306029027900018168632379936972071103035915310697681780682618452984938214390297869201305965722372094983066106382522266713180985861129215129405881746774666493900265497432183649060778629496845456042435576778178848592105132548314093093045027267741978422700257443074719919851847699669956208713522702981241084110273698341945509936199078626361516858356438338199551147776217157828025952902448631805756412788728207927621975667271537759556123650959287072375501785834364911768683618532950559784769966439994075952742390887917022135423249005719865338815288561132358389543248368376468707821030025683887152401111535962729228993382509506444783572497130379118653537439202612509165271572437189307115537088461940687027939444522596288951844973608761029284691982759400664658832097683182716731358663454978250994661065321784771174798707906811812010525129998089786215044939422639526305706058785334372320721068855886012270428802287354332446712459730146622337992562130686747738509263720735585198274026475340140448014005999413047303775105239544544060574399584411459019548616203982024593722347505084551197822799295055462954159524637490865479967889283531153044772501276754769175435030027226097493714666146432566011449674151323886620539113537792358506202043132609223488017796137324274857190413613158994391980343546470779673273523928780417795458057518863868163939305878663615266470975680752099566287573845653337226072323480812730598752729945461805698729382355731520676745272918139789549444672208139224535013124945449697481643515855415919549481216474116347461032943646637427766127190302635352072429782995231392090405753241610856049466642923113854092802759274690747209850773192447115742986051584447172796662066293311577508178008612548116454223507354467907897278324685653085158298031062050297705147957164220608948017398985384060089841541322074109051205848639185801551104558660805572578525489155901329174728827553504648116846872953408340879193274553050685105603806503318876410159825197937214123536843146114119917148936604156838836794571815701889006351500783772680822748270797541358540607497005873272614547432394591054598833942002147399559629808967868838838488977052000804503729170671977444497217852150600212598447116684836614942367450209922019415456120112338316726661434494616759305779256359407375161808376315748593076255967465546426592192989013055989771021830133978285798909111783511277830404279167964430763556747350628417210325359108939773407042726505552597930887459822528363671923935010105270845478205764046187745967938644568583692964729420207493187812055216595898742926038850717235777361953814626760873386629015982657393323075954187848443941159483891700244032772024494474864861267428179295509271289763506727692377441001690152498190548017131402450998804673788769725854603139135323912334699628834043521385210613463653714999840670536121211543722889326002789965673463793826492107493180673244351036030178237076906818339826415530879582232093468788941531834538413967650710965773577371893253075691811889353309672569821148538046994164082578835488997941988255247877580332566191368890155596565365778957993028285304598637617498839515682158832088077827302997766247526315197488076790727518037888791159399879357097698500674035490428186327801766151742159371722803912886645302745673048040167220747548692880894018710491670670254333026221863465659894005811831706886051530141101904198592392729492670992529482463066154026363826959417957756701546095956250909366537088045146161228887833031497452573529000664115873348466767568769465035341018506566394257281442968043505167915554528452234863998985266788192850863532722387039354465339215238688381049616233342273409406748658750205673752399567784805431152373380054491570143996171120826932476303508680679517294700282329844912366753344524723654796035718588523215567948077782991028273181189779216099666160986585565548663244974901268760657106137921539852219547273761880893488882020077307127514898112801928790416055209392238010309314533736805658385453009095536689428933891021731531728854882236280512464140400680005483615075634424390089797753158442844620656244521659789757627499541682527995040843938231928584541293639530215980440371854447095826217130158679952695261355696808588704380932613567116892069106196345291724595323031585620557122046272523998494436767338982670286284978660214409761003318612486909196464970790033942493273900048695403415563101091698234100788989302919022935369246262762138590550619448209177930953053987831477362495022698360221912737565336851761426529678248195342759749753361483642382250543017034013858187185171280936940252463665170402210256974659802216404806984190915339909354147382155022353847469012273153135167464027235455859487985071135037879396981546731474860036868594544176662952159014989803352370767826756651098869561002912580718237748758538929841485412488468614591916758181613802289130057211936204006861860985154225956243606573790382864055807774003346170357242284221228029996739794773531051525716673711550534049924793317960048734544027238646281324222443808425262140092550869508670412312500268821779036305099833023782605233432801890016842949226352785291392218308936206220541096646732804182946827278476732053687646216354703971360782542425178773279877415552767596682259148032202687999004077708290232235098601048981703782798720438623821979509537962282683122494413400108933885570098348023641961317672268233485540384056160779629535339336670679067086798022498338706082546809550330518890693396872949168280178480585629700925306958115883457722431620691375859152744338713545775713522732399416803132888555728493839133843738425417040909780398653619446107814963466293779982707153486919671058000059257248170299463040871169618517554822422582905749918566745360926505490052292346538446739720780377052257875954165504416152739012507628436549186134770259422488453135329927719596050543383256494867357437241878688592639952874923113478863918411487178331204658455236129454112239375215858287282159913791246627552624100713225008932009654935597765176308815760001968072626825192393447804597059702306695001273484409734480947900517210523942323350514018930296238502016303763546486078740655571769194312633874051997347215909061976625009840974583387392697056978112494207574503752149261381159049267862065819922342387403602330013169639538414348382366979424370157845509984226277653021220152575048464881775417845520533564387329469969141971732265871491295350455870859636831764563249841249802393955405884890045958793474961492154888925967135805033129295470813644394463011816830517177254733605945714917549397051757979565460979470203721493239179414282100822132073835058630090590272084482920788345784079776967766129394310698924715782739327706147542503438259422298744179899307486494275643339110621284839628820536852644207354674222289361916361723603975482891697496015606662848158684208594026092946827401817409458974312447650018246059612142238015438187472084146471137743630062668989190932249059400328669121251666452747778979164652943157230174205159920905301974804791687294478548077874853797444531254843341557993415184926887262518637627009004328000221322908762723153172329683202596181791561393540810644863086087481590078502123741119181542919273698159514063879254044155749591511014786485003034630325464485115348540210835990162144344935505176155636025291111490779171189181420799442336750813373054884562952779034225161550723735212530622344217551378515823508855992686071208364572222369082102156405526315474355870039222875440210763550077064410989627822900673439084567052474441007625814006441081371318552003852617779730647248128799029856995602322263844233609642828622321195554198497644439440645621196378260816742640991328707539545149338951435943012174533416946613602984066077847407022110502639674849466405607730754700614055258859322859559634833861119799533315459865674201206418932015511551420138656904291105209235561782821006145467432481515439795414780561295891279880556611665752722338988150941925155184721203340787673879335256110390401785733850150058382614632685043093490209102269243560579320688579689663071180557050271307661080723245405940949238906007254029262742292632937374383385345817287535045589248082516695475257514424396482526455917186480167504986724804576595746102527040378272610862671551325511866023906683143162484163966030720750459877139331806830528051317218624248085845973616093760950132404982838500870066615305149174341021512854871638309264756656513165694635043197965633722287614700400008246992581241017112451123586401374895894664614964869081373735896220718377913074196796485238078094126285095476204250219551720212981278005560144882755863984116371420081414077569066227916093774971255665787457095154248727676393363084860523318041067241758616359632884663603951150481041070704913891012322463317031152678418386982602426456938834877531512741306042471068642613969135992359569557560875285123353207891937814472526921263100981835554126207549751816313863222575562365176469274267681598819383475574937832642471667180921113736218183336702307510893970889347413900033291445603417339377822558069813820814388527479846686959263575047679293822174990645380606635018060704260884953659698331920267680728235451188719166149833939979391156984867917802647593941339936025168981659726583249410418890701901349852793430191276055022107777460807903954559481669886145206447771069920759243946414732984145301406131952909499149301079717709506039255556265061792213652398268259017735336568913492228953395476379803996748501207734273170104020398020565602471802925922859105083893099795773409365928078660249813720273013386473330638129355689624866918308194447194448245524858352276219099084312632522784935672369348938081090517570847295641905560619239165285679962057995414210459430235695495027748332323002516204772343284887595417067313908973559176313498484453717985950310914283026329640119770044413449901534161567109058242170396697983179451006153523982040210102950948691373785666611589860323331951971964493783528244032183587110949072448118255008358752228979889833046464036505589153880138643762002422921606383591530454903378281386237043944943954526627704040306751702653891951886285838094800316887712331175258739133130613876692074265883393688200901276254830251592466622051092011174184239872451570551589959514426809215059815521857361396066880392350147276465071984565505945260577871558897463870615646768924028537413781911477864267578355770240730352700798635608279636784798161705593158200133044424427151632766992524512266872500813263621512131331693230017268084552437622112999529305944597115255191795773321161159239888655970825589626173941773776631857475631768440167794772253158934939834290456325614880419011415807519686710564485686566550349142253339265496244013940486604845256708338956093781943143200979381483262838024765420039656823219592771528642878127883674730428639396003262236951748325043981361546451873374676963756391608392325275583052894448017249126444849272034333338792777941824037952624384540604101191780043191292973746732455703748201088399344758436745580270202887501935146749528973047418873793346417728108365451448219934955032242616003457145916088459475165054440381067666327039550845212774150279358905328228660047379063551666115141484550644007979850349516013255991819848721554963473666385085650405547896057046701566829482844885087662385255831930975721638823282301621962310194047078069979191903887006620802027964825305024838753535552054266197305566814395194132226248905120208948784835841424965554880882461509171379166088861687000284840298763013889342150235365547188847957681449562399304519959917433329602246552169339606917407209762773930982322341753059792031915750304285780603105930743997853032973297717476148137410660948411746935130334172669655335431106999074605791753062198571241884640107857932989926881749690979207115013891115261088939521889243444607833561971029002996125431243800041158563747991340255160392524484085595102391130805933104627882426935729347369818312677207999409286538619143884469229181489248407934425490520833558441883703037735825374656349659254181837086668807852325685896244293962025199962074247000481340071457201546097411982480193761128738307791691841688267183730492421385165835228153352657579231257749396210105351151620991833750802199118323847270304759314520541414235544896908168420672274248495886658394957256596845929737671770809324196951005893210796579785490391275749830630871762528024398637062693660703174885574352488394569360568526629222850872470974934579301435351189238080512462384986319148274573560821428533693214273620365261620179473437101234069698159276949151009329476281494604507071822153705223185627611537156087076691764749897666821709259538153350469826609578287559674555395572895321591821221058925219586389826058847598051440088755303583635546063783755215227815582531115839025031835719144572975742407097732138412474413988791291125844691096120982740801195368579922717553391376068569537722150428736900200587909515505143010720702742351809118802257837989804396161562091741887118979000598831486315891727186846467072668635812705808408545941624143750487046471827484544365838203534399486233238968269023258651830907528765499919472711032432688369537115892678572902599370047746932841508499591947972181096513709372450319750474588588633761371440916731923983310045136043150686129373708817674639956761055840190699609040143528320801272939661593745621014784246073806722478403441642050916496780031257085484425730933767702036799040781701764189053067249541708436612271529368759508790407721027224953436255116935571756174680774740928713001196831919094285124893547831985583342752882344758463378908235230643519420970578665945424973670027906327473851940219183376679339790090786392879601855220455767217633361442037490100214701008952136492072992196545717555660028115861723854650015922356232735149123377648979636713853157924315173261061299502930702261583710322839524552184891658736315744577916150275273118671932691671076186362104930939666640626394571564867259857362609686853484235199384742244334437507570701570927852270059029467350176127336172068084790236262929926420116939205267091348296307295508707531817600303433031039424204996163629440031094852699467877664520732929474692687217653045928316904643719736771600044444990869626437310223740777243843280437541791441706839094982051211589162279266666118074408132431196854650721815157869477251147632159152868243193596934242695195260246017608998106149020926437533906516238526334527407900463131359164547587230613265186968602860543510384223194595131791386028525639225471322215792547696067647419937914501141354050359784722059192584757337543858424839005014470884151562333547668106396692802602262548126477217312446952087943859729347383415115305936359969181569673622281292431933451282879485926748856398130874472419902400839884851761343122495926191997795782420804121494862361587093810432778954946644623258064088948008905811779750165547495323675307697754044846246124637201979011572632340446597485247049075572613851408807870685804935314135397819694627067120860146166086887261753978837969371381051660194648160702989497032457479612163463444516926894220268940926016841763913548258410506768036321676030229143760091196486803142909863068027042852853197881444916093569198928391705540006766114781118299288546419928193935244819982896687535908397851085385081666110206136762462336078427126700479842835014619266270568560285599909373602862066773480376732634527940023952123329087792215385110723539012314658911974855634529249428720160612511425255647860128302390534964540623352831327174769542844725168189724746926557751243683276596002697366426319381421547818812949203384415970889011961825068853870359857550820529619484853049864998449778232122443466310836075093523629056803555723722093418879027098470487925712794402503888418854873196445153465673748000461031459679599410164869354432
theorem R5_eq : R5 = pf 128 585 (fun _ => 1) := by decide +kernel
theorem V3_eq : V3 = pk 128 s3 := by decide +kernel
def A0 : Nat := 695597575844885
def A17 : Nat := 569155704489835763
def A34 : Nat := 195810637140128063
def chkL (R base : Nat) : List Nat → Bool
  | [] => true
  | s :: l => and (one R (Nat.add base (Nat.mul s R))) (chkL R base l)
def chkB (b : Nat) : Bool := chkL R5 (Nat.add V3 (Nat.mul (s2.getD b 0) R5)) s1
theorem c0 : one (pf 128 1 (fun _ => 1)) A0 = true := by decide +kernel
theorem c1 : chkL R5 V3 [A17] = true := by decide +kernel
theorem c2 : chkL R5 V3 (s2.map fun s => Nat.add s A34) = true := by decide +kernel
theorem t0 : chkB 0 = true := by decide +kernel
theorem t1 : chkB 1 = true := by decide +kernel
theorem t2 : chkB 2 = true := by decide +kernel
theorem t3 : chkB 3 = true := by decide +kernel
theorem t4 : chkB 4 = true := by decide +kernel
theorem t5 : chkB 5 = true := by decide +kernel
theorem t6 : chkB 6 = true := by decide +kernel
theorem t7 : chkB 7 = true := by decide +kernel
theorem t8 : chkB 8 = true := by decide +kernel
theorem t9 : chkB 9 = true := by decide +kernel
theorem t10 : chkB 10 = true := by decide +kernel
theorem t11 : chkB 11 = true := by decide +kernel
theorem t12 : chkB 12 = true := by decide +kernel
theorem t13 : chkB 13 = true := by decide +kernel
theorem t14 : chkB 14 = true := by decide +kernel
theorem t15 : chkB 15 = true := by decide +kernel
theorem t16 : chkB 16 = true := by decide +kernel
theorem t17 : chkB 17 = true := by decide +kernel
theorem t18 : chkB 18 = true := by decide +kernel
theorem t19 : chkB 19 = true := by decide +kernel
theorem t20 : chkB 20 = true := by decide +kernel
theorem t21 : chkB 21 = true := by decide +kernel
theorem t22 : chkB 22 = true := by decide +kernel
theorem t23 : chkB 23 = true := by decide +kernel
theorem t24 : chkB 24 = true := by decide +kernel
theorem t25 : chkB 25 = true := by decide +kernel
theorem t26 : chkB 26 = true := by decide +kernel
theorem t27 : chkB 27 = true := by decide +kernel
theorem t28 : chkB 28 = true := by decide +kernel
theorem t29 : chkB 29 = true := by decide +kernel
theorem t30 : chkB 30 = true := by decide +kernel
theorem t31 : chkB 31 = true := by decide +kernel
theorem t32 : chkB 32 = true := by decide +kernel
theorem t33 : chkB 33 = true := by decide +kernel
theorem t34 : chkB 34 = true := by decide +kernel
theorem t35 : chkB 35 = true := by decide +kernel
theorem t36 : chkB 36 = true := by decide +kernel
theorem t37 : chkB 37 = true := by decide +kernel
theorem t38 : chkB 38 = true := by decide +kernel
theorem t39 : chkB 39 = true := by decide +kernel
theorem t40 : chkB 40 = true := by decide +kernel
theorem t41 : chkB 41 = true := by decide +kernel
theorem t42 : chkB 42 = true := by decide +kernel
theorem t43 : chkB 43 = true := by decide +kernel
theorem t44 : chkB 44 = true := by decide +kernel
theorem t45 : chkB 45 = true := by decide +kernel
theorem t46 : chkB 46 = true := by decide +kernel
theorem t47 : chkB 47 = true := by decide +kernel
theorem t48 : chkB 48 = true := by decide +kernel
theorem t49 : chkB 49 = true := by decide +kernel
theorem t50 : chkB 50 = true := by decide +kernel
theorem t51 : chkB 51 = true := by decide +kernel
theorem t52 : chkB 52 = true := by decide +kernel
theorem t53 : chkB 53 = true := by decide +kernel
theorem t54 : chkB 54 = true := by decide +kernel
theorem t55 : chkB 55 = true := by decide +kernel
theorem t56 : chkB 56 = true := by decide +kernel
theorem t57 : chkB 57 = true := by decide +kernel
theorem t58 : chkB 58 = true := by decide +kernel
theorem t59 : chkB 59 = true := by decide +kernel
theorem t60 : chkB 60 = true := by decide +kernel
theorem t61 : chkB 61 = true := by decide +kernel
theorem t62 : chkB 62 = true := by decide +kernel
theorem t63 : chkB 63 = true := by decide +kernel
theorem t64 : chkB 64 = true := by decide +kernel
theorem t65 : chkB 65 = true := by decide +kernel
theorem t66 : chkB 66 = true := by decide +kernel
theorem t67 : chkB 67 = true := by decide +kernel
theorem t68 : chkB 68 = true := by decide +kernel
theorem t69 : chkB 69 = true := by decide +kernel
theorem t70 : chkB 70 = true := by decide +kernel
theorem t71 : chkB 71 = true := by decide +kernel
theorem t72 : chkB 72 = true := by decide +kernel
theorem t73 : chkB 73 = true := by decide +kernel
theorem t74 : chkB 74 = true := by decide +kernel
theorem t75 : chkB 75 = true := by decide +kernel
theorem t76 : chkB 76 = true := by decide +kernel
theorem t77 : chkB 77 = true := by decide +kernel
theorem t78 : chkB 78 = true := by decide +kernel
theorem t79 : chkB 79 = true := by decide +kernel
theorem t80 : chkB 80 = true := by decide +kernel
theorem t81 : chkB 81 = true := by decide +kernel
theorem t82 : chkB 82 = true := by decide +kernel
theorem t83 : chkB 83 = true := by decide +kernel
theorem t84 : chkB 84 = true := by decide +kernel
theorem t85 : chkB 85 = true := by decide +kernel
theorem t86 : chkB 86 = true := by decide +kernel
theorem t87 : chkB 87 = true := by decide +kernel
theorem t88 : chkB 88 = true := by decide +kernel
theorem t89 : chkB 89 = true := by decide +kernel
theorem t90 : chkB 90 = true := by decide +kernel
theorem t91 : chkB 91 = true := by decide +kernel
theorem t92 : chkB 92 = true := by decide +kernel
theorem t93 : chkB 93 = true := by decide +kernel
theorem t94 : chkB 94 = true := by decide +kernel
theorem t95 : chkB 95 = true := by decide +kernel
theorem t96 : chkB 96 = true := by decide +kernel
theorem t97 : chkB 97 = true := by decide +kernel
theorem t98 : chkB 98 = true := by decide +kernel
theorem t99 : chkB 99 = true := by decide +kernel
theorem t100 : chkB 100 = true := by decide +kernel
theorem t101 : chkB 101 = true := by decide +kernel
theorem t102 : chkB 102 = true := by decide +kernel
theorem t103 : chkB 103 = true := by decide +kernel
theorem t104 : chkB 104 = true := by decide +kernel
theorem t105 : chkB 105 = true := by decide +kernel
theorem t106 : chkB 106 = true := by decide +kernel
theorem t107 : chkB 107 = true := by decide +kernel
theorem t108 : chkB 108 = true := by decide +kernel
theorem t109 : chkB 109 = true := by decide +kernel
theorem t110 : chkB 110 = true := by decide +kernel
theorem t111 : chkB 111 = true := by decide +kernel
theorem t112 : chkB 112 = true := by decide +kernel
theorem t113 : chkB 113 = true := by decide +kernel
theorem t114 : chkB 114 = true := by decide +kernel
theorem t115 : chkB 115 = true := by decide +kernel
theorem t116 : chkB 116 = true := by decide +kernel
theorem t117 : chkB 117 = true := by decide +kernel
theorem t118 : chkB 118 = true := by decide +kernel
theorem t119 : chkB 119 = true := by decide +kernel
theorem t120 : chkB 120 = true := by decide +kernel
theorem t121 : chkB 121 = true := by decide +kernel
theorem t122 : chkB 122 = true := by decide +kernel
theorem t123 : chkB 123 = true := by decide +kernel
theorem t124 : chkB 124 = true := by decide +kernel
theorem t125 : chkB 125 = true := by decide +kernel
theorem t126 : chkB 126 = true := by decide +kernel
theorem t127 : chkB 127 = true := by decide +kernel
theorem t128 : chkB 128 = true := by decide +kernel
theorem t129 : chkB 129 = true := by decide +kernel
theorem t130 : chkB 130 = true := by decide +kernel
theorem t131 : chkB 131 = true := by decide +kernel
theorem t132 : chkB 132 = true := by decide +kernel
theorem t133 : chkB 133 = true := by decide +kernel
theorem t134 : chkB 134 = true := by decide +kernel
theorem t135 : chkB 135 = true := by decide +kernel
theorem t136 : chkB 136 = true := by decide +kernel
theorem t137 : chkB 137 = true := by decide +kernel
theorem t138 : chkB 138 = true := by decide +kernel
theorem t139 : chkB 139 = true := by decide +kernel
theorem t140 : chkB 140 = true := by decide +kernel
theorem t141 : chkB 141 = true := by decide +kernel
theorem t142 : chkB 142 = true := by decide +kernel
theorem t143 : chkB 143 = true := by decide +kernel
theorem t144 : chkB 144 = true := by decide +kernel
theorem t145 : chkB 145 = true := by decide +kernel
theorem t146 : chkB 146 = true := by decide +kernel
theorem t147 : chkB 147 = true := by decide +kernel
theorem t148 : chkB 148 = true := by decide +kernel
theorem t149 : chkB 149 = true := by decide +kernel
theorem t150 : chkB 150 = true := by decide +kernel
theorem t151 : chkB 151 = true := by decide +kernel
theorem t152 : chkB 152 = true := by decide +kernel
theorem t153 : chkB 153 = true := by decide +kernel
theorem t154 : chkB 154 = true := by decide +kernel
theorem t155 : chkB 155 = true := by decide +kernel
theorem t156 : chkB 156 = true := by decide +kernel
theorem t157 : chkB 157 = true := by decide +kernel
theorem t158 : chkB 158 = true := by decide +kernel
theorem t159 : chkB 159 = true := by decide +kernel
theorem t160 : chkB 160 = true := by decide +kernel
theorem t161 : chkB 161 = true := by decide +kernel
theorem t162 : chkB 162 = true := by decide +kernel
theorem t163 : chkB 163 = true := by decide +kernel
theorem t164 : chkB 164 = true := by decide +kernel
theorem t165 : chkB 165 = true := by decide +kernel
theorem t166 : chkB 166 = true := by decide +kernel
theorem t167 : chkB 167 = true := by decide +kernel
theorem t168 : chkB 168 = true := by decide +kernel
theorem t169 : chkB 169 = true := by decide +kernel
theorem t170 : chkB 170 = true := by decide +kernel
theorem t171 : chkB 171 = true := by decide +kernel
theorem t172 : chkB 172 = true := by decide +kernel
theorem t173 : chkB 173 = true := by decide +kernel
theorem t174 : chkB 174 = true := by decide +kernel
theorem t175 : chkB 175 = true := by decide +kernel
theorem t176 : chkB 176 = true := by decide +kernel
theorem t177 : chkB 177 = true := by decide +kernel
theorem t178 : chkB 178 = true := by decide +kernel
theorem t179 : chkB 179 = true := by decide +kernel
theorem t180 : chkB 180 = true := by decide +kernel
theorem t181 : chkB 181 = true := by decide +kernel
theorem t182 : chkB 182 = true := by decide +kernel
theorem t183 : chkB 183 = true := by decide +kernel
theorem t184 : chkB 184 = true := by decide +kernel
theorem t185 : chkB 185 = true := by decide +kernel
theorem t186 : chkB 186 = true := by decide +kernel
theorem t187 : chkB 187 = true := by decide +kernel
theorem t188 : chkB 188 = true := by decide +kernel
theorem t189 : chkB 189 = true := by decide +kernel
theorem t190 : chkB 190 = true := by decide +kernel
theorem t191 : chkB 191 = true := by decide +kernel
theorem t192 : chkB 192 = true := by decide +kernel
theorem t193 : chkB 193 = true := by decide +kernel
theorem t194 : chkB 194 = true := by decide +kernel
theorem t195 : chkB 195 = true := by decide +kernel
theorem t196 : chkB 196 = true := by decide +kernel
theorem t197 : chkB 197 = true := by decide +kernel
theorem t198 : chkB 198 = true := by decide +kernel
theorem t199 : chkB 199 = true := by decide +kernel
theorem t200 : chkB 200 = true := by decide +kernel
theorem t201 : chkB 201 = true := by decide +kernel
theorem t202 : chkB 202 = true := by decide +kernel
theorem t203 : chkB 203 = true := by decide +kernel
theorem t204 : chkB 204 = true := by decide +kernel
theorem t205 : chkB 205 = true := by decide +kernel
theorem t206 : chkB 206 = true := by decide +kernel
theorem t207 : chkB 207 = true := by decide +kernel
theorem t208 : chkB 208 = true := by decide +kernel
theorem t209 : chkB 209 = true := by decide +kernel
theorem t210 : chkB 210 = true := by decide +kernel
theorem t211 : chkB 211 = true := by decide +kernel
theorem t212 : chkB 212 = true := by decide +kernel
theorem t213 : chkB 213 = true := by decide +kernel
theorem t214 : chkB 214 = true := by decide +kernel
theorem t215 : chkB 215 = true := by decide +kernel
theorem t216 : chkB 216 = true := by decide +kernel
theorem t217 : chkB 217 = true := by decide +kernel
theorem t218 : chkB 218 = true := by decide +kernel
theorem t219 : chkB 219 = true := by decide +kernel
theorem t220 : chkB 220 = true := by decide +kernel
theorem t221 : chkB 221 = true := by decide +kernel
theorem t222 : chkB 222 = true := by decide +kernel
theorem t223 : chkB 223 = true := by decide +kernel
theorem t224 : chkB 224 = true := by decide +kernel
theorem t225 : chkB 225 = true := by decide +kernel
theorem t226 : chkB 226 = true := by decide +kernel
theorem t227 : chkB 227 = true := by decide +kernel
theorem t228 : chkB 228 = true := by decide +kernel
theorem t229 : chkB 229 = true := by decide +kernel
theorem t230 : chkB 230 = true := by decide +kernel
theorem t231 : chkB 231 = true := by decide +kernel
theorem t232 : chkB 232 = true := by decide +kernel
theorem t233 : chkB 233 = true := by decide +kernel
theorem t234 : chkB 234 = true := by decide +kernel
theorem t235 : chkB 235 = true := by decide +kernel
theorem t236 : chkB 236 = true := by decide +kernel
theorem t237 : chkB 237 = true := by decide +kernel
theorem t238 : chkB 238 = true := by decide +kernel
theorem t239 : chkB 239 = true := by decide +kernel
theorem t240 : chkB 240 = true := by decide +kernel
theorem t241 : chkB 241 = true := by decide +kernel
theorem t242 : chkB 242 = true := by decide +kernel
theorem t243 : chkB 243 = true := by decide +kernel
theorem t244 : chkB 244 = true := by decide +kernel
theorem t245 : chkB 245 = true := by decide +kernel
theorem t246 : chkB 246 = true := by decide +kernel
theorem t247 : chkB 247 = true := by decide +kernel
theorem t248 : chkB 248 = true := by decide +kernel
theorem t249 : chkB 249 = true := by decide +kernel
theorem t250 : chkB 250 = true := by decide +kernel
theorem t251 : chkB 251 = true := by decide +kernel
theorem t252 : chkB 252 = true := by decide +kernel
theorem t253 : chkB 253 = true := by decide +kernel
theorem t254 : chkB 254 = true := by decide +kernel
theorem t255 : chkB 255 = true := by decide +kernel
theorem t256 : chkB 256 = true := by decide +kernel
theorem t257 : chkB 257 = true := by decide +kernel
theorem t258 : chkB 258 = true := by decide +kernel
theorem t259 : chkB 259 = true := by decide +kernel
theorem t260 : chkB 260 = true := by decide +kernel
theorem t261 : chkB 261 = true := by decide +kernel
theorem t262 : chkB 262 = true := by decide +kernel
theorem t263 : chkB 263 = true := by decide +kernel
theorem t264 : chkB 264 = true := by decide +kernel
theorem t265 : chkB 265 = true := by decide +kernel
theorem t266 : chkB 266 = true := by decide +kernel
theorem t267 : chkB 267 = true := by decide +kernel
theorem t268 : chkB 268 = true := by decide +kernel
theorem t269 : chkB 269 = true := by decide +kernel
theorem t270 : chkB 270 = true := by decide +kernel
theorem t271 : chkB 271 = true := by decide +kernel
theorem t272 : chkB 272 = true := by decide +kernel
theorem t273 : chkB 273 = true := by decide +kernel
theorem t274 : chkB 274 = true := by decide +kernel
theorem t275 : chkB 275 = true := by decide +kernel
theorem t276 : chkB 276 = true := by decide +kernel
theorem t277 : chkB 277 = true := by decide +kernel
theorem t278 : chkB 278 = true := by decide +kernel
theorem t279 : chkB 279 = true := by decide +kernel
theorem t280 : chkB 280 = true := by decide +kernel
theorem t281 : chkB 281 = true := by decide +kernel
theorem t282 : chkB 282 = true := by decide +kernel
theorem t283 : chkB 283 = true := by decide +kernel
theorem t284 : chkB 284 = true := by decide +kernel
theorem t285 : chkB 285 = true := by decide +kernel
theorem t286 : chkB 286 = true := by decide +kernel
theorem t287 : chkB 287 = true := by decide +kernel
theorem t288 : chkB 288 = true := by decide +kernel
theorem t289 : chkB 289 = true := by decide +kernel
theorem t290 : chkB 290 = true := by decide +kernel
theorem t291 : chkB 291 = true := by decide +kernel
theorem t292 : chkB 292 = true := by decide +kernel
theorem t293 : chkB 293 = true := by decide +kernel
theorem t294 : chkB 294 = true := by decide +kernel
theorem t295 : chkB 295 = true := by decide +kernel
theorem t296 : chkB 296 = true := by decide +kernel
theorem t297 : chkB 297 = true := by decide +kernel
theorem t298 : chkB 298 = true := by decide +kernel
theorem t299 : chkB 299 = true := by decide +kernel
theorem t300 : chkB 300 = true := by decide +kernel
theorem t301 : chkB 301 = true := by decide +kernel
theorem t302 : chkB 302 = true := by decide +kernel
theorem t303 : chkB 303 = true := by decide +kernel
theorem t304 : chkB 304 = true := by decide +kernel
theorem t305 : chkB 305 = true := by decide +kernel
theorem t306 : chkB 306 = true := by decide +kernel
theorem t307 : chkB 307 = true := by decide +kernel
theorem t308 : chkB 308 = true := by decide +kernel
theorem t309 : chkB 309 = true := by decide +kernel
theorem t310 : chkB 310 = true := by decide +kernel
theorem t311 : chkB 311 = true := by decide +kernel
theorem t312 : chkB 312 = true := by decide +kernel
theorem t313 : chkB 313 = true := by decide +kernel
theorem t314 : chkB 314 = true := by decide +kernel
theorem t315 : chkB 315 = true := by decide +kernel
theorem t316 : chkB 316 = true := by decide +kernel
theorem t317 : chkB 317 = true := by decide +kernel
theorem t318 : chkB 318 = true := by decide +kernel
theorem t319 : chkB 319 = true := by decide +kernel
theorem t320 : chkB 320 = true := by decide +kernel
theorem t321 : chkB 321 = true := by decide +kernel
theorem t322 : chkB 322 = true := by decide +kernel
theorem t323 : chkB 323 = true := by decide +kernel
theorem t324 : chkB 324 = true := by decide +kernel
theorem t325 : chkB 325 = true := by decide +kernel
theorem t326 : chkB 326 = true := by decide +kernel
theorem t327 : chkB 327 = true := by decide +kernel
theorem t328 : chkB 328 = true := by decide +kernel
theorem t329 : chkB 329 = true := by decide +kernel
theorem t330 : chkB 330 = true := by decide +kernel
theorem t331 : chkB 331 = true := by decide +kernel
theorem t332 : chkB 332 = true := by decide +kernel
theorem t333 : chkB 333 = true := by decide +kernel
theorem t334 : chkB 334 = true := by decide +kernel
theorem t335 : chkB 335 = true := by decide +kernel
theorem t336 : chkB 336 = true := by decide +kernel
theorem t337 : chkB 337 = true := by decide +kernel
theorem t338 : chkB 338 = true := by decide +kernel
theorem t339 : chkB 339 = true := by decide +kernel
theorem t340 : chkB 340 = true := by decide +kernel
theorem t341 : chkB 341 = true := by decide +kernel
theorem t342 : chkB 342 = true := by decide +kernel
theorem t343 : chkB 343 = true := by decide +kernel
theorem t344 : chkB 344 = true := by decide +kernel
theorem t345 : chkB 345 = true := by decide +kernel
theorem t346 : chkB 346 = true := by decide +kernel
theorem t347 : chkB 347 = true := by decide +kernel
theorem t348 : chkB 348 = true := by decide +kernel
theorem t349 : chkB 349 = true := by decide +kernel
theorem t350 : chkB 350 = true := by decide +kernel
theorem t351 : chkB 351 = true := by decide +kernel
theorem t352 : chkB 352 = true := by decide +kernel
theorem t353 : chkB 353 = true := by decide +kernel
theorem t354 : chkB 354 = true := by decide +kernel
theorem t355 : chkB 355 = true := by decide +kernel
theorem t356 : chkB 356 = true := by decide +kernel
theorem t357 : chkB 357 = true := by decide +kernel
theorem t358 : chkB 358 = true := by decide +kernel
theorem t359 : chkB 359 = true := by decide +kernel
theorem t360 : chkB 360 = true := by decide +kernel
theorem t361 : chkB 361 = true := by decide +kernel
theorem t362 : chkB 362 = true := by decide +kernel
theorem t363 : chkB 363 = true := by decide +kernel
theorem t364 : chkB 364 = true := by decide +kernel
theorem t365 : chkB 365 = true := by decide +kernel
theorem t366 : chkB 366 = true := by decide +kernel
theorem t367 : chkB 367 = true := by decide +kernel
theorem t368 : chkB 368 = true := by decide +kernel
theorem t369 : chkB 369 = true := by decide +kernel
theorem t370 : chkB 370 = true := by decide +kernel
theorem t371 : chkB 371 = true := by decide +kernel
theorem t372 : chkB 372 = true := by decide +kernel
theorem t373 : chkB 373 = true := by decide +kernel
theorem t374 : chkB 374 = true := by decide +kernel
theorem t375 : chkB 375 = true := by decide +kernel
theorem t376 : chkB 376 = true := by decide +kernel
theorem t377 : chkB 377 = true := by decide +kernel
theorem t378 : chkB 378 = true := by decide +kernel
theorem t379 : chkB 379 = true := by decide +kernel
theorem t380 : chkB 380 = true := by decide +kernel
theorem t381 : chkB 381 = true := by decide +kernel
theorem t382 : chkB 382 = true := by decide +kernel
theorem t383 : chkB 383 = true := by decide +kernel
theorem t384 : chkB 384 = true := by decide +kernel
theorem t385 : chkB 385 = true := by decide +kernel
theorem t386 : chkB 386 = true := by decide +kernel
theorem t387 : chkB 387 = true := by decide +kernel
theorem t388 : chkB 388 = true := by decide +kernel
theorem t389 : chkB 389 = true := by decide +kernel
theorem t390 : chkB 390 = true := by decide +kernel
theorem t391 : chkB 391 = true := by decide +kernel
theorem t392 : chkB 392 = true := by decide +kernel
theorem t393 : chkB 393 = true := by decide +kernel
theorem t394 : chkB 394 = true := by decide +kernel
theorem t395 : chkB 395 = true := by decide +kernel
theorem t396 : chkB 396 = true := by decide +kernel
theorem t397 : chkB 397 = true := by decide +kernel
theorem t398 : chkB 398 = true := by decide +kernel
theorem t399 : chkB 399 = true := by decide +kernel
theorem t400 : chkB 400 = true := by decide +kernel
theorem t401 : chkB 401 = true := by decide +kernel
theorem t402 : chkB 402 = true := by decide +kernel
theorem t403 : chkB 403 = true := by decide +kernel
theorem t404 : chkB 404 = true := by decide +kernel
theorem t405 : chkB 405 = true := by decide +kernel
theorem t406 : chkB 406 = true := by decide +kernel
theorem t407 : chkB 407 = true := by decide +kernel
theorem t408 : chkB 408 = true := by decide +kernel
theorem t409 : chkB 409 = true := by decide +kernel
theorem t410 : chkB 410 = true := by decide +kernel
theorem t411 : chkB 411 = true := by decide +kernel
theorem t412 : chkB 412 = true := by decide +kernel
theorem t413 : chkB 413 = true := by decide +kernel
theorem t414 : chkB 414 = true := by decide +kernel
theorem t415 : chkB 415 = true := by decide +kernel
theorem t416 : chkB 416 = true := by decide +kernel
theorem t417 : chkB 417 = true := by decide +kernel
theorem t418 : chkB 418 = true := by decide +kernel
theorem t419 : chkB 419 = true := by decide +kernel
theorem t420 : chkB 420 = true := by decide +kernel
theorem t421 : chkB 421 = true := by decide +kernel
theorem t422 : chkB 422 = true := by decide +kernel
theorem t423 : chkB 423 = true := by decide +kernel
theorem t424 : chkB 424 = true := by decide +kernel
theorem t425 : chkB 425 = true := by decide +kernel
theorem t426 : chkB 426 = true := by decide +kernel
theorem t427 : chkB 427 = true := by decide +kernel
theorem t428 : chkB 428 = true := by decide +kernel
theorem t429 : chkB 429 = true := by decide +kernel
theorem t430 : chkB 430 = true := by decide +kernel
theorem t431 : chkB 431 = true := by decide +kernel
theorem t432 : chkB 432 = true := by decide +kernel
theorem t433 : chkB 433 = true := by decide +kernel
theorem t434 : chkB 434 = true := by decide +kernel
theorem t435 : chkB 435 = true := by decide +kernel
theorem t436 : chkB 436 = true := by decide +kernel
theorem t437 : chkB 437 = true := by decide +kernel
theorem t438 : chkB 438 = true := by decide +kernel
theorem t439 : chkB 439 = true := by decide +kernel
theorem t440 : chkB 440 = true := by decide +kernel
theorem t441 : chkB 441 = true := by decide +kernel
theorem t442 : chkB 442 = true := by decide +kernel
theorem t443 : chkB 443 = true := by decide +kernel
theorem t444 : chkB 444 = true := by decide +kernel
theorem t445 : chkB 445 = true := by decide +kernel
theorem t446 : chkB 446 = true := by decide +kernel
theorem t447 : chkB 447 = true := by decide +kernel
theorem t448 : chkB 448 = true := by decide +kernel
theorem t449 : chkB 449 = true := by decide +kernel
theorem t450 : chkB 450 = true := by decide +kernel
theorem t451 : chkB 451 = true := by decide +kernel
theorem t452 : chkB 452 = true := by decide +kernel
theorem t453 : chkB 453 = true := by decide +kernel
theorem t454 : chkB 454 = true := by decide +kernel
theorem t455 : chkB 455 = true := by decide +kernel
theorem t456 : chkB 456 = true := by decide +kernel
theorem t457 : chkB 457 = true := by decide +kernel
theorem t458 : chkB 458 = true := by decide +kernel
theorem t459 : chkB 459 = true := by decide +kernel
theorem t460 : chkB 460 = true := by decide +kernel
theorem t461 : chkB 461 = true := by decide +kernel
theorem t462 : chkB 462 = true := by decide +kernel
theorem t463 : chkB 463 = true := by decide +kernel
theorem t464 : chkB 464 = true := by decide +kernel
theorem t465 : chkB 465 = true := by decide +kernel
theorem t466 : chkB 466 = true := by decide +kernel
theorem t467 : chkB 467 = true := by decide +kernel
theorem t468 : chkB 468 = true := by decide +kernel
theorem t469 : chkB 469 = true := by decide +kernel
theorem t470 : chkB 470 = true := by decide +kernel
theorem t471 : chkB 471 = true := by decide +kernel
theorem t472 : chkB 472 = true := by decide +kernel
theorem t473 : chkB 473 = true := by decide +kernel
theorem t474 : chkB 474 = true := by decide +kernel
theorem t475 : chkB 475 = true := by decide +kernel
theorem t476 : chkB 476 = true := by decide +kernel
theorem t477 : chkB 477 = true := by decide +kernel
theorem t478 : chkB 478 = true := by decide +kernel
theorem t479 : chkB 479 = true := by decide +kernel
theorem t480 : chkB 480 = true := by decide +kernel
theorem t481 : chkB 481 = true := by decide +kernel
theorem t482 : chkB 482 = true := by decide +kernel
theorem t483 : chkB 483 = true := by decide +kernel
theorem t484 : chkB 484 = true := by decide +kernel
theorem t485 : chkB 485 = true := by decide +kernel
theorem t486 : chkB 486 = true := by decide +kernel
theorem t487 : chkB 487 = true := by decide +kernel
theorem t488 : chkB 488 = true := by decide +kernel
theorem t489 : chkB 489 = true := by decide +kernel
theorem t490 : chkB 490 = true := by decide +kernel
theorem t491 : chkB 491 = true := by decide +kernel
theorem t492 : chkB 492 = true := by decide +kernel
theorem t493 : chkB 493 = true := by decide +kernel
theorem t494 : chkB 494 = true := by decide +kernel
theorem t495 : chkB 495 = true := by decide +kernel
theorem t496 : chkB 496 = true := by decide +kernel
theorem t497 : chkB 497 = true := by decide +kernel
theorem t498 : chkB 498 = true := by decide +kernel
theorem t499 : chkB 499 = true := by decide +kernel
theorem t500 : chkB 500 = true := by decide +kernel
theorem t501 : chkB 501 = true := by decide +kernel
theorem t502 : chkB 502 = true := by decide +kernel
theorem t503 : chkB 503 = true := by decide +kernel
theorem t504 : chkB 504 = true := by decide +kernel
theorem t505 : chkB 505 = true := by decide +kernel
theorem t506 : chkB 506 = true := by decide +kernel
theorem t507 : chkB 507 = true := by decide +kernel
theorem t508 : chkB 508 = true := by decide +kernel
theorem t509 : chkB 509 = true := by decide +kernel
theorem t510 : chkB 510 = true := by decide +kernel
theorem t511 : chkB 511 = true := by decide +kernel
theorem t512 : chkB 512 = true := by decide +kernel
theorem t513 : chkB 513 = true := by decide +kernel
theorem t514 : chkB 514 = true := by decide +kernel
theorem t515 : chkB 515 = true := by decide +kernel
theorem t516 : chkB 516 = true := by decide +kernel
theorem t517 : chkB 517 = true := by decide +kernel
theorem t518 : chkB 518 = true := by decide +kernel
theorem t519 : chkB 519 = true := by decide +kernel
theorem t520 : chkB 520 = true := by decide +kernel
theorem t521 : chkB 521 = true := by decide +kernel
theorem t522 : chkB 522 = true := by decide +kernel
theorem t523 : chkB 523 = true := by decide +kernel
theorem t524 : chkB 524 = true := by decide +kernel
theorem t525 : chkB 525 = true := by decide +kernel
theorem t526 : chkB 526 = true := by decide +kernel
theorem t527 : chkB 527 = true := by decide +kernel
theorem t528 : chkB 528 = true := by decide +kernel
theorem t529 : chkB 529 = true := by decide +kernel
theorem t530 : chkB 530 = true := by decide +kernel
theorem t531 : chkB 531 = true := by decide +kernel
theorem t532 : chkB 532 = true := by decide +kernel
theorem t533 : chkB 533 = true := by decide +kernel
theorem t534 : chkB 534 = true := by decide +kernel
theorem t535 : chkB 535 = true := by decide +kernel
theorem t536 : chkB 536 = true := by decide +kernel
theorem t537 : chkB 537 = true := by decide +kernel
theorem t538 : chkB 538 = true := by decide +kernel
theorem t539 : chkB 539 = true := by decide +kernel
theorem t540 : chkB 540 = true := by decide +kernel
theorem t541 : chkB 541 = true := by decide +kernel
theorem t542 : chkB 542 = true := by decide +kernel
theorem t543 : chkB 543 = true := by decide +kernel
theorem t544 : chkB 544 = true := by decide +kernel
theorem t545 : chkB 545 = true := by decide +kernel
theorem t546 : chkB 546 = true := by decide +kernel
theorem t547 : chkB 547 = true := by decide +kernel
theorem t548 : chkB 548 = true := by decide +kernel
theorem t549 : chkB 549 = true := by decide +kernel
theorem t550 : chkB 550 = true := by decide +kernel
theorem t551 : chkB 551 = true := by decide +kernel
theorem t552 : chkB 552 = true := by decide +kernel
theorem t553 : chkB 553 = true := by decide +kernel
theorem t554 : chkB 554 = true := by decide +kernel
theorem t555 : chkB 555 = true := by decide +kernel
theorem t556 : chkB 556 = true := by decide +kernel
theorem t557 : chkB 557 = true := by decide +kernel
theorem t558 : chkB 558 = true := by decide +kernel
theorem t559 : chkB 559 = true := by decide +kernel
theorem t560 : chkB 560 = true := by decide +kernel
theorem t561 : chkB 561 = true := by decide +kernel
theorem t562 : chkB 562 = true := by decide +kernel
theorem t563 : chkB 563 = true := by decide +kernel
theorem t564 : chkB 564 = true := by decide +kernel
theorem t565 : chkB 565 = true := by decide +kernel
theorem t566 : chkB 566 = true := by decide +kernel
theorem t567 : chkB 567 = true := by decide +kernel
theorem t568 : chkB 568 = true := by decide +kernel
theorem t569 : chkB 569 = true := by decide +kernel
theorem t570 : chkB 570 = true := by decide +kernel
theorem t571 : chkB 571 = true := by decide +kernel
theorem t572 : chkB 572 = true := by decide +kernel
theorem t573 : chkB 573 = true := by decide +kernel
theorem t574 : chkB 574 = true := by decide +kernel
theorem t575 : chkB 575 = true := by decide +kernel
theorem t576 : chkB 576 = true := by decide +kernel
theorem t577 : chkB 577 = true := by decide +kernel
theorem t578 : chkB 578 = true := by decide +kernel
theorem t579 : chkB 579 = true := by decide +kernel
theorem t580 : chkB 580 = true := by decide +kernel
theorem t581 : chkB 581 = true := by decide +kernel
theorem t582 : chkB 582 = true := by decide +kernel
theorem t583 : chkB 583 = true := by decide +kernel
theorem t584 : chkB 584 = true := by decide +kernel
def allF : Nat → Nat → Prop
  | 0, _ => True
  | n + 1, k => chkB k = true ∧ allF n (k + 1)
theorem allF_at : ∀ {n k i : Nat}, allF n k → i < n → chkB (k + i) = true
  | 0, _, _, _, h => absurd h (Nat.not_lt_zero _)
  | n + 1, k, 0, h, _ => h.1
  | n + 1, k, i + 1, h, hi => by
    have := allF_at (n := n) (k := k + 1) (i := i) h.2 (Nat.lt_of_succ_lt_succ hi)
    rw [show k + 1 + i = k + (i + 1) by omega] at this
    exact this
theorem u0 : allF 65 0 := ⟨t0, t1, t2, t3, t4, t5, t6, t7, t8, t9, t10, t11, t12, t13, t14, t15, t16, t17, t18, t19, t20, t21, t22, t23, t24, t25, t26, t27, t28, t29, t30, t31, t32, t33, t34, t35, t36, t37, t38, t39, t40, t41, t42, t43, t44, t45, t46, t47, t48, t49, t50, t51, t52, t53, t54, t55, t56, t57, t58, t59, t60, t61, t62, t63, t64, trivial⟩
theorem u65 : allF 65 65 := ⟨t65, t66, t67, t68, t69, t70, t71, t72, t73, t74, t75, t76, t77, t78, t79, t80, t81, t82, t83, t84, t85, t86, t87, t88, t89, t90, t91, t92, t93, t94, t95, t96, t97, t98, t99, t100, t101, t102, t103, t104, t105, t106, t107, t108, t109, t110, t111, t112, t113, t114, t115, t116, t117, t118, t119, t120, t121, t122, t123, t124, t125, t126, t127, t128, t129, trivial⟩
theorem u130 : allF 65 130 := ⟨t130, t131, t132, t133, t134, t135, t136, t137, t138, t139, t140, t141, t142, t143, t144, t145, t146, t147, t148, t149, t150, t151, t152, t153, t154, t155, t156, t157, t158, t159, t160, t161, t162, t163, t164, t165, t166, t167, t168, t169, t170, t171, t172, t173, t174, t175, t176, t177, t178, t179, t180, t181, t182, t183, t184, t185, t186, t187, t188, t189, t190, t191, t192, t193, t194, trivial⟩
theorem u195 : allF 65 195 := ⟨t195, t196, t197, t198, t199, t200, t201, t202, t203, t204, t205, t206, t207, t208, t209, t210, t211, t212, t213, t214, t215, t216, t217, t218, t219, t220, t221, t222, t223, t224, t225, t226, t227, t228, t229, t230, t231, t232, t233, t234, t235, t236, t237, t238, t239, t240, t241, t242, t243, t244, t245, t246, t247, t248, t249, t250, t251, t252, t253, t254, t255, t256, t257, t258, t259, trivial⟩
theorem u260 : allF 65 260 := ⟨t260, t261, t262, t263, t264, t265, t266, t267, t268, t269, t270, t271, t272, t273, t274, t275, t276, t277, t278, t279, t280, t281, t282, t283, t284, t285, t286, t287, t288, t289, t290, t291, t292, t293, t294, t295, t296, t297, t298, t299, t300, t301, t302, t303, t304, t305, t306, t307, t308, t309, t310, t311, t312, t313, t314, t315, t316, t317, t318, t319, t320, t321, t322, t323, t324, trivial⟩
theorem u325 : allF 65 325 := ⟨t325, t326, t327, t328, t329, t330, t331, t332, t333, t334, t335, t336, t337, t338, t339, t340, t341, t342, t343, t344, t345, t346, t347, t348, t349, t350, t351, t352, t353, t354, t355, t356, t357, t358, t359, t360, t361, t362, t363, t364, t365, t366, t367, t368, t369, t370, t371, t372, t373, t374, t375, t376, t377, t378, t379, t380, t381, t382, t383, t384, t385, t386, t387, t388, t389, trivial⟩
theorem u390 : allF 65 390 := ⟨t390, t391, t392, t393, t394, t395, t396, t397, t398, t399, t400, t401, t402, t403, t404, t405, t406, t407, t408, t409, t410, t411, t412, t413, t414, t415, t416, t417, t418, t419, t420, t421, t422, t423, t424, t425, t426, t427, t428, t429, t430, t431, t432, t433, t434, t435, t436, t437, t438, t439, t440, t441, t442, t443, t444, t445, t446, t447, t448, t449, t450, t451, t452, t453, t454, trivial⟩
theorem u455 : allF 65 455 := ⟨t455, t456, t457, t458, t459, t460, t461, t462, t463, t464, t465, t466, t467, t468, t469, t470, t471, t472, t473, t474, t475, t476, t477, t478, t479, t480, t481, t482, t483, t484, t485, t486, t487, t488, t489, t490, t491, t492, t493, t494, t495, t496, t497, t498, t499, t500, t501, t502, t503, t504, t505, t506, t507, t508, t509, t510, t511, t512, t513, t514, t515, t516, t517, t518, t519, trivial⟩
theorem u520 : allF 65 520 := ⟨t520, t521, t522, t523, t524, t525, t526, t527, t528, t529, t530, t531, t532, t533, t534, t535, t536, t537, t538, t539, t540, t541, t542, t543, t544, t545, t546, t547, t548, t549, t550, t551, t552, t553, t554, t555, t556, t557, t558, t559, t560, t561, t562, t563, t564, t565, t566, t567, t568, t569, t570, t571, t572, t573, t574, t575, t576, t577, t578, t579, t580, t581, t582, t583, t584, trivial⟩
theorem all_B (i : Nat) (h : i < 585) : chkB i = true := by
  by_cases h0 : i < 65
  · have := allF_at u0 (show i - 0 < 65 by omega)
    rwa [show 0 + (i - 0) = i by omega] at this
  by_cases h65 : i < 130
  · have := allF_at u65 (show i - 65 < 65 by omega)
    rwa [show 65 + (i - 65) = i by omega] at this
  by_cases h130 : i < 195
  · have := allF_at u130 (show i - 130 < 65 by omega)
    rwa [show 130 + (i - 130) = i by omega] at this
  by_cases h195 : i < 260
  · have := allF_at u195 (show i - 195 < 65 by omega)
    rwa [show 195 + (i - 195) = i by omega] at this
  by_cases h260 : i < 325
  · have := allF_at u260 (show i - 260 < 65 by omega)
    rwa [show 260 + (i - 260) = i by omega] at this
  by_cases h325 : i < 390
  · have := allF_at u325 (show i - 325 < 65 by omega)
    rwa [show 325 + (i - 325) = i by omega] at this
  by_cases h390 : i < 455
  · have := allF_at u390 (show i - 390 < 65 by omega)
    rwa [show 390 + (i - 390) = i by omega] at this
  by_cases h455 : i < 520
  · have := allF_at u455 (show i - 455 < 65 by omega)
    rwa [show 455 + (i - 455) = i by omega] at this
  by_cases h520 : i < 585
  · have := allF_at u520 (show i - 520 < 65 by omega)
    rwa [show 520 + (i - 520) = i by omega] at this
  omega
end Sw

/-! ## sums and texts (printed by n4.py) -/
namespace Sw
def hN (s : Nat) (t : List Nat) : Nat := t.foldl (fun v c => (v * 257 + c + 1) % P) s
def hz (s : Nat) (t : List Nat) : Nat := t.foldl (fun v c => v * 257 + c + 1) s
theorem hN_mod : ∀ (t : List Nat) (s s2 : Nat), s % P = s2 % P → hN s t % P = hz s2 t % P
  | [], s, s2, h => h
  | c :: t, s, s2, h => by
    show hN ((s * 257 + c + 1) % P) t % P = hz (s2 * 257 + c + 1) t % P
    refine hN_mod t _ _ ?_
    rw [Nat.mod_mod]
    have e1 := Nat.div_add_mod s P
    have e2 := Nat.div_add_mod s2 P
    rw [h] at e1
    rw [← e1, ← e2]
    generalize s / P = a
    generalize s2 / P = b
    generalize s2 % P = r
    unfold P
    omega
theorem hN_lt {s : Nat} (h : s < P) : ∀ t : List Nat, hN s t < P := by
  intro t
  unfold hN
  induction t generalizing s with
  | nil => exact h
  | cons c t ih => exact ih (Nat.mod_lt _ (by decide))
theorem hN_eq {s : Nat} (h : s < P) (t : List Nat) : hN s t = hz s t % P := by
  rw [← hN_mod t s s rfl, Nat.mod_eq_of_lt (hN_lt h t)]
theorem hz_app (t u : List Nat) (s : Nat) : hz s (t ++ u) = hz (hz s t) u := by
  unfold hz
  rw [List.foldl_append]
theorem hz_pow : ∀ (u : List Nat) (s : Nat), hz s u = s * 257 ^ u.length + hz 0 u
  | [], s => by show s = s * 257 ^ 0 + 0; omega
  | c :: u, s => by
    show hz (s * 257 + c + 1) u = s * 257 ^ (u.length + 1) + hz (0 * 257 + c + 1) u
    rw [hz_pow u (s * 257 + c + 1), hz_pow u (0 * 257 + c + 1), Nat.pow_succ]
    generalize 257 ^ u.length = p
    generalize hz 0 u = z
    have e1 : (s * 257 + c + 1) * p = s * (p * 257) + (c + 1) * p := by rw [Nat.add_assoc, Nat.add_mul, Nat.mul_assoc, Nat.mul_comm 257 p]
    have e2 : (0 * 257 + c + 1) * p = (c + 1) * p := by rw [Nat.zero_mul, Nat.zero_add]
    rw [e1, e2, Nat.add_assoc]
/-- a number's signs -/
def hc (d : Nat) : Nat := 48 + (d + if 10 ≤ d then 39 else 0)
def hx : Nat → Nat → List Nat
  | 0, _ => []
  | n + 1, x => hx n (x / 16) ++ [hc (x % 16)]
theorem hx_len : ∀ n x : Nat, (hx n x).length = n
  | 0, _ => rfl
  | n + 1, x => by show (hx n (x / 16) ++ [hc (x % 16)]).length = n + 1; rw [List.length_append, hx_len n]; rfl
theorem dig_succ (x i : Nat) : dig 4 (x / 16) i = dig 4 x (i + 1) := by
  unfold dig
  rw [Nat.div_div_eq_div_mul, show 16 * 2 ^ (4 * i) = 2 ^ (4 * (i + 1)) by rw [show (16 : Nat) = 2 ^ 4 from rfl, ← Nat.pow_add]; congr 1; omega]
theorem hx_dig : ∀ n x : Nat, hx n x = ((List.range n).map fun i => hc (dig 4 x i)).reverse
  | 0, _ => rfl
  | n + 1, x => by
    show hx n (x / 16) ++ [hc (x % 16)] = _
    rw [hx_dig n (x / 16), List.range_succ_eq_map, List.map_cons, List.reverse_cons, List.map_map]
    congr 2
    · refine List.map_congr_left fun i _ => ?_
      show hc (dig 4 (x / 16) i) = hc (dig 4 x (i + 1))
      rw [dig_succ]
    · show hc (x % 16) = hc (dig 4 x 0)
      unfold dig
      rw [Nat.mul_zero, Nat.pow_zero, Nat.div_one]
theorem hc_wd {d : Nat} (h : d < 16) : hc d + 1 = 49 + wd d := by
  rw [wd_eq h]
  unfold hc
  omega
def bunH : List Nat := [98, 117, 110, 100, 108, 101, 10, 109, 105, 108, 108, 32]
/-- the number of the bundle of an image's number -/
def Bn (x : Nat) : Nat := hN 3 (bunH ++ hx 16 x ++ [10])
theorem Bn_lt (x : Nat) : Bn x < P := hN_lt (by decide) _
theorem bunl_Bn {x : Nat} (h : x < P) : bunl x = Bn x := by
  have hd : ∀ i, hc (dig 4 x i) + 1 = 49 + wd (dig 4 x i) := fun i => hc_wd (by have := dig_lt 4 x i; omega)
  have e0 : g3 x 0 = 1 * (1 * (1 * wd (dig 4 x 0) + 257 * wd (dig 4 x 1)) + 66049 * (1 * wd (dig 4 x 2) + 257 * wd (dig 4 x 3))) + 4362470401 * (1 * (1 * wd (dig 4 x 4) + 257 * wd (dig 4 x 5)) + 66049 * (1 * wd (dig 4 x 6) + 257 * wd (dig 4 x 7))) := rfl
  have e1 : g3 x 1 = 1 * (1 * (1 * wd (dig 4 x 8) + 257 * wd (dig 4 x 9)) + 66049 * (1 * wd (dig 4 x 10) + 257 * wd (dig 4 x 11))) + 4362470401 * (1 * (1 * wd (dig 4 x 12) + 257 * wd (dig 4 x 13)) + 66049 * (1 * wd (dig 4 x 14) + 257 * wd (dig 4 x 15))) := rfl
  rw [bunl_eq (Nat.lt_trans h (by decide)), e0, e1]
  unfold Bn
  rw [hN_eq (by decide), hx_dig, hz_app, hz_app, show hz 3 bunH = 281198882156438316955186947937 by decide]
  show _ = (((hz _ [hc (dig 4 x 15), hc (dig 4 x 14), hc (dig 4 x 13), hc (dig 4 x 12), hc (dig 4 x 11), hc (dig 4 x 10), hc (dig 4 x 9), hc (dig 4 x 8), hc (dig 4 x 7), hc (dig 4 x 6), hc (dig 4 x 5), hc (dig 4 x 4), hc (dig 4 x 3), hc (dig 4 x 2), hc (dig 4 x 1), hc (dig 4 x 0)]) * 257 + 10 + 1) % P)
  unfold hz
  simp only [List.foldl_cons, List.foldl_nil]
  have hd' : ∀ v i, v * 257 + hc (dig 4 x i) + 1 = v * 257 + (49 + wd (dig 4 x i)) := fun v i => by rw [Nat.add_assoc, hd]
  simp only [hd']
  generalize wd (dig 4 x 0) = w0
  generalize wd (dig 4 x 1) = w1
  generalize wd (dig 4 x 2) = w2
  generalize wd (dig 4 x 3) = w3
  generalize wd (dig 4 x 4) = w4
  generalize wd (dig 4 x 5) = w5
  generalize wd (dig 4 x 6) = w6
  generalize wd (dig 4 x 7) = w7
  generalize wd (dig 4 x 8) = w8
  generalize wd (dig 4 x 9) = w9
  generalize wd (dig 4 x 10) = w10
  generalize wd (dig 4 x 11) = w11
  generalize wd (dig 4 x 12) = w12
  generalize wd (dig 4 x 13) = w13
  generalize wd (dig 4 x 14) = w14
  generalize wd (dig 4 x 15) = w15
  rw [show ((((((((((((((((((((((((((((((((((281198882156438316955186947937) * 257 + (49 + w15))) * 257 + (49 + w14))) * 257 + (49 + w13))) * 257 + (49 + w12))) * 257 + (49 + w11))) * 257 + (49 + w10))) * 257 + (49 + w9))) * 257 + (49 + w8))) * 257 + (49 + w7))) * 257 + (49 + w6))) * 257 + (49 + w5))) * 257 + (49 + w4))) * 257 + (49 + w3))) * 257 + (49 + w2))) * 257 + (49 + w1))) * 257 + (49 + w0))) * 257 + 10 + 1) = (257 * (1 * (1 * (1 * w0 + 257 * w1) + 66049 * (1 * w2 + 257 * w3)) + 4362470401 * (1 * (1 * w4 + 257 * w5) + 66049 * (1 * w6 + 257 * w7))) + 312013355238035786 * (1 * (1 * (1 * w8 + 257 * w9) + 66049 * (1 * w10 + 257 * w11)) + 4362470401 * (1 * (1 * w12 + 257 * w13) + 66049 * (1 * w14 + 257 * w15))) + 1838078109607999688) + P * (2121 * w8 + 545097 * w9 + 140089929 * w10 + 36003111753 * w11 + 9252799720521 * w12 + 2377969528173897 * w13 + 611138168740691529 * w14 + 157062509366357722953 * w15 + 11351335269208536569428115209727487948661948524057932) by unfold P; omega]
  rw [Nat.add_mul_mod_self_left]
/-! ### the texts of layers, and images -/
def sg8 : List Nat := [97, 98, 99, 88, 89, 32, 48, 49]
@[irreducible] def LT : List (List Nat) := [[]] ++ (sg8.map fun a => [a]) ++ (sg8.flatMap fun a => sg8.map fun b => [a, b]) ++ (sg8.flatMap fun a => sg8.flatMap fun b => sg8.map fun c => [a, b, c])
theorem LT_len : LT.length = 585 := by decide +kernel
theorem mem_LT {l : List Nat} (hl : l.length ≤ 3) (h : ∀ x ∈ l, x ∈ sg8) : l ∈ LT := by
  unfold LT
  simp only [List.mem_append, List.mem_singleton, List.mem_map, List.mem_flatMap]
  match l, hl with
  | [], _ => exact .inl (.inl (.inl rfl))
  | [a], _ => exact .inl (.inl (.inr ⟨a, h a (by simp), rfl⟩))
  | [a, b], _ => exact .inl (.inr ⟨a, h a (by simp), b, h b (by simp), rfl⟩)
  | [a, b, c], _ => exact .inr ⟨a, h a (by simp), b, h b (by simp), c, h c (by simp), rfl⟩
  | _ :: _ :: _ :: _ :: _, hl => simp at hl
/-- a layer's number, its part of an image's sum -/
def ly (t : List Nat) : Nat := hN 1 t
def part (t : List Nat) : Nat := hN 0 (hx 16 (ly t) ++ [10])
theorem s3_eq : LT.map part = s3 := by decide +kernel
theorem s2_eq : s3.map (fun s => s * 2160417425731026804 % P) = s2 := by decide +kernel
theorem s1_eq : s3.map (fun s => (370349961585342099 + s * 2252961933835868255) % P) = s1 := by decide +kernel
theorem ly_lt : LT.all (fun t => decide (ly t < 2 ^ 25)) = true := by decide +kernel
theorem s3_lt : s3.all (fun s => decide (s < P)) = true := by decide +kernel
theorem s2_lt : s2.all (fun s => decide (s < P)) = true := by decide +kernel
theorem s1_lt : s1.all (fun s => decide (s < P)) = true := by decide +kernel
def imH : List Nat := [105, 109, 97, 103, 101, 10]
/-- the number of the image of layers with these texts -/
def Im (ts : List (List Nat)) : Nat := hN 2 (imH ++ (ts.map fun t => hx 16 (ly t) ++ [10]).flatten)
/-- what is asked of an image's number -/
structure Good (n : Nat) : Prop where
  x : 2 ^ 25 ≤ n
  b : 2 ^ 25 ≤ Bn n
  c : Bn (Bn n) ≠ n
theorem good_of {x : Nat} (hx : x < P) (h : ((x + 18446744073675997184) >>> 64) &&& 1 = 1 ∧ ((bunl x + 18446744073675997184) >>> 64) &&& 1 = 1 ∧ ((bunl (bunl x) ^^^ x) + P) >>> 61 &&& 1 = 1) : Good x := by
  obtain ⟨h1, h2, h3⟩ := h
  rw [bunl_Bn hx] at h2 h3
  rw [bunl_Bn (Bn_lt x)] at h3
  exact ⟨ge25 h1, ge25 h2, ne61 h3⟩
theorem one_good {n X : Nat} {F : Nat → Nat} (h : Rel 128 n X F (2 ^ 64)) (ho : one (pf 128 n (fun _ => 1)) X = true) (i : Nat) (hi : i < n) : Good (F i % P) := by
  have := one_rel h ho i hi
  rw [red_eq (h.b i hi)] at this
  exact good_of (Nat.mod_lt _ (by decide)) this
theorem chkL_at {R base : Nat} : ∀ {l : List Nat}, chkL R base l = true → ∀ s ∈ l, one R (base + s * R) = true
  | [], _, s, hs => nomatch hs
  | a :: l, h, s, hs => by
    have h : (one R (base + a * R) && chkL R base l) = true := h
    rw [Bool.and_eq_true] at h
    rcases List.mem_cons.mp hs with e | e
    · rw [e]; exact h.1
    · exact chkL_at h.2 s e
theorem all_lt {l : List Nat} (h : l.all (fun s => decide (s < P)) = true) {s : Nat} (hs : s ∈ l) : s < P := of_decide_eq_true (List.all_eq_true.mp h s hs)
theorem s3_len : s3.length = 585 := by rw [← s3_eq, List.length_map, LT_len]
theorem s3_at {i : Nat} (h : i < 585) : s3.getD i 0 ∈ s3 := by
  rw [List.getD_eq_getElem?_getD, List.getElem?_eq_getElem (by rw [s3_len]; exact h)]
  exact List.getElem_mem _
theorem V3_rel (c : Nat) (hc : c < 2 ^ 63) : Rel 128 585 (V3 + c * R5) (fun i => s3.getD i 0 + c) (2 ^ 64) := by
  have r : Rel 128 585 V3 (fun i => s3.getD i 0) P := ⟨by rw [V3_eq, pk_pf, s3_len], fun i hi => Nat.le_of_lt (all_lt s3_lt (s3_at hi))⟩
  have q := r.add (Rel.ones (w := 128) (n := 585) c)
  rw [← R5_eq] at q
  exact q.mono (by unfold P; omega)
theorem part_at {t : List Nat} (h : t ∈ LT) : ∃ i, i < 585 ∧ s3.getD i 0 = part t := by
  obtain ⟨i, hi, e⟩ := List.mem_iff_getElem.mp h
  rw [LT_len] at hi
  refine ⟨i, hi, ?_⟩
  rw [← s3_eq, List.getD_eq_getElem?_getD, List.getElem?_map, List.getElem?_eq_getElem (by rw [LT_len]; exact hi), e, Option.map_some, Option.getD_some]
theorem part_lt (t : List Nat) : part t < P := hN_lt (by decide) _
theorem hz_part (s : Nat) (t : List Nat) : hz s (hx 16 (ly t) ++ [10]) % P = (s * 93081440704959292017710161658737450291457 + part t) % P := by
  rw [hz_pow, List.length_append, hx_len]
  show (s * 257 ^ 17 + _) % P = _
  rw [show (257 : Nat) ^ 17 = 93081440704959292017710161658737450291457 from rfl, part, hN_eq (by decide), Nat.add_mod_mod]
theorem Im_eq (ts : List (List Nat)) : Im ts = hz 2 (imH ++ (ts.map fun t => hx 16 (ly t) ++ [10]).flatten) % P := hN_eq (by decide) _
theorem step_mod (s s2 : Nat) (t : List Nat) (h : s % P = s2 % P) : (s * 93081440704959292017710161658737450291457 + part t) % P = (s2 * 2160417425731026804 + part t) % P := by
  have e1 := Nat.div_add_mod s P
  have e2 := Nat.div_add_mod s2 P
  rw [h] at e1
  rw [← e1, ← e2]
  generalize s / P = a
  generalize s2 / P = b
  generalize s2 % P = r
  generalize part t = q
  unfold P
  omega
theorem good0 : Good (Im []) := by
  have h : Rel 128 1 A0 (fun _ => A0) (2 ^ 64) := ⟨by show A0 = A0 + 2 ^ 128 * 0; omega, fun _ _ => by decide⟩
  have := one_good h c0 0 (by decide)
  rwa [show A0 % P = Im [] by decide] at this
theorem hzs {s s2 : Nat} (h : s % P = s2 % P) (t : List Nat) : hz s (hx 16 (ly t) ++ [10]) % P = (s2 * 2160417425731026804 + part t) % P := (hz_part s t).trans (step_mod s s2 t h)
theorem HI_mod : hz 2 imH % P = A0 % P := by decide
theorem V3_one {c : Nat} (hc : c < 2 ^ 63) (ho : one R5 (V3 + c * R5) = true) {i : Nat} (hi : i < 585) : Good ((s3.getD i 0 + c) % P) := by
  have hr := V3_rel c hc
  rw [R5_eq] at ho hr
  exact one_good hr ho i hi
theorem sum1 (x : Nat) : (A0 * 2160417425731026804 + x) % P = (x + A17) % P := by
  unfold A0 A17 P
  omega
theorem sum2 (x y : Nat) : ((A0 * 2160417425731026804 + x) * 2160417425731026804 + y) % P = (y + (x * 2160417425731026804 % P + A34)) % P := by
  unfold A0 A34 P
  omega
theorem sum3 (x y z : Nat) : (((A0 * 2160417425731026804 + x) * 2160417425731026804 + y) * 2160417425731026804 + z) % P = (z + (y * 2160417425731026804 % P + (370349961585342099 + x * 2252961933835868255) % P)) % P := by
  unfold A0 P
  omega
theorem Im1 (t : List Nat) : Im [t] = (part t + A17) % P := by
  rw [Im_eq]
  simp only [List.map_cons, List.map_nil, List.flatten_cons, List.flatten_nil, List.append_nil]
  rw [hz_app, hzs HI_mod, sum1]
theorem Im2 (t u : List Nat) : Im [t, u] = (part u + (part t * 2160417425731026804 % P + A34)) % P := by
  rw [Im_eq]
  simp only [List.map_cons, List.map_nil, List.flatten_cons, List.flatten_nil, List.append_nil]
  rw [hz_app, hz_app, hzs (hzs HI_mod t), sum2]
theorem Im3 (t u v : List Nat) : Im [t, u, v] = (part v + (part u * 2160417425731026804 % P + (370349961585342099 + part t * 2252961933835868255) % P)) % P := by
  rw [Im_eq]
  simp only [List.map_cons, List.map_nil, List.flatten_cons, List.flatten_nil, List.append_nil]
  rw [hz_app, hz_app, hz_app, hzs (hzs (hzs HI_mod t) u), sum3]
theorem good1 {t : List Nat} (ht : t ∈ LT) : Good (Im [t]) := by
  obtain ⟨i, hi, e⟩ := part_at ht
  rw [Im1, ← e]
  exact V3_one (by decide) (chkL_at c1 A17 List.mem_cons_self) hi
theorem good2 {t u : List Nat} (ht : t ∈ LT) (hu : u ∈ LT) : Good (Im [t, u]) := by
  obtain ⟨i, hi, e⟩ := part_at hu
  have m2 : part t * 2160417425731026804 % P ∈ s2 := by
    rw [← s2_eq, ← s3_eq]
    exact List.mem_map.mpr ⟨part t, List.mem_map.mpr ⟨t, ht, rfl⟩, rfl⟩
  have l2 := all_lt s2_lt m2
  rw [Im2, ← e]
  exact V3_one (c := part t * 2160417425731026804 % P + A34) (by unfold P at l2 ⊢; unfold A34; omega) (chkL_at c2 _ (List.mem_map.mpr ⟨_, m2, rfl⟩)) hi
theorem good3 {t u v : List Nat} (ht : t ∈ LT) (hu : u ∈ LT) (hv : v ∈ LT) : Good (Im [t, u, v]) := by
  obtain ⟨i, hi, e⟩ := part_at hv
  obtain ⟨j, hj, f⟩ := part_at hu
  have m1 : (370349961585342099 + part t * 2252961933835868255) % P ∈ s1 := by
    rw [← s1_eq, ← s3_eq]
    exact List.mem_map.mpr ⟨part t, List.mem_map.mpr ⟨t, ht, rfl⟩, rfl⟩
  have l1 := all_lt s1_lt m1
  have f2 : s2.getD j 0 = part u * 2160417425731026804 % P := by
    rw [List.getD_eq_getElem?_getD, List.getElem?_eq_getElem (by rw [s3_len]; exact hj), Option.getD_some] at f
    rw [← s2_eq, List.getD_eq_getElem?_getD, List.getElem?_map, List.getElem?_eq_getElem (by rw [s3_len]; exact hj), Option.map_some, Option.getD_some, f]
  have l2 : s2.getD j 0 < P := by rw [f2]; exact Nat.mod_lt _ (by decide)
  have ho := chkL_at (all_B j hj) _ m1
  rw [Im3, ← e, ← f2]
  refine V3_one (by unfold P at l1 l2 ⊢; omega) ?_ hi
  rw [Nat.add_mul, ← Nat.add_assoc]
  exact ho
theorem good {ts : List (List Nat)} (hl : ts.length ≤ 3) (h : ∀ t ∈ ts, t ∈ LT) : Good (Im ts) := by
  match ts, hl with
  | [], _ => exact good0
  | [a], _ => exact good1 (h a (by simp))
  | [a, b], _ => exact good2 (h a (by simp)) (h b (by simp))
  | [a, b, c], _ => exact good3 (h a (by simp)) (h b (by simp)) (h c (by simp))
  | _ :: _ :: _ :: _ :: _, hl => simp at hl
end Sw

/-! ## what the laws of stores share -/
namespace Lw
open PySem L2
open PyProof.Rows (envOfC sortedS)
theorem scan_none {b : Bool} : ∀ {ls s : List (List Nat)} {i : Nat}, scan b s i ls = none → ∀ l ∈ ls, ∃ s', okLine b s' l = true
  | [], _, _, _, _, h => nomatch h
  | x :: r, s, i, h, l, hl => by
    unfold scan at h
    split at h
    · rename_i hx
      rcases List.mem_cons.mp hl with z | z
      · subst z; exact ⟨s, hx⟩
      · exact scan_none h l z
    · cases h
theorem bun_two {t : List Nat} (h : fault true t = none) : ∀ l ∈ mid (lnL t), (wdL l).length = 2 := by
  intro l hl
  unfold fault at h
  split at h
  · cases h
  · split at h
    · cases h
    · obtain ⟨s', hs⟩ := scan_none h l hl
      unfold okLine at hs
      rw [if_pos rfl, Bool.and_eq_true, decide_eq_true_eq] at hs
      exact hs.1
def dueS : Kd → Str
  | .lay => "" | .img => "layer" | .bun => "image"
theorem due_ne {k k2 : Kd} (hk : k ≠ .lay) : decide (V.str k2.s = V.str (dueS k)) = decide (k.lo = some k2) := by
  cases k <;> cases k2 <;> first | exact absurd rfl hk | decide +kernel
def dueK : List (Key × V) := [(kS "layer", .str ""), (kS "image", .str "layer"), (kS "bundle", .str "image")]
theorem due_at (k : Kd) : valV (mergeK [] dueK) (kS k.s) = some (.str (dueS k)) := by cases k <;> decide +kernel
def dueK2 : List (Key × V) := [(kS "image", .str "layer"), (kS "bundle", .str "image")]
theorem due2_at {k : Kd} (h : k ≠ .lay) : valV (mergeK [] dueK2) (kS k.s) = some (.str (dueS k)) := by cases k <;> first | exact absurd rfl h | decide +kernel
def notIn (f : List Str) : V → Bool
  | .str x => decide (x ∉ f)
  | _ => false
theorem inV_str {a : Str} {s : List Str} : inV (.str a) (s.map V.str) = decide (a ∈ s) := by
  unfold inV
  rw [List.any_map, Bool.eq_iff_iff, List.any_eq_true, decide_eq_true_eq]
  constructor
  · rintro ⟨y, hy, e⟩
    have e : (y == a) = true := e
    rw [← beq_iff_eq.mp e]
    exact hy
  · intro h
    exact ⟨a, h, (show (a == a) = true from beq_self_eq_true a)⟩
theorem flat_str (s : List Str) : (s.map V.str).all flatV = true := by
  rw [List.all_eq_true]
  intro x hx
  obtain ⟨a, _, rfl⟩ := List.mem_map.mp hx
  rfl
/-- a comprehension over a list, whose items are drawn -/
theorem lc_drawG {J : It} {G : Hp → Prop} {xs : List V} {vs : List Nat} {σ : L2.St} {te : TE} {j : Nat} {Q : VK} {c : Addr → Nat} {H : Hp} {S : Addr} (w : Walk J xs.length G (YAt xs)) (hG : ∀ c' H', Stp (fun i => i = 0) c c' H H' → G H') (hz : xs.length ≤ 100000) (R : Nat → V → Hp → Prop)
    (mono : ∀ i y H1 H2, (∀ b ys, H1 b = some (.tup ys) → H2 b = some (.tup ys)) → R i y H1 → R i y H2) (hS : StateAt c H S) (hw : ∀ x, wipe ((wipe σ vs).set j (some x)) vs = wipe σ vs)
    (he : ∀ (i : Nat) (x : V) (c1 : Addr → Nat) (H1 : Hp) (Rk : VK), xs[i]? = some x → StateAt c1 H1 S → Stp (fun i => i = 0) c c1 H H1 → (∀ (y : V) (c2 : Addr → Nat) (H2 : Hp), R i y H2 → StateAt c2 H2 S → Stp (fun i => i = 0) c1 c2 H1 H2 → Rk y H2) → te ((wipe σ vs).set j (some x)) H1 Rk)
    (k : ∀ (q : Addr) (ys : List V) (c' : Addr → Nat) (H' : Hp), H q = none → ys.length = xs.length → (∀ (i : Nat) (y : V), ys[i]? = some y → R i y H') → StateAt c' H' S → Stp (fun i => i = 0) c c' H H' → H' q = some (.lst ys) → c' q = 9 → Q (.ref q) H') : kLc (gName j) tYes te vs σ Q J H := by
  intro D hD
  refine lc_it w (fun i H2 => ∃ (l : List V) (c2 : Addr → Nat), l.length = i ∧ (∀ (m : Nat) (y : V), l[m]? = some y → R m y H2) ∧ StateAt c2 H2 S ∧ Stp (fun i => i = 0) c c2 H H2 ∧ c2 D = 9 ∧ H2 D = some (.lst l))
    ⟨[], Stp.paint c D 9, rfl, (fun m y h => (by cases h)), hS.frame (I := fun _ => False) (Stp.newc hD) (by decide), Stp.newc hD, Stp.paint_same, upd_same⟩ (fun _ H2 _ h => by obtain ⟨_, c2, _, _, _, st, _⟩ := h; exact hG c2 H2 st) (fun i x H2 H2' hi h y => ?_) (fun H2 h => ?_)
  · obtain ⟨e, hx⟩ := y
    subst e
    obtain ⟨l, c2, h1, h2, S2, st2, cD, hl⟩ := h
    refine ⟨hw x, ?_⟩
    show te _ H2' _
    refine he i x c2 H2' _ hx S2 st2 fun a c3 H3 ga S3 st3 => ?_
    have hD3 := st3.keep _ _ hl (by rw [cD]; decide)
    have tk : ∀ b zs, H3 b = some (.tup zs) → (upd H3 D (.lst (l ++ [a]))) b = some (.tup zs) := fun b zs e => by rw [upd_ne (ne_of e hD3 (by intro z; cases z))]; exact e
    refine ⟨l, hD3, ?_, l ++ [a], c3, by rw [List.length_append, h1]; rfl, fun m y hm => ?_, S3.frame (I := fun i => i = 9) (Stp.own hD3 (by rw [st3.col _ _ hl, cD]) (fun xs z => by cases z)) (by decide), ?_, by rw [st3.col _ _ hl, cD], upd_same⟩
    · rw [h1]
      exact Nat.lt_of_lt_of_le (show i < 200000 by omega) (by decide)
    · by_cases hj : m < l.length
      · rw [List.getElem?_append_left hj] at hm
        exact mono _ _ _ _ (fun b zs e => tk b zs (st3.tup _ _ e)) (h2 m y hm)
      · rw [List.getElem?_append_right (by omega)] at hm
        cases hq : m - l.length with
        | zero =>
          rw [hq] at hm
          cases hm
          have : m = i := by omega
          subst this
          exact mono _ _ _ _ tk ga
        | succ n => rw [hq] at hm; cases hm
    · have st4 := st2.trans st3
      exact ⟨fun b o e n => by rw [upd_ne (ne_of_none e hD)]; exact st4.keep b o e n, st4.col, fun b xs e => by rw [upd_ne (ne_of_none e hD)]; exact st4.tup b xs e, fun b e => by
        by_cases z : b = D
        · subst z; rw [upd_same] at e; cases e
        · rw [upd_ne z] at e; exact st4.fre b e⟩
  · obtain ⟨l, c2, h1, h2, S2, st2, cD, hl⟩ := h
    exact k D l c2 H2 hD h1 h2 S2 st2 hl cD
theorem S_of (x : Str) : SX.S x.cps.toList = x := by
  cases x
  rfl
theorem img_ok {as : List (List Nat)} (h : ∀ a ∈ as, isAdr a = true) (hl : as.length ≤ 50) : (⟨.img, imgL as⟩ : Bl).Ok := by
  obtain ⟨h1, h2⟩ := img_t h (by omega)
  exact ⟨by show faultK "image" _ = none; unfold faultK; rw [if_neg (by decide +kernel), decide_eq_true rfl]; exact (fault_img h hl).1, h2, h1⟩
theorem bun_ok {ps : List (List Nat × List Nat)} (W : WFB ps) : (⟨.bun, bunL ps⟩ : Bl).Ok := by
  obtain ⟨h1, h2⟩ := bun_t W
  exact ⟨by show faultK "bundle" _ = none; unfold faultK; rw [if_neg (by decide +kernel), decide_eq_false (by decide +kernel)]; exact (fault_bun W).1, h2, h1⟩
theorem lay_ok {t : List Nat} (h : okC t) (hl : t.length ≤ 10000) : (⟨.lay, t⟩ : Bl).Ok := ⟨fault_lay t, hl, h⟩
theorem signs8_okC {l : List Nat} (h : ∀ x ∈ l, x ∈ signs8) : okC l := fun c hc => by
  have : ∀ c ∈ signs8, c < 0x110000 := by decide
  exact this c (h c hc)
theorem cut_take {xs : List V} {n : Nat} : cutV xs none (some (n : Int)) = xs.take n := by
  unfold cutV
  rw [HT.sIx_none, HT.sIx_nat, List.drop_zero, Nat.sub_zero]
  by_cases h : n ≤ xs.length
  · rw [Nat.min_eq_left h]
  · rw [Nat.min_eq_right (by omega), List.take_of_length_le (Nat.le_refl _), List.take_of_length_le (by omega)]
def nm3 : List (List Nat) := [[109, 105, 108, 108], [121, 97, 114, 100], [100, 111, 99, 107]]
theorem nm3_eq : ([.str "mill", .str "yard", .str "dock"] : List V) = nm3.map strS := by
  have h : (["mill", "yard", "dock"] : List Str) = nm3.map SX.S := by decide +kernel
  have h2 := congrArg (List.map V.str) h
  rw [List.map_map] at h2
  exact h2
theorem nm3_pl : ∀ p ∈ nm3, isPlat p = true := by decide
theorem nm3_nd (n : Nat) : (nm3.take n).Nodup := (show nm3.Nodup by decide).sublist (List.take_sublist _ _)
theorem eqv_self {d : PyData} (h : d.canLay0 = true) : PyData.eqv d d = true := SeqAt.eqv_refl _ h
/-- two lists of the same texts -/
theorem g_rneL {K : PySem.W.Frag} {H : Hp} {Q : VK} {p q : Addr} {as : List (List Nat)} (h1 : H p = some (.lst (as.map strS))) (h2 : H q = some (.lst (as.map strS))) (ok : ∀ a ∈ as, okC a) (k : Q (.bl false) H) : rNeD K (.ref p) (.ref q) H Q :=
  ⟨_, _, dp_list h1, dp_list h2, shaped_strs ok, shaped_strs ok, by rw [eqv_self (show (PyData.list _).canLay0 = true from (sh_strs as ok).1)]; exact k⟩
theorem pair_ok {k x : Str} (hk : PyData.strOk k = true) (hx : PyData.strOk x = true) : (PyData.tuple [.str k, .str x]).canLay0 = true := by
  simp only [PyData.canLay0, PyData.canLayAll0, hk, hx, Bool.and_true]
theorem pair_shaped {k x : Str} (hk : PyData.strOk k = true) (hx : PyData.strOk x = true) : SeqAt.shaped (.tuple [.str k, .str x]) = true := by
  unfold SeqAt.shaped
  rw [pair_ok hk hx, Bool.true_and, decide_eq_true_eq]
  simp only [PyData.depth, PyData.depthAll]
  decide
theorem dp_pair {K : PySem.W.Frag} {H : Hp} {t : Addr} {k x : Str} (h : H t = some (.tup [.str k, .str x])) : Dp K H (.ref t) (.tuple [.str k, .str x]) := .tup (SqT.of h) (.cons (.str _) (.cons (.str _) .nil))
theorem non_shaped : SeqAt.shaped PyData.none = true := by
  unfold SeqAt.shaped
  simp only [PyData.canLay0, PyData.depth]
  decide
theorem g_rneP {K : PySem.W.Frag} {H : Hp} {Q : VK} {p q : Addr} {k x : Str} (h1 : H p = some (.tup [.str k, .str x])) (h2 : H q = some (.tup [.str k, .str x])) (hk : PyData.strOk k = true) (hx : PyData.strOk x = true) (kk : Q (.bl false) H) : rNeD K (.ref p) (.ref q) H Q :=
  ⟨_, _, dp_pair h1, dp_pair h2, pair_shaped hk hx, pair_shaped hk hx, by rw [eqv_self (pair_ok hk hx)]; exact kk⟩
theorem g_rneN {K : PySem.W.Frag} {H : Hp} {Q : VK} (kk : Q (.bl false) H) : rNeD K .non .non H Q := ⟨_, _, .non, .non, non_shaped, non_shaped, kk⟩
theorem refs_okC {b : Bl} (h : b.Ok) : ∀ a ∈ b.refs, okC a := by
  intro a ha
  unfold Bl.refs refsL prs at ha
  have hm : ∀ l ∈ mid (lnL b.t), okC l := fun l hl => ln_okC h.c (mid_mem hl)
  split at ha
  · cases ha
  · split at ha
    · exact hm a ha
    · rw [List.map_map] at ha
      obtain ⟨l, hl, rfl⟩ := List.mem_map.mp ha
      show okC (w1 l)
      unfold w1
      rw [List.getD_eq_getElem?_getD]
      cases hq : (wdL l)[1]? with
      | none => exact fun c hc => nomatch hc
      | some x => exact wd_okC (hm l hl) (List.mem_of_getElem? hq)
end Lw

/-! ## addresses as numbers -/
namespace Lw
open PySem L2
open PyProof.Rows (envOfC sortedS)
theorem hN_Sw (s : Nat) (t : List Nat) : hN s t = Sw.hN s t := rfl
theorem dig_hc {d : Nat} (h : d < 16) : (Nat.digitChar d).toNat = Sw.hc d := by
  have : ∀ d : Nat, d < 16 → (Nat.digitChar d).toNat = Sw.hc d := by decide
  exact this d h
theorem hx_zero : ∀ n : Nat, Sw.hx n 0 = List.replicate n 48
  | 0 => rfl
  | n + 1 => by
    show Sw.hx n 0 ++ [48] = _
    rw [hx_zero n, ← List.replicate_succ']
theorem dig_hc_map (x : Nat) : [Nat.digitChar (x % 16)].map Char.toNat = [Sw.hc (x % 16)] := by
  show [(Nat.digitChar (x % 16)).toNat] = _
  rw [dig_hc (Nat.mod_lt _ (by decide))]
theorem hx_digs : ∀ (n x : Nat), x < 16 ^ (n + 1) → List.replicate (n + 1 - ((Nat.toDigits 16 x).map Char.toNat).length) 48 ++ (Nat.toDigits 16 x).map Char.toNat = Sw.hx (n + 1) x := by
  intro n
  induction n with
  | zero =>
    intro x h
    rw [Nat.toDigits_of_lt_base (by simpa using h)]
    show [(Nat.digitChar x).toNat] = [] ++ [Sw.hc (x % 16)]
    rw [Nat.mod_eq_of_lt (by simpa using h), dig_hc (by simpa using h)]
    rfl
  | succ n ih =>
    intro x h
    show _ = Sw.hx (n + 1) (x / 16) ++ [Sw.hc (x % 16)]
    by_cases hx : x < 16
    · rw [Nat.toDigits_of_lt_base hx, Nat.div_eq_of_lt hx, hx_zero, Nat.mod_eq_of_lt hx, ← dig_hc hx]
      rfl
    · have hd : x / 16 < 16 ^ (n + 1) := by
        rw [Nat.div_lt_iff_lt_mul (by decide), ← Nat.pow_succ]
        exact h
      rw [Nat.toDigits_of_base_le (by decide) (by omega), List.map_append, ← ih _ hd, List.length_append, dig_hc_map, ← List.append_assoc]
      congr 2
      congr 1
      show n + 1 + 1 - (_ + 1) = _
      omega
theorem adrL_hx (k : Str) (t : List Nat) : adrL k t = Sw.hx 16 (adrN k t) := hx_digs 15 _ (Nat.lt_trans (adrN_lt k t) (by decide))
theorem hc_inj {a b : Nat} (ha : a < 16) (hb : b < 16) (h : Sw.hc a = Sw.hc b) : a = b := by
  have : ∀ a : Nat, a < 16 → ∀ b : Nat, b < 16 → Sw.hc a = Sw.hc b → a = b := by decide
  exact this a ha b hb h
theorem hx_inj : ∀ (n x y : Nat), x < 16 ^ n → y < 16 ^ n → Sw.hx n x = Sw.hx n y → x = y
  | 0, x, y, h1, h2, _ => by
    rw [Nat.pow_zero] at h1 h2
    omega
  | n + 1, x, y, h1, h2, h => by
    have h : Sw.hx n (x / 16) ++ [Sw.hc (x % 16)] = Sw.hx n (y / 16) ++ [Sw.hc (y % 16)] := h
    obtain ⟨e1, e2⟩ := List.append_inj h (by rw [Sw.hx_len, Sw.hx_len])
    have e3 := hx_inj n _ _ (by rw [Nat.div_lt_iff_lt_mul (by decide), ← Nat.pow_succ]; exact h1) (by rw [Nat.div_lt_iff_lt_mul (by decide), ← Nat.pow_succ]; exact h2) e1
    have e4 := hc_inj (Nat.mod_lt x (by decide)) (Nat.mod_lt y (by decide)) (List.head_eq_of_cons_eq e2)
    omega
theorem P_eq : P61 = Sw.P := rfl
/-- an address of a number -/
def nS (x : Nat) : Str := SX.S (Sw.hx 16 x)
theorem nS_inj {x y : Nat} (hx : x < P61) (hy : y < P61) (h : nS x = nS y) : x = y := hx_inj 16 x y (Nat.lt_trans hx (by decide)) (Nat.lt_trans hy (by decide)) (SX.S_inj h)
theorem adrB_nS (b : Bl) : adrB b = nS (adrN b.k.s b.t) := by
  unfold adrB nS
  rw [adrL_hx]
theorem lay_N (t : List Nat) : adrN "layer" t = Sw.ly t := rfl
def LA (t : List Nat) : Str := adrB ⟨.lay, t⟩
theorem LA_nS (t : List Nat) : LA t = nS (Sw.ly t) := adrB_nS _
theorem ly_lt {t : List Nat} (h : t ∈ Sw.LT) : Sw.ly t < 2 ^ 25 := of_decide_eq_true (List.all_eq_true.mp Sw.ly_lt t h)
def imB (ts : List (List Nat)) : Bl := ⟨.img, imgL (ts.map (adrL "layer"))⟩
theorem im_N (ts : List (List Nat)) : adrN "image" (imB ts).t = Sw.Im ts := by
  have e : (ts.map (adrL "layer")).map (fun a => a ++ [10]) = ts.map fun t => Sw.hx 16 (Sw.ly t) ++ [10] := by
    rw [List.map_map]
    refine List.map_congr_left fun t _ => ?_
    show adrL "layer" t ++ [10] = _
    rw [adrL_hx]
    rfl
  show adrN "image" (imgL _) = _
  unfold imgL
  rw [e]
  rfl
theorem im_lt (ts : List (List Nat)) : Sw.Im ts < P61 := Sw.hN_lt (by decide) _
def millL : List Nat := [109, 105, 108, 108]
def buB (x : Nat) : Bl := ⟨.bun, bunL [(millL, Sw.hx 16 x)]⟩
theorem bu_N (x : Nat) : adrN "bundle" (buB x).t = Sw.Bn x := by
  have e : bunL [(millL, Sw.hx 16 x)] = Sw.bunH ++ Sw.hx 16 x ++ [10] := by
    show bunH ++ ((millL ++ [32] ++ Sw.hx 16 x ++ [10]) ++ []) = _
    rw [List.append_nil, show Sw.bunH = bunH ++ (millL ++ [32]) by decide, List.append_assoc, List.append_assoc, List.append_assoc, List.append_assoc, List.append_assoc]
  show adrN "bundle" (bunL _) = _
  rw [e]
  rfl
/-! ### the store is filled -/
theorem hx_adr (x : Nat) (h : x < P61) : isAdr (Sw.hx 16 x) = true := by
  unfold isAdr
  rw [Sw.hx_len, Bool.and_eq_true]
  refine ⟨rfl, List.all_eq_true.mpr fun c hc => decide_eq_true ?_⟩
  rw [Sw.hx_dig] at hc
  obtain ⟨i, _, rfl⟩ := List.mem_map.mp (List.mem_reverse.mp hc)
  have : ∀ d : Nat, d < 16 → Sw.hc d ∈ hexS := by decide
  exact this _ (by have := Sw.dig_lt 4 x i; omega)
theorem adrs_ok (ts : List (List Nat)) : ∀ a ∈ ts.map (adrL "layer"), isAdr a = true := fun a ha => by
  obtain ⟨t, _, rfl⟩ := List.mem_map.mp ha
  exact adr_is _ _
theorem imB_refs {ts : List (List Nat)} (h : ts.length ≤ 50) : (imB ts).refs = ts.map (adrL "layer") := by
  show refsL "image" (imgL _) = _
  unfold refsL
  rw [if_neg (by decide +kernel), if_pos rfl]
  exact (fault_img (adrs_ok ts) (by rw [List.length_map]; exact h)).2
theorem mill_wfb {x : Nat} (h : x < P61) : WFB [(millL, Sw.hx 16 x)] :=
  ⟨fun e he => by rw [List.mem_singleton.mp he]; exact ⟨(show isPlat millL = true by decide), hx_adr x h⟩, by simp, by simp, by simp⟩
theorem buB_refs {x : Nat} (h : x < P61) : (buB x).refs = [Sw.hx 16 x] := by
  show refsL "bundle" (bunL _) = _
  unfold refsL
  rw [if_neg (by decide +kernel), if_neg (by decide +kernel), (fault_bun (mill_wfb h)).2]
  rfl
structure Fl (ks : List Str) (B : Str → Bl) (bs : List Nat) : Prop where
  nd : ks.Nodup
  ok : ∀ a ∈ ks, (B a).Ok
  rl : ∀ a ∈ ks, (B a).refs.length ≤ 3
  la : ∀ t ∈ Sw.LT, LA t ∈ ks → (B (LA t)).refs = []
  e : ∀ a ∈ ks, (∀ r ∈ (B a).refs, ∃ t ∈ Sw.LT, SX.S r = LA t ∧ LA t ∈ ks) ∨ ∃ x ∈ bs, a = nS (Sw.Bn x) ∧ (B a).refs = [Sw.hx 16 x]
  b : ∀ x ∈ bs, nS x ∈ ks ∧ Sw.Good x ∧ x < P61
  sk : ∀ a ∈ ks, PyData.strOk a = true
theorem adrB_ok (b : Bl) : PyData.strOk (adrB b) = true := okS (adr_okC (adr_is _ _))
theorem Fl.zero {B : Str → Bl} : Fl [] B [] := ⟨List.nodup_nil, (fun a ha => nomatch ha), (fun a ha => nomatch ha), (fun t _ ha => nomatch ha), (fun a ha => nomatch ha), (fun x hx => nomatch hx), fun a ha => nomatch ha⟩
theorem Fl.add {ks : List Str} {B : Str → Bl} {bs bs' : List Nat} (h : Fl ks B bs) {b : Bl} (ok : b.Ok) (rl : b.refs.length ≤ 3) (hl : ∀ t ∈ Sw.LT, LA t = adrB b → b.refs = []) (hb : ∀ x ∈ bs, x ∈ bs') (hb2 : ∀ x ∈ bs', nS x ∈ putS ks (adrB b) ∧ Sw.Good x ∧ x < P61)
    (he : (∀ r ∈ b.refs, ∃ t ∈ Sw.LT, SX.S r = LA t ∧ LA t ∈ putS ks (adrB b)) ∨ ∃ x ∈ bs', adrB b = nS (Sw.Bn x) ∧ b.refs = [Sw.hx 16 x]) : Fl (putS ks (adrB b)) (updB B (adrB b) b) bs' := by
  have old : ∀ {a}, a ∈ putS ks (adrB b) → a ≠ adrB b → a ∈ ks := fun ha ne => (mem_putS.mp ha).resolve_right ne
  refine ⟨putS_nd h.nd, fun a ha => ?_, fun a ha => ?_, fun t ht ha => ?_, fun a ha => ?_, hb2, fun a ha => (mem_putS.mp ha).elim (h.sk a) fun z => by rw [z]; exact adrB_ok b⟩
  · by_cases e : a = adrB b
    · rw [e, updB_same]; exact ok
    · rw [updB_ne e]; exact h.ok a (old ha e)
  · by_cases e : a = adrB b
    · rw [e, updB_same]; exact rl
    · rw [updB_ne e]; exact h.rl a (old ha e)
  · by_cases e : LA t = adrB b
    · rw [e, updB_same]; exact hl t ht e
    · rw [updB_ne e]; exact h.la t ht (old ha e)
  · by_cases e : a = adrB b
    · rw [e, updB_same]; exact he
    · rw [updB_ne e]
      rcases h.e a (old ha e) with g | ⟨x, hx, g⟩
      · exact .inl fun r hr => by
          obtain ⟨t, ht, e1, e2⟩ := g r hr
          exact ⟨t, ht, e1, mem_putS.mpr (.inl e2)⟩
      · exact .inr ⟨x, hb x hx, g⟩
theorem Fl.lay {ks : List Str} {B : Str → Bl} {bs : List Nat} (h : Fl ks B bs) {t : List Nat} (hl : t.length ≤ 3) (hc : okC t) : Fl (putS ks (LA t)) (updB B (LA t) ⟨.lay, t⟩) bs := by
  have r : (⟨.lay, t⟩ : Bl).refs = [] := refs_lay rfl
  exact h.add (b := ⟨.lay, t⟩) (lay_ok hc (by omega)) (by rw [r]; exact Nat.zero_le _) (fun _ _ _ => r) (fun _ z => z) (fun x hx => ⟨mem_putS.mpr (.inl (h.b x hx).1), (h.b x hx).2⟩) (.inl (by rw [r]; exact fun _ z => nomatch z))
theorem Fl.img {ks : List Str} {B : Str → Bl} {bs : List Nat} (h : Fl ks B bs) {ts : List (List Nat)} (hl : ts.length ≤ 3) (ht : ∀ t ∈ ts, t ∈ Sw.LT ∧ LA t ∈ ks) : Fl (putS ks (adrB (imB ts))) (updB B (adrB (imB ts)) (imB ts)) bs := by
  have r := imB_refs (ts := ts) (by omega)
  have g := Sw.good hl fun t h => (ht t h).1
  refine h.add (b := imB ts) (img_ok (adrs_ok ts) (by rw [List.length_map]; omega)) (by rw [r, List.length_map]; exact hl) (fun t h2 e => ?_) (fun _ z => z) (fun x hx => ⟨mem_putS.mpr (.inl (h.b x hx).1), (h.b x hx).2⟩) (.inl fun q hq => ?_)
  · rw [LA_nS, adrB_nS, show adrN (imB ts).k.s (imB ts).t = Sw.Im ts from im_N ts] at e
    have := nS_inj (Nat.lt_trans (ly_lt h2) (by decide)) (im_lt ts) e
    have h3 := ly_lt h2
    have h4 := g.x
    omega
  · rw [r] at hq
    obtain ⟨t, h2, rfl⟩ := List.mem_map.mp hq
    exact ⟨t, (ht t h2).1, rfl, mem_putS.mpr (.inl (ht t h2).2)⟩
theorem Fl.bun {ks : List Str} {B : Str → Bl} {bs : List Nat} (h : Fl ks B bs) {x : Nat} (g : Sw.Good x) (hx : x < P61) (hk : nS x ∈ ks) : Fl (putS ks (adrB (buB x))) (updB B (adrB (buB x)) (buB x)) (x :: bs) := by
  have r := buB_refs hx
  have en : adrB (buB x) = nS (Sw.Bn x) := by rw [adrB_nS, show adrN (buB x).k.s (buB x).t = Sw.Bn x from bu_N x]
  refine h.add (b := buB x) (bun_ok (mill_wfb hx)) (by rw [r]; show 1 ≤ 3; decide) (fun t h2 e => ?_) (fun y hy => List.mem_cons_of_mem _ hy) (fun y hy => ?_) (.inr ⟨x, List.mem_cons_self, en, r⟩)
  · rw [LA_nS, en] at e
    have := nS_inj (Nat.lt_trans (ly_lt h2) (by decide)) (Sw.Bn_lt x) e
    have h3 := ly_lt h2
    have h4 := g.b
    omega
  · rcases List.mem_cons.mp hy with z | z
    · rw [z]; exact ⟨mem_putS.mpr (.inl hk), g, hx⟩
    · exact ⟨mem_putS.mpr (.inl (h.b y z).1), (h.b y z).2⟩
/-- all ends -/
theorem Fl.wk {ks : List Str} {B : Str → Bl} {bs : List Nat} (h : Fl ks B bs) (hl : bs.length ≤ 2) : ∀ a ∈ ks, wk ks B 4 a = true := by
  have w2 : ∀ a ∈ ks, (∀ r ∈ (B a).refs, ∃ t ∈ Sw.LT, SX.S r = LA t ∧ LA t ∈ ks) → Lw.wk ks B 2 a = true := fun a ha g => wk_mk ha fun r hr => by
    obtain ⟨t, ht, e1, e2⟩ := g r hr
    rw [e1]
    exact wk_mk e2 fun q hq => by rw [h.la t ht e2] at hq; cases hq
  have no1 : ∀ x ∈ bs, x ≠ Sw.Bn x := fun x hx e => (h.b x hx).2.1.c (by rw [← e]; exact e.symm)
  have no2 : ∀ x ∈ bs, ∀ y, y = Sw.Bn x → x ≠ Sw.Bn y := fun x hx y e1 e2 => (h.b x hx).2.1.c (by rw [← e1, ← e2])
  have sx : ∀ x, SX.S (Sw.hx 16 x) = nS x := fun _ => rfl
  intro a ha
  rcases h.e a ha with g | ⟨x, hx, _, rx⟩
  · exact wk_upto (w2 a ha g) (by decide)
  · refine wk_mk ha fun r hr => ?_
    rw [rx] at hr
    rw [List.mem_singleton.mp hr, sx]
    obtain ⟨kx, gx, lx⟩ := h.b x hx
    rcases h.e _ kx with g | ⟨y, hy, ey, ry⟩
    · exact wk_upto (w2 _ kx g) (by decide)
    · have exy : x = Sw.Bn y := nS_inj lx (Sw.Bn_lt y) ey
      refine wk_mk kx fun r hr => ?_
      rw [ry] at hr
      rw [List.mem_singleton.mp hr, sx]
      obtain ⟨ky, gy, ly⟩ := h.b y hy
      rcases h.e _ ky with g | ⟨z, hz, ez, rz⟩
      · exact w2 _ ky g
      · exfalso
        have eyz : y = Sw.Bn z := nS_inj ly (Sw.Bn_lt z) ez
        have three : x = y ∨ y = z ∨ x = z := by
          match bs, hl with
          | [], _ => cases hx
          | [p], _ => exact .inl ((List.mem_singleton.mp hx).trans (List.mem_singleton.mp hy).symm)
          | [p, q], _ =>
            simp only [List.mem_cons, List.not_mem_nil, or_false] at hx hy hz
            rcases hx with rfl | rfl <;> rcases hy with rfl | rfl <;> rcases hz with rfl | rfl <;> simp
          | _ :: _ :: _ :: _, hl => simp at hl
        rcases three with e | e | e
        · exact no1 x hx (by rw [← e] at exy; exact exy)
        · exact no1 y hy (by rw [← e] at eyz; exact eyz)
        · exact no2 x hx y (by rw [← e] at eyz; exact eyz) exy
end Lw

/-! ## the law's invariant, no program in sight -/
namespace Lw
open PySem L2
open PyProof.Rows (envOfC sortedS)
abbrev Wo (s : Rg) (a : Str) : Prop := wk s.ks s.B 4 a = true
def sto (s : Rg) (b : Bl) : Rg := { s with ks := putS s.ks (adrB b), B := updB s.B (adrB b) b }
inductive Col (s : Rg) (rts : List Str) : Prop
  | idle (h : s.ph = "idle") (m : s.mr = []) (t : s.td = []) (d : s.dm = []) : Col s rts
  | mark (h : s.ph = "mark") (m : ∀ a ∈ s.mr, Wo s a ∧ ∀ r ∈ (s.B a).refs, SX.S r ∈ s.mr ∨ SX.S r ∈ s.td) (t : ∀ a ∈ s.td, Wo s a) (r : ∀ y ∈ rts, y ∈ s.mr ∨ y ∈ s.td) (d : s.dm = []) : Col s rts
  | sweep (h : s.ph = "sweep") (m : ∀ a ∈ s.mr, Wo s a ∧ ∀ r ∈ (s.B a).refs, SX.S r ∈ s.mr) (r : ∀ y ∈ rts, y ∈ s.mr) (t : s.td = []) (dn : s.dm.Nodup) (dk : ∀ a ∈ s.dm, a ∈ s.ks) : Col s rts
structure JR (kb : List Str) (m : Nat) (rts : List Str) (s : Rg) : Prop where
  nd : s.ks.Nodup
  sub : ∀ a ∈ s.ks, a ∈ kb
  kl : kb.length ≤ m
  ok : ∀ a ∈ kb, (s.B a).Ok
  rl : ∀ a ∈ kb, (s.B a).refs.length ≤ 3
  w : ∀ a ∈ kb, wk kb s.B 4 a = true
  la : ∀ t ∈ Sw.LT, LA t ∈ kb → (s.B (LA t)).refs = []
  rn : rts.Nodup
  rt : ∀ y ∈ rts, Wo s y
  mn : s.mr.Nodup
  tl : s.td.length ≤ 4 * m
  dl : s.dm.length ≤ m
  co : Col s rts
section
variable {kb rts : List Str} {m : Nat} {s : Rg}
theorem JR.ksl (h : JR kb m rts s) : s.ks.length ≤ m := Nat.le_trans (few_len h.nd h.sub) h.kl
theorem JR.swf (h : JR kb m rts s) : SWf s.ks s.B := ⟨h.nd, fun a ha => h.ok a (h.sub a ha)⟩
theorem JR.mrk (h : JR kb m rts s) : ∀ a ∈ s.mr, a ∈ s.ks := by
  cases h.co with
  | idle _ e => rw [e]; intro a ha; cases ha
  | mark _ e _ _ _ => exact fun a ha => wk_in (e a ha).1
  | sweep _ e _ _ _ _ => exact fun a ha => wk_in (e a ha).1
theorem JR.mrl (h : JR kb m rts s) : s.mr.length ≤ m := Nat.le_trans (few_len h.mn h.mrk) h.ksl
theorem JR.rtl (h : JR kb m rts s) : rts.length ≤ m := Nat.le_trans (few_len h.rn fun y hy => wk_in (h.rt y hy)) h.ksl
theorem JR.mono {m' : Nat} (h : JR kb m rts s) (hm : m ≤ m') : JR kb m' rts s := ⟨h.nd, h.sub, Nat.le_trans h.kl hm, h.ok, h.rl, h.w, h.la, h.rn, h.rt, h.mn, by have := h.tl; omega, Nat.le_trans h.dl hm, h.co⟩
theorem JR.stepOk (h : JR kb m rts s) (hm : m ≤ 500) : StepOk s := by
  refine ⟨?_, h.swf, by have := h.ksl; omega, by have := h.tl; omega, fun hp => ?_, fun hp => ?_, by have := h.dl; omega, by have := h.mrl; omega⟩
  · cases h.co with
    | idle h _ _ _ => exact .inl h
    | mark h _ _ _ _ => exact .inr (.inl h)
    | sweep h _ _ _ _ _ => exact .inr (.inr h)
  · cases h.co with
    | idle h _ _ _ => rw [hp] at h; exact absurd h (by decide +kernel)
    | mark h _ t _ _ => exact fun a ha => wk_in (t a ha)
    | sweep h _ _ _ _ _ => rw [hp] at h; exact absurd h (by decide +kernel)
  · cases h.co with
    | idle h _ _ _ => rw [hp] at h; exact absurd h (by decide +kernel)
    | mark h _ _ _ _ => rw [hp] at h; exact absurd h (by decide +kernel)
    | sweep h _ _ _ _ dk => exact dk
theorem JR.sto (h : JR kb m rts s) {t : List Nat} (ht : t ∈ Sw.LT) (hl : t.length ≤ 3) (hc : okC t) : JR (putS kb (LA t)) (m + 1) rts (Lw.sto s ⟨.lay, t⟩) ∧ Wo (Lw.sto s ⟨.lay, t⟩) (LA t) := by
  have r0 : (⟨.lay, t⟩ : Bl).refs = [] := refs_lay rfl
  have same : ∀ x ∈ kb, (updB s.B (LA t) ⟨.lay, t⟩ x).refs = (s.B x).refs := fun x hx => by
    by_cases e : x = LA t
    · rw [e, updB_same, r0, h.la t ht (by rw [← e]; exact hx)]
    · rw [updB_ne e]
  have mk : ∀ {n : Nat} {a : Str}, wk s.ks s.B n a = true → wk (putS s.ks (LA t)) (updB s.B (LA t) ⟨.lay, t⟩) n a = true := fun {n a} z => wk_mono (fun x hx => ⟨mem_putS.mpr (.inl hx), same x (h.sub x hx)⟩) n a z
  have wA : ∀ ks : List Str, wk (putS ks (LA t)) (updB s.B (LA t) ⟨.lay, t⟩) 4 (LA t) = true := fun ks => wk_mk (mem_putS.mpr (.inr rfl)) fun q hq => by rw [updB_same, r0] at hq; cases hq
  have mref : ∀ {a : Str}, a ∈ s.ks → (updB s.B (LA t) ⟨.lay, t⟩ a).refs = (s.B a).refs := fun ha => same _ (h.sub _ ha)
  have old : ∀ {a}, a ∈ putS kb (LA t) → a ≠ LA t → a ∈ kb := fun ha ne => (mem_putS.mp ha).resolve_right ne
  refine ⟨⟨putS_nd h.nd, fun a ha => ?_, Nat.le_trans putS_len (by have := h.kl; omega), fun a ha => ?_, fun a ha => ?_, fun a ha => ?_, fun t2 h2 ha => ?_, h.rn, fun y hy => mk (h.rt y hy), h.mn, by have := h.tl; show s.td.length ≤ _; omega, by have := h.dl; show s.dm.length ≤ _; omega, ?_⟩, wA s.ks⟩
  · rcases mem_putS.mp ha with z | z
    · exact mem_putS.mpr (.inl (h.sub a z))
    · exact mem_putS.mpr (.inr z)
  · show (updB s.B (LA t) ⟨.lay, t⟩ a).Ok
    by_cases e : a = LA t
    · rw [e, updB_same]; exact lay_ok hc (by omega)
    · rw [updB_ne e]; exact h.ok a (old ha e)
  · show (updB s.B (LA t) ⟨.lay, t⟩ a).refs.length ≤ 3
    by_cases e : a = LA t
    · rw [e, updB_same, r0]; exact Nat.zero_le _
    · rw [updB_ne e]; exact h.rl a (old ha e)
  · show wk (putS kb (LA t)) (updB s.B (LA t) ⟨.lay, t⟩) 4 a = true
    by_cases e : a = LA t
    · rw [e]; exact wA kb
    · exact wk_mono (fun x hx => ⟨mem_putS.mpr (.inl hx), same x hx⟩) 4 a (h.w a (old ha e))
  · show (updB s.B (LA t) ⟨.lay, t⟩ (LA t2)).refs = []
    by_cases e : LA t2 = LA t
    · rw [e, updB_same, r0]
    · rw [updB_ne e]; exact h.la t2 h2 (old ha e)
  · cases h.co with
    | idle h a b c => exact .idle h a b c
    | mark hp e t' r d => exact .mark hp (fun a ha => ⟨mk (e a ha).1, fun q hq => (e a ha).2 q (by rw [← mref (wk_in (e a ha).1)]; exact hq)⟩) (fun a ha => mk (t' a ha)) r d
    | sweep hp e r t' dn dk => exact .sweep hp (fun a ha => ⟨mk (e a ha).1, fun q hq => (e a ha).2 q (by rw [← mref (wk_in (e a ha).1)]; exact hq)⟩) r t' dn fun a ha => mem_putS.mpr (.inl (dk a ha))
theorem JR.root (h : JR kb m rts s) {a : Str} {rts' : List Str} (hw : Wo s a) (hn : rts'.Nodup) (hr : ∀ y ∈ rts', y ∈ rts ∨ y = a) : JR kb m rts' (shd s a) := by
  refine ⟨h.nd, h.sub, h.kl, h.ok, h.rl, h.w, h.la, hn, fun y hy => ?_, ?_, h.tl, h.dl, ?_⟩
  · rcases hr y hy with z | z
    · exact h.rt y z
    · rw [z]; exact hw
  · show (if s.ph = "idle" then s.mr else (clo s.B 3 a).foldl addD s.mr).Nodup
    split
    · exact h.mn
    · exact foldl_addD_nd h.mn
  · cases h.co with
    | idle hp e1 e2 e3 => exact .idle hp (by show (if s.ph = "idle" then s.mr else _) = []; rw [if_pos hp]; exact e1) e2 e3
    | mark hp e t r d =>
      have ne : ¬ s.ph = "idle" := by rw [hp]; decide +kernel
      have em : (shd s a).mr = (clo s.B 3 a).foldl addD s.mr := if_neg ne
      have mem : ∀ y, y ∈ (shd s a).mr ↔ y ∈ s.mr ∨ y ∈ clo s.B 3 a := fun y => by rw [em, mem_foldl_addD]
      refine .mark hp (fun y hy => ?_) t (fun y hy => ?_) d
      · rcases (mem y).mp hy with z | z
        · exact ⟨(e y z).1, fun r hr => ((e y z).2 r hr).imp (fun q => (mem _).mpr (.inl q)) id⟩
        · exact ⟨(clo_refs hw y z).1, fun r hr => .inl ((mem _).mpr (.inr ((clo_refs hw y z).2 r hr)))⟩
      · rcases hr y hy with z | z
        · exact (r y z).imp (fun q => (mem _).mpr (.inl q)) id
        · exact .inl ((mem _).mpr (.inr (by rw [z]; exact clo_self)))
    | sweep hp e r t dn dk =>
      have ne : ¬ s.ph = "idle" := by rw [hp]; decide +kernel
      have em : (shd s a).mr = (clo s.B 3 a).foldl addD s.mr := if_neg ne
      have mem : ∀ y, y ∈ (shd s a).mr ↔ y ∈ s.mr ∨ y ∈ clo s.B 3 a := fun y => by rw [em, mem_foldl_addD]
      refine .sweep hp (fun y hy => ?_) (fun y hy => ?_) t dn dk
      · rcases (mem y).mp hy with z | z
        · exact ⟨(e y z).1, fun r hr => (mem _).mpr (.inl ((e y z).2 r hr))⟩
        · exact ⟨(clo_refs hw y z).1, fun r hr => (mem _).mpr (.inr ((clo_refs hw y z).2 r hr))⟩
      · rcases hr y hy with z | z
        · exact (mem _).mpr (.inl (r y z))
        · exact (mem _).mpr (.inr (by rw [z]; exact clo_self))
theorem JR.stop (h : JR kb m rts s) : JR kb m rts { s with ph := "idle", mr := [], td := [], dm := [] } :=
  ⟨h.nd, h.sub, h.kl, h.ok, h.rl, h.w, h.la, h.rn, h.rt, List.nodup_nil, Nat.zero_le _, Nat.zero_le _, .idle rfl rfl rfl rfl⟩
theorem JR.cstep {s' : Rg} {w : Str} (h : JR kb m rts s) (cs : CStep rts s s' w) : JR kb (m + 1) rts s' := by
  have h' := h.mono (Nat.le_succ m)
  have hkl := h.ksl
  cases cs with
  | begin hp =>
    cases h.co with
    | idle _ e1 e2 e3 =>
      exact ⟨h.nd, h.sub, h'.kl, h.ok, h.rl, h.w, h.la, h.rn, h.rt, h.mn, by have := h.rtl; show rts.length ≤ _; omega, h'.dl, .mark rfl (by show ∀ a ∈ s.mr, _; rw [e1]; exact fun a ha => nomatch ha) (fun a ha => h.rt a ha) (fun y hy => .inr hy) e3⟩
    | mark q _ _ _ _ => rw [hp] at q; exact absurd q (by decide +kernel)
    | sweep q _ _ _ _ _ => rw [hp] at q; exact absurd q (by decide +kernel)
  | turn ys hp ht pe so =>
    cases h.co with
    | idle q _ _ _ => rw [hp] at q; exact absurd q (by decide +kernel)
    | sweep q _ _ _ _ _ => rw [hp] at q; exact absurd q (by decide +kernel)
    | mark _ e t r d =>
      refine ⟨h.nd, h.sub, h'.kl, h.ok, h.rl, h.w, h.la, h.rn, h.rt, h.mn, h'.tl, ?_, .sweep rfl (fun a ha => ⟨(e a ha).1, fun q hq => ((e a ha).2 q hq).resolve_right (by rw [ht]; exact fun z => nomatch z)⟩) (fun y hy => (r y hy).resolve_right (by rw [ht]; exact fun z => nomatch z)) ht ?_ fun a ha => pe.subset (List.mem_filter.mp ha).1⟩
      · have := List.length_filter_le (fun a => decide (a ∉ s.mr)) ys
        rw [pe.length_eq] at this
        show (ys.filter fun a => decide (a ∉ s.mr)).length ≤ _
        omega
      · exact (pe.nodup_iff.mpr h.nd).filter _
  | mark a t hp ht hm =>
    cases h.co with
    | idle q _ _ _ => rw [hp] at q; exact absurd q (by decide +kernel)
    | sweep q _ _ _ _ _ => rw [hp] at q; exact absurd q (by decide +kernel)
    | mark _ e tt r d =>
      have wa : Wo s a := tt a (by rw [ht]; exact List.mem_cons_self)
      have rl := h.rl a (h.sub a (wk_in wa))
      have tl := h.tl
      rw [ht, List.length_cons] at tl
      refine ⟨h.nd, h.sub, h'.kl, h.ok, h.rl, h.w, h.la, h.rn, h.rt, ?_, by show (t ++ (s.B a).refs.map SX.S).length ≤ _; rw [List.length_append, List.length_map]; omega, h'.dl, .mark hp (fun y hy => ?_) (fun y hy => ?_) (fun y hy => ?_) d⟩
      · show (s.mr ++ [a]).Nodup
        rw [List.nodup_append]
        exact ⟨h.mn, by simp, fun x hx y hy e => hm (by rw [← List.mem_singleton.mp hy, ← e]; exact hx)⟩
      · have hy : y ∈ s.mr ++ [a] := hy
        show Wo s y ∧ ∀ r ∈ (s.B y).refs, SX.S r ∈ s.mr ++ [a] ∨ SX.S r ∈ t ++ (s.B a).refs.map SX.S
        rcases List.mem_append.mp hy with z | z
        · refine ⟨(e y z).1, fun q hq => ?_⟩
          rcases (e y z).2 q hq with u | u
          · exact .inl (List.mem_append.mpr (.inl u))
          · rw [ht] at u
            rcases List.mem_cons.mp u with v | v
            · rw [v]; exact .inl (List.mem_append.mpr (.inr List.mem_cons_self))
            · exact .inr (List.mem_append.mpr (.inl v))
        · rw [List.mem_singleton.mp z]
          exact ⟨wa, fun q hq => .inr (List.mem_append.mpr (.inr (List.mem_map.mpr ⟨q, hq, rfl⟩)))⟩
      · have hy : y ∈ t ++ (s.B a).refs.map SX.S := hy
        show Wo s y
        rcases List.mem_append.mp hy with z | z
        · exact tt y (by rw [ht]; exact List.mem_cons_of_mem _ z)
        · obtain ⟨q, hq, rfl⟩ := List.mem_map.mp z
          exact wk_up 3 _ (wk_ref wa q hq)
      · show y ∈ s.mr ++ [a] ∨ y ∈ t ++ (s.B a).refs.map SX.S
        rcases r y hy with u | u
        · exact .inl (List.mem_append.mpr (.inl u))
        · rw [ht] at u
          rcases List.mem_cons.mp u with v | v
          · rw [v]; exact .inl (List.mem_append.mpr (.inr List.mem_cons_self))
          · exact .inr (List.mem_append.mpr (.inl v))
  | skip a t hp ht hm =>
    cases h.co with
    | idle q _ _ _ => rw [hp] at q; exact absurd q (by decide +kernel)
    | sweep q _ _ _ _ _ => rw [hp] at q; exact absurd q (by decide +kernel)
    | mark _ e tt r d =>
      have tl := h.tl
      rw [ht, List.length_cons] at tl
      have sp : ∀ y, y ∈ s.mr ∨ y ∈ s.td → y ∈ s.mr ∨ y ∈ t := fun y hy => by
        rcases hy with u | u
        · exact .inl u
        · rw [ht] at u
          rcases List.mem_cons.mp u with v | v
          · rw [v]; exact .inl hm
          · exact .inr v
      exact ⟨h.nd, h.sub, h'.kl, h.ok, h.rl, h.w, h.la, h.rn, h.rt, h.mn, by show t.length ≤ _; omega, h'.dl, .mark hp (fun y hy => ⟨(e y hy).1, fun q hq => sp _ ((e y hy).2 q hq)⟩) (fun y hy => tt y (by rw [ht]; exact List.mem_cons_of_mem _ hy)) (fun y hy => sp y (r y hy)) d⟩
  | fin hp ht => exact ⟨h.nd, h.sub, h'.kl, h.ok, h.rl, h.w, h.la, h.rn, h.rt, List.nodup_nil, Nat.zero_le _, Nat.zero_le _, .idle rfl rfl rfl rfl⟩
  | drop a t hp ht hm =>
    cases h.co with
    | idle q _ _ _ => rw [hp] at q; exact absurd q (by decide +kernel)
    | mark q _ _ _ _ => rw [hp] at q; exact absurd q (by decide +kernel)
    | sweep _ e r td0 dn dk =>
      have cl : ∀ y, y ∈ s.mr → y ∈ (s.ks.filter fun j => decide (j ≠ a)) ∧ ∀ q ∈ (s.B y).refs, SX.S q ∈ s.mr := fun y hy => ⟨List.mem_filter.mpr ⟨wk_in (e y hy).1, decide_eq_true fun z => hm (by rw [← z]; exact hy)⟩, (e y hy).2⟩
      have w : ∀ y, y ∈ s.mr → Wo s y → wk (s.ks.filter fun j => decide (j ≠ a)) s.B 4 y = true := fun y hy z => wk_cut (M := fun y => y ∈ s.mr) cl 4 y hy z
      rw [ht, List.nodup_cons] at dn
      have dl := h.dl
      rw [ht, List.length_cons] at dl
      exact ⟨h.nd.filter _, fun y hy => h.sub y (List.mem_filter.mp hy).1, h'.kl, h.ok, h.rl, h.w, h.la, h.rn, fun y hy => w y (r y hy) (h.rt y hy), h.mn, h'.tl, by show t.length ≤ _; omega, .sweep hp (fun y hy => ⟨w y hy (e y hy).1, (e y hy).2⟩) r td0 dn.2 fun y hy => List.mem_filter.mpr ⟨dk y (by rw [ht]; exact List.mem_cons_of_mem _ hy), decide_eq_true fun z => dn.1 (by rw [← z]; exact hy)⟩⟩
  | leave a t hp ht hm =>
    cases h.co with
    | idle q _ _ _ => rw [hp] at q; exact absurd q (by decide +kernel)
    | mark q _ _ _ _ => rw [hp] at q; exact absurd q (by decide +kernel)
    | sweep _ e r td0 dn dk =>
      rw [ht, List.nodup_cons] at dn
      have dl := h.dl
      rw [ht, List.length_cons] at dl
      exact ⟨h.nd, h.sub, h'.kl, h.ok, h.rl, h.w, h.la, h.rn, h.rt, h.mn, h'.tl, by show t.length ≤ _; omega, .sweep hp e r td0 dn.2 fun y hy => dk y (by rw [ht]; exact List.mem_cons_of_mem _ hy)⟩
end
def Rg1 (ks : List Str) (B : Str → Bl) : Rg := { ks := ks, B := B, nk := [], N := fun _ => "", n := 0, cs := [], L := fun _ => [], un := 0, ts := [], X := fun _ => [], ph := "idle", mr := [], td := [], dm := [] }
theorem JR.of {ks : List Str} {B : Str → Bl} {bs : List Nat} {rts : List Str} (h : Fl ks B bs) (hl : bs.length ≤ 2) {m : Nat} (hm : ks.length ≤ m) (hn : rts.Nodup) (hr : ∀ y ∈ rts, y ∈ ks) : JR ks m rts (Rg1 ks B) :=
  ⟨h.nd, fun _ z => z, hm, h.ok, h.rl, h.wk hl, h.la, hn, fun y hy => h.wk hl y (hr y hy), List.nodup_nil, Nat.zero_le _, Nat.zero_le _, .idle rfl rfl rfl rfl⟩
end Lw

/-! ## the store is filled: the walk -/
namespace Lw
open PySem L2
open PyProof.Rows (envOfC sortedS)
theorem call_len_seqK {X : Cx} (K : PySem.W.Frag) (h : X.K = K) : CallR X (.builtin "len") (rLenQ K) := by subst h; exact call_len_seq'
theorem snoc_at {α : Type} {l : List α} {x : α} {i : Nat} (h : l.length = i) : (l ++ [x])[i]? = some x := by
  subst h
  simp
theorem Stp.own0 {I : Nat → Prop} {c c' : Addr → Nat} {H H' H2 : Hp} {p : Addr} {o : HO} (s : Stp I c c' H H') (hp : H p = none) (h : H2 p = some o) (k : ∀ b, b ≠ p → H2 b = H' b) : Stp I c c' H H2 :=
  ⟨fun b u e n => by rw [k b (ne_of_none e hp)]; exact s.keep b u e n, s.col, fun b xs e => by rw [k b (ne_of_none e hp)]; exact s.tup b xs e, fun b e => by
    by_cases z : b = p
    · subst z; rw [h] at e; cases e
    · exact s.fre b (by rw [← k b z]; exact e)⟩
structure BelowAt (c : Addr → Nat) (H : Hp) (bd : Addr) (kb : List Str) (B : Str → Bl) : Prop where
  ex : ∃ A : Str → Addr, c bd = 2 ∧ H bd = some (.dK (mkS kb fun a => .ref (A a))) ∧ ∀ a ∈ kb, c (A a) = 9 ∧ H (A a) = some (.lst ((B a).refs.map strS))
theorem BelowAt.frame {I : Nat → Prop} {c c' : Addr → Nat} {H H' : Hp} {bd : Addr} {kb : List Str} {B : Str → Bl} (h : BelowAt c H bd kb B) (s : Stp I c c' H H') (h2 : ¬ I 2) (h9 : ¬ I 9) : BelowAt c' H' bd kb B := by
  obtain ⟨A, h1, h3, h4⟩ := h.ex
  exact ⟨A, by rw [s.col _ _ h3, h1], s.keep _ _ h3 (by rw [h1]; exact h2), fun a ha => ⟨by rw [s.col _ _ (h4 a ha).2, (h4 a ha).1], s.keep _ _ (h4 a ha).2 (by rw [(h4 a ha).1]; exact h9)⟩⟩
theorem BelowAt.same {c : Addr → Nat} {H H' : Hp} {bd : Addr} {kb : List Str} {B : Str → Bl} (h : BelowAt c H bd kb B) (s : Same H H') : BelowAt c H' bd kb B := h.frame (Stp.same (I := fun _ => False) s) id id
/-- a blob's list is put under its address -/
theorem BelowAt.put {c : Addr → Nat} {H H' : Hp} {bd q : Addr} {kb : List Str} {B : Str → Bl} {b : Bl} {A : Str → Addr} (h1 : c bd = 2) (h2 : H bd = some (.dK (mkS kb fun a => .ref (A a)))) (h3 : ∀ a ∈ kb, c (A a) = 9 ∧ H (A a) = some (.lst ((B a).refs.map strS))) (cq : c q = 9) (hq : H q = some (.lst (b.refs.map strS)))
    (hd : H' bd = some (.dK (putK (mkS kb fun a => .ref (A a)) (kS (adrB b)) (.ref q)))) (k : ∀ x, x ≠ bd → H' x = H x) : BelowAt c H' bd (putS kb (adrB b)) (updB B (adrB b) b) := by
  refine ⟨fun x => if x = adrB b then q else A x, h1, ?_, fun x hx => ?_⟩
  · rw [hd, putK_S]
    congr 2
    refine mkS_congr fun j _ => ?_
    dsimp only
    split <;> rfl
  · dsimp only
    by_cases e : x = adrB b
    · rw [if_pos e, e, updB_same, k q (ne_of hq h2 (by intro z; cases z))]
      exact ⟨cq, hq⟩
    · rw [if_neg e, updB_ne e]
      have hx := (mem_putS.mp hx).resolve_right e
      exact ⟨(h3 x hx).1, by rw [k _ (ne_of (h3 x hx).2 h2 (by intro z; cases z))]; exact (h3 x hx).2⟩
def IFl : Nat → Prop := fun i => i = 0 ∨ i = 1 ∨ i = 2
theorem if0 : ∀ i, i = 0 → IFl i := fun _ h => .inl h
theorem if1 : ∀ i, i = 1 → IFl i := fun _ h => .inr (.inl h)
theorem if2' : ∀ i, i = 2 → IFl i := fun _ h => .inr (.inr h)
theorem ifF' : ∀ i, False → IFl i := fun _ h => h.elim
def spSome : Sp := fun vs H Q _ => ∃ (c : Addr → Nat) (S q : Addr) (xs : List Str) (m : Int), vs = [.ref S, .ref q, .int m] ∧ StateAt c H S ∧ H q = some (.lst (xs.map V.str)) ∧ c q ≠ 0 ∧ xs.length ≤ 1000 ∧ 0 ≤ m ∧ m ≤ 100 ∧
  ∀ (r : Addr) (ys : List Str) (c' : Addr → Nat) (H' : Hp), (ys.length : Int) ≤ m → (∀ y ∈ ys, y ∈ xs) → StateAt c' H' S → Stp (fun i => i = 0) c c' H H' → H' r = some (.lst (ys.map V.str)) → c' r = 9 → Q (.ref r) H'
def spFill (C : Addr) : Sp := fun vs H Q _ => ∃ (c : Addr → Nat) (S p bd : Addr) (B : Str → Bl), vs = [.ref S, .ref p, .ref bd] ∧ StateAt c H S ∧ StoreAt C c H p [] B ∧ BelowAt c H bd [] B ∧
  ∀ (c' : Addr → Nat) (H' : Hp) (ks : List Str) (B' : Str → Bl) (bs : List Nat), Fl ks B' bs → bs.length ≤ 2 → ks.length ≤ 11 → StoreAt C c' H' p ks B' → BelowAt c' H' bd ks B' → StateAt c' H' S → Stp IFl c c' H H' → Q .non H'
section
variable {P : Program} {w : World} {K : PySem.W.Frag} {mg : Str → Option Value} {base : Heap} {C_Collector C_Store C_Refused C_Malformed a_KINDS : Addr}
theorem ok__law_some (T : Txt w K mg C_Collector C_Store C_Refused C_Malformed a_KINDS) : Cal P w K mg base 2 "_law_some" spSome := by
  have c__law_take : Cal P w K mg base 1 "_law_take" spTake := ok__law_take T
  refine cal_mk T.d__law_some sc__law_some (fun vs H Q E h => ?_) (fun f cdv A outer s H vs Q E hr h => ?_)
  · obtain ⟨c, S, q, xs, m, rfl, _⟩ := h
    rfl
  · obtain ⟨c, S, q, xs, m, rfl, S0, hq, cq, hl, hm0, hm1, k⟩ := h
    have hu := hu_of hr
    refine ⟨_, (pss_cons (ps_if (pt_cmpR op_eq (pe_callB call_len_seq' (by rfl) T.n_len (by decide +kernel) (pa_cons (pv 1) pa_nil)) (pe_int) (nomark _)) (pss_one (ps_ret (pe_lst pa_nil))) pss_nil)
      (pss_one (ps_ret (pe_lc (own := [("_law_k", 3)]) (g := (gName 3)) (by rfl) sc__law_some.nd (pi_range1 (by rfl) T.n_range (pa_cons (pe_c c__law_take hr (by first | decide | omega) rfl (pa_cons (pv 0) (pa_cons (pe_op op_add (pv 2) (pe_int)) pa_nil))) pa_nil)) (blkOk_by (own := [("_law_k", 3)]) (N := n__law_some) (sc := defScope s__law_some) (by decide +kernel)) (fun _ _ _ _ _ => (pg_name (i := 3) sc__law_some.nd rfl (by first | exact Or.inl rfl | exact Or.inr rfl))) (fun _ _ _ _ _ => pts_nil) (fun _ _ _ _ _ => (pe_ix (ix_listK K rfl) (pv 1) (pe_c c__law_take hr (by first | decide | omega) rfl (pa_cons (pv 0) (pa_cons (pe_callB (call_len_seqK K rfl) (by rfl) T.n_len (by decide +kernel) (pa_cons (pv 1) pa_nil)) pa_nil))) (fun _ _ => rfl))))))), ?_⟩
    walk_at "lw"
    refine if2 (fun he => ?_) (fun he => ?_)
    · walk_at "lw"
      refine g_klst (by show 0 ≤ 100; decide) fun r H1 nr s1 hr1 => ?_
      walk_at "lw"
      have st1 : Stp (fun i => i = 0) c (Stp.paint c r 9) H H1 := L2x_sameN s1 nr
      exact k r [] (Stp.paint c r 9) H1 (by show (0 : Int) ≤ m; omega) (fun y hy => nomatch hy) (S0.frame (I := fun _ => False) (L2x_sameN (i := 9) s1 nr) (by decide)) st1 hr1 Stp.paint_same
    · have hx0 : 0 < xs.length := by
        rcases Nat.eq_zero_or_pos xs.length with z | z
        · exact absurd (by rw [int_eq, List.length_map, z]; rfl) he
        · exact z
      walk_at "lw"
      refine ⟨c, S, m + 1, rfl, S0, by omega, by omega, fun r c1 H1 r0 r1 S1 st1 => ?_⟩
      have hq1 := st1.keep _ _ hq cq
      have cq1 : c1 q ≠ 0 := by rw [st1.col _ _ hq]; exact cq
      walk_at "lw"
      refine g_ritR r0 (by omega) ?_
      refine lc_draw walk_rng (by rw [List.length_map, List.length_range]; omega) V.str (fun y => y ∈ xs) S1 (fun x => rfl) (fun x c7 H7 R S7 st7 kk => ?_) ?_
      · have hq7 := st7.keep _ _ hq1 cq1
        have cq7 : c7 q ≠ 0 := by rw [st7.col _ _ hq1]; exact cq1
        walk_at "lw"
        refine ⟨c7, S, _, rfl, S7, by rw [List.length_map]; omega, by rw [List.length_map]; omega, fun r8 c8 H8 r80 r81 S8 st8 => ?_⟩
        obtain ⟨v, hv, hat⟩ := at_in (xs := xs.map V.str) (i := r8) r80 r81
        obtain ⟨l, hl, rfl⟩ := map_at hv
        refine g_rix (SqL.of (st8.keep _ _ hq7 cq7)) hat ?_
        exact kk l c8 H8 (List.mem_of_getElem? hl) S8 st8
      intro q2 ys c2 H2 nq2 hyl hys S2 st2 hq2 cq2
      rw [List.length_map, List.length_range] at hyl
      walk_at "lw"
      exact k q2 ys c2 H2 (by omega) hys S2 (st1.trans st2) hq2 cq2
theorem ok__law_fill (T : Txt w K mg C_Collector C_Store C_Refused C_Malformed a_KINDS) : Cal P w K mg base 3 "_law_fill" (spFill C_Store) := by
  have c__law_take : Cal P w K mg base 1 "_law_take" spTake := ok__law_take T
  have c__law_text : Cal P w K mg base 2 "_law_text" spText := ok__law_text T
  have c__law_some : Cal P w K mg base 2 "_law_some" spSome := ok__law_some T
  have c_image_text : Cal P w K mg base 1 "image_text" spImg := ok_image_text T
  have c_bundle_text : Cal P w K mg base 1 "bundle_text" spBun := ok_bundle_text T
  have t_Store_keep : Met P w K mg base 2 C_Store "keep" (spKeep C_Store) := ok_Store_keep T
  refine cal_mk T.d__law_fill sc__law_fill (fun vs H Q E h => ?_) (fun f cdv A outer s H vs Q E hr h => ?_)
  · obtain ⟨c, S, p, bd, B, rfl, _⟩ := h
    rfl
  · obtain ⟨c, S, p, bd, B0, rfl, S0, W0, D0, k⟩ := h
    have hu := hu_of hr
    refine ⟨_, (pss_cons (ps_set (i := 3) sc__law_fill.nd rfl (by first | exact Or.inl rfl | exact Or.inr rfl) (pe_lst pa_nil))
      (pss_cons (ps_for PassesOwn.never rfl (pi_range1 (by rfl) T.n_range (pa_cons (pe_c c__law_take hr (by first | decide | omega) rfl (pa_cons (pv 0) (pa_cons (pe_int) pa_nil))) pa_nil)) (pg_name (i := 4) sc__law_fill.nd rfl (by first | exact Or.inl rfl | exact Or.inr rfl)) (pss_cons (ps_expr (pe_bm PySem.F.plainAttrs_list PySem.F.slot_list_append PySem.F.type_list_append mt_append (pv 3) (pa_cons (pe_mt t_Store_keep hr (by first | decide | omega) (pv 1) (pa_cons (pe_str) (pa_cons (pe_c c__law_text hr (by first | decide | omega) rfl (pa_cons (pv 0) (pa_cons (pe_int) pa_nil))) pa_nil))) pa_nil)))
      (pss_one (ps_dput hu (pv 2) (pe_ix ix_list (pv 3) (pv 4) (fun _ _ => rfl)) (pe_lst pa_nil) rfl))))
      (pss_cons (ps_set (i := 5) sc__law_fill.nd rfl (by first | exact Or.inl rfl | exact Or.inr rfl) (pe_lst pa_nil))
      (pss_cons (ps_for PassesOwn.never rfl (pi_range1 (by rfl) T.n_range (pa_cons (pe_c c__law_take hr (by first | decide | omega) rfl (pa_cons (pv 0) (pa_cons (pe_int) pa_nil))) pa_nil)) (pg_name (i := 4) sc__law_fill.nd rfl (by first | exact Or.inl rfl | exact Or.inr rfl)) (pss_cons (ps_set (i := 6) sc__law_fill.nd rfl (by first | exact Or.inl rfl | exact Or.inr rfl) (pe_c c__law_some hr (by first | decide | omega) rfl (pa_cons (pv 0) (pa_cons (pv 3) (pa_cons (pe_int) pa_nil)))))
      (pss_cons (ps_expr (pe_bm PySem.F.plainAttrs_list PySem.F.slot_list_append PySem.F.type_list_append mt_append (pv 5) (pa_cons (pe_mt t_Store_keep hr (by first | decide | omega) (pv 1) (pa_cons (pe_str) (pa_cons (pe_c c_image_text hr (by first | decide | omega) rfl (pa_cons (pv 6) pa_nil)) pa_nil))) pa_nil)))
      (pss_one (ps_dput hu (pv 2) (pe_ix ix_list (pv 5) (pv 4) (fun _ _ => rfl)) (pv 6) rfl)))))
      (pss_one (ps_for PassesOwn.never rfl (pi_range1 (by rfl) T.n_range (pa_cons (pe_c c__law_take hr (by first | decide | omega) rfl (pa_cons (pv 0) (pa_cons (pe_int) pa_nil))) pa_nil)) (pg_name (i := 4) sc__law_fill.nd rfl (by first | exact Or.inl rfl | exact Or.inr rfl)) (pss_cons (ps_set (i := 6) sc__law_fill.nd rfl (by first | exact Or.inl rfl | exact Or.inr rfl) (pe_c c__law_some hr (by first | decide | omega) rfl (pa_cons (pv 0) (pa_cons (pv 5) (pa_cons (pe_int) pa_nil)))))
      (pss_one (ps_if (pt_cmpR op_eq (pe_callB call_len_seq' (by rfl) T.n_len (by decide +kernel) (pa_cons (pv 6) pa_nil)) (pe_int) (nomark _)) (pss_one (ps_dput hu (pv 2) (pe_mt t_Store_keep hr (by first | decide | omega) (pv 1) (pa_cons (pe_str) (pa_cons (pe_c c_bundle_text hr (by first | decide | omega) rfl (pa_cons (pe_lst (pa_cons (pe_tup (pa_cons (pe_str) (pa_cons (pe_ix ix_list (pv 6) (pe_int) (fun _ _ => rfl)) pa_nil))) pa_nil)) pa_nil)) pa_nil))) (pv 6) rfl)) pss_nil))))))))), ?_⟩
    walk_at "lw"
    refine g_klst (by show 0 ≤ 100; decide) fun pl H1 npl s1 hpl => ?_
    have st1 : Stp (fun _ => False) c (Stp.paint c pl 3) H H1 := L2x_sameN s1 npl
    have S1 := S0.frame st1 (by decide)
    have W1 := W0.frame st1 id
    have D1 := D0.frame st1 id id
    have cpl : Stp.paint c pl 3 pl = 3 := Stp.paint_same
    generalize Stp.paint c pl 3 = c1 at st1 S1 W1 D1 cpl
    have st1 := st1.mono ifF'
    clear S0 W0 D0 s1
    walk_at "lw"
    refine ⟨c1, S, 6, rfl, S1, by decide, by decide, fun r c2 H2 r0 r1 S2 st2 => ?_⟩
    have hpl2 := st2.keep _ _ hpl (by rw [cpl]; decide)
    have cpl2 : c2 pl = 3 := by rw [st2.col _ _ hpl, cpl]
    have W2 := W1.frame st2 (by decide)
    have D2 := D1.frame st2 (by decide) (by decide)
    have st2 := st1.trans (st2.mono if0)
    clear S1 W1 D1 st1 hpl cpl
    walk_at "lw"
    refine g_for1 r0 (by omega) (fun i σ H' => ∃ (c' : Addr → Nat) (ks : List Str) (B : Str → Bl) (ts : List (List Nat)) (v4 v5 v6 : Option V), σ = [some (.ref S), some (.ref p), some (.ref bd), some (.ref pl), v4, v5, v6] ∧ StateAt c' H' S ∧ StoreAt C_Store c' H' p ks B ∧ BelowAt c' H' bd ks B ∧ Stp IFl c c' H H' ∧ c' pl = 3 ∧ H' pl = some (.lst ((ts.map LA).map V.str)) ∧ ts.length = i ∧
      Fl ks B [] ∧ ks.length ≤ i ∧ ∀ t ∈ ts, t ∈ Sw.LT ∧ LA t ∈ ks) ⟨c2, [], B0, [], none, none, none, rfl, S2, W2, D2, st2, cpl2, hpl2, rfl, Fl.zero, Nat.le_refl _, fun t ht => nomatch ht⟩ ?_ ?_
    · clear S2 W2 D2 st2 hpl2 cpl2
      rintro i σ H3 hi ⟨c3, ks, B, ts, v4, v5, v6, rfl, S3, W3, D3, st3, cpl3, hpl3, hti, fl, kl, hts⟩
      obtain ⟨dx0, d0, _, hp3, _⟩ := id W3.ex
      walk_at "lw"
      refine g_tyL hpl3 ?_
      walk_at "lw"
      refine ⟨c3, S, 3, rfl, S3, by decide, by decide, fun t c4 H4 tl tx S4 st4 => ?_⟩
      have tok : okC t := signs8_okC tx
      have tl3 : t.length ≤ 3 := by omega
      have tLT : t ∈ Sw.LT := Sw.mem_LT tl3 tx
      have hpl4 := st4.keep _ _ hpl3 (by rw [cpl3]; decide)
      have cpl4 : c4 pl = 3 := by rw [st4.col _ _ hpl3, cpl3]
      have W4 := W3.frame st4 (by decide)
      have D4 := D3.frame st4 (by decide) (by decide)
      have st4 := st3.trans (st4.mono if0)
      clear S3 W3 D3 st3 hpl3 cpl3 hp3
      walk_at "lw"
      refine ⟨c4, p, ks, B, ⟨.lay, t⟩, rfl, W4, by omega, fun H5 W5 st5 => ?_⟩
      have hpl5 := st5.keep _ _ hpl4 (by rw [cpl4]; decide)
      have S5 := S4.frame st5 (by decide)
      have D5 := D4.frame st5 (by decide) (by decide)
      have st5 := st4.trans (st5.mono if1)
      clear S4 W4 D4 st4 hpl4
      walk_at "lw"
      refine g_append hpl5 (by rw [List.length_map, List.length_map]; omega) fun H6 h6 k6 => ?_
      have h6 : H6 pl = some (.lst (((ts ++ [t]).map LA).map V.str)) := by rw [h6, List.map_append, List.map_append]; rfl
      have st6 : Stp (fun i => i = 3) c4 c4 H5 H6 := Stp.ch hpl5 cpl4 (fun xs z => by cases z) h6 k6
      have S6 := S5.frame st6 (by decide)
      have W6 := W5.frame st6 (by decide)
      have D6 := D5.frame st6 (by decide) (by decide)
      have st6 := st5.own0 npl h6 k6
      clear S5 W5 D5 st5 hpl5 k6
      walk_at "lw"
      refine g_klst (by show 0 ≤ 100; decide) fun q H7 nq s7 hq => ?_
      have st7 : Stp (fun _ => False) c4 (Stp.paint c4 q 9) H6 H7 := L2x_sameN s7 nq
      have S7 := S6.frame st7 (by decide)
      have W7 := W6.frame st7 id
      obtain ⟨A', cbd, hbd, hA⟩ := (D6.frame st7 id id).ex
      have cq : Stp.paint c4 q 9 q = 9 := Stp.paint_same
      have cpl7 : Stp.paint c4 q 9 pl = 3 := by rw [st7.col _ _ h6, cpl4]
      have hpl7 := s7.at h6
      generalize Stp.paint c4 q 9 = c7 at st7 S7 W7 cbd hA cq cpl7
      have st7 := st6.trans (st7.mono ifF')
      clear S6 W6 D6 st6 h6 s7 nq
      walk_at "lw"
      refine g_rix (SqL.of hpl7) (atI_map (atI_map (atI_nat (j := i) (snoc_at (x := t) hti)))) ?_
      walk_at "lw"
      refine g_rdputS hbd (by rw [mkS_len]; omega) fun H8 h8 k8 => ?_
      have r0' : (⟨.lay, t⟩ : Bl).refs = [] := refs_lay rfl
      have D8 := BelowAt.put (b := ⟨.lay, t⟩) cbd hbd hA cq (by rw [r0']; exact hq) h8 k8
      have st8 : Stp (fun i => i = 2) c7 c7 H7 H8 := Stp.ch hbd cbd (fun xs z => by cases z) h8 k8
      walk_at "lw"
      refine ⟨c7, putS ks (LA t), updB B (LA t) ⟨.lay, t⟩, ts ++ [t], _, _, _, rfl, S7.frame st8 (by decide), W7.frame st8 (by decide), D8, st7.trans (st8.mono if2'), cpl7, st8.keep _ _ hpl7 (by rw [cpl7]; decide), by rw [List.length_append, hti]; rfl, fl.lay tl3 tok, Nat.le_trans putS_len (by omega), fun u hu => ?_⟩
      rcases List.mem_append.mp hu with z | z
      · exact ⟨(hts u z).1, mem_putS.mpr (.inl (hts u z).2)⟩
      · rw [List.mem_singleton.mp z]; exact ⟨tLT, mem_putS.mpr (.inr rfl)⟩
    · clear S2 W2 D2 st2 hpl2 cpl2
      rintro σ H3 ⟨c3, ks, B, ts, v4, v5, v6, rfl, S3, W3, D3, st3, cpl3, hpl3, hti, fl, kl, hts⟩
      walk_at "lw"
      refine g_klst (by show 0 ≤ 100; decide) fun pi H4 npi s4 hpi => ?_
      have st4 : Stp (fun _ => False) c3 (Stp.paint c3 pi 3) H3 H4 := L2x_sameN s4 npi
      have npi0 : H pi = none := st3.fre pi npi
      have S4 := S3.frame st4 (by decide)
      have W4 := W3.frame st4 id
      have D4 := D3.frame st4 id id
      have cpi : Stp.paint c3 pi 3 pi = 3 := Stp.paint_same
      have cpl4 : Stp.paint c3 pi 3 pl = 3 := by rw [st4.col _ _ hpl3, cpl3]
      have hpl4 := s4.at hpl3
      have npp : pl ≠ pi := ne_of_none hpl3 npi
      generalize Stp.paint c3 pi 3 = c4 at st4 S4 W4 D4 cpi cpl4
      have st4 := st3.trans (st4.mono ifF')
      clear S3 W3 D3 st3 hpl3 cpl3 s4 npi
      walk_at "lw"
      refine ⟨c4, S, 5, rfl, S4, by decide, by decide, fun rr c5 H5 rr0 rr1 S5 st5 => ?_⟩
      have hpl5 := st5.keep _ _ hpl4 (by rw [cpl4]; decide)
      have cpl5 : c5 pl = 3 := by rw [st5.col _ _ hpl4, cpl4]
      have hpi5 := st5.keep _ _ hpi (by rw [cpi]; decide)
      have cpi5 : c5 pi = 3 := by rw [st5.col _ _ hpi, cpi]
      have W5 := W4.frame st5 (by decide)
      have D5 := D4.frame st5 (by decide) (by decide)
      have st5 := st4.trans (st5.mono if0)
      clear S4 W4 D4 st4 hpl4 cpl4 hpi cpi
      walk_at "lw"
      refine g_for1 rr0 (by omega) (fun i σ H' => ∃ (c' : Addr → Nat) (ks : List Str) (B : Str → Bl) (ims : List (List (List Nat))) (v4 v6 : Option V), σ = [some (.ref S), some (.ref p), some (.ref bd), some (.ref pl), v4, some (.ref pi), v6] ∧ StateAt c' H' S ∧ StoreAt C_Store c' H' p ks B ∧ BelowAt c' H' bd ks B ∧ Stp IFl c c' H H' ∧ c' pl = 3 ∧ H' pl = some (.lst ((ts.map LA).map V.str)) ∧ c' pi = 3 ∧ H' pi = some (.lst ((ims.map fun ts => adrB (imB ts)).map V.str)) ∧ ims.length = i ∧
        Fl ks B [] ∧ ks.length ≤ 5 + i ∧ (∀ t ∈ ts, t ∈ Sw.LT ∧ LA t ∈ ks) ∧ ∀ u ∈ ims, Sw.Good (Sw.Im u) ∧ adrB (imB u) ∈ ks) ⟨c5, ks, B, [], _, _, rfl, S5, W5, D5, st5, cpl5, hpl5, cpi5, hpi5, rfl, fl, by omega, hts, fun t ht => nomatch ht⟩ ?_ ?_
      · clear S5 W5 D5 st5 hpl5 cpl5 hpi5 cpi5 fl kl hts
        rintro i σ H6 hi ⟨c6, ks, B, ims, v4, v6, rfl, S6, W6, D6, st6, cpl6, hpl6, cpi6, hpi6, hii, fl, kl, hts, him⟩
        walk_at "lw"
        refine ⟨c6, S, pl, ts.map LA, 3, rfl, S6, hpl6, by rw [cpl6]; decide, by rw [List.length_map]; omega, by decide, by decide, fun q ys c7 H7 hyl hys S7 st7 hq cq => ?_⟩
        obtain ⟨us, hyu, hus⟩ : ∃ us : List (List Nat), ys = us.map LA ∧ ∀ u ∈ us, u ∈ ts := by
          obtain ⟨us, e, g⟩ := choose_list (F := fun u => V.str (LA u)) (P := fun _ u => u ∈ ts) (ys := ys.map V.str) fun j y hy => by
            obtain ⟨z, hz, rfl⟩ := map_at hy
            obtain ⟨u, hu, e⟩ := List.mem_map.mp (hys z (List.mem_of_getElem? hz))
            exact ⟨u, by rw [e], hu⟩
          refine ⟨us, ?_, fun u hu => ?_⟩
          · have e : ys.map V.str = (us.map LA).map V.str := by rw [e, List.map_map]; rfl
            exact (List.map_inj_right fun a b z => V.str.inj z).mp e
          · obtain ⟨j, hj⟩ := List.getElem?_of_mem hu
            exact g j u hj
        subst hyu
        rw [List.length_map] at hyl
        have hul : us.length ≤ 3 := by omega
        have hq : H7 q = some (.lst ((us.map (adrL "layer")).map strS)) := by rw [hq, List.map_map, List.map_map]; rfl
        have gd := Sw.good hul fun u hu => (hts u (hus u hu)).1
        have hpl7 := st7.keep _ _ hpl6 (by rw [cpl6]; decide)
        have cpl7 : c7 pl = 3 := by rw [st7.col _ _ hpl6, cpl6]
        have hpi7 := st7.keep _ _ hpi6 (by rw [cpi6]; decide)
        have cpi7 : c7 pi = 3 := by rw [st7.col _ _ hpi6, cpi6]
        have W7 := W6.frame st7 (by decide)
        have D7 := D6.frame st7 (by decide) (by decide)
        have st7 := st6.trans (st7.mono if0)
        clear S6 W6 D6 st6 hpl6 cpl6 hpi6 cpi6
        obtain ⟨dx0, d0, _, hp7, _⟩ := id W7.ex
        walk_at "lw"
        refine g_tyL hpi7 ?_
        walk_at "lw"
        refine ⟨q, us.map (adrL "layer"), rfl, hq, by rw [List.length_map]; omega, fun a ha => by rw [adr_len (adrs_ok us a ha)]; decide, fun H8 s8 => ?_⟩
        have hp8 := s8.at hp7
        walk_at "lw"
        refine ⟨c7, p, ks, B, imB us, rfl, W7.same s8, by omega, fun H9 W9 st9 => ?_⟩
        have hpl9 := st9.keep _ _ (s8.at hpl7) (by rw [cpl7]; decide)
        have hpi9 := st9.keep _ _ (s8.at hpi7) (by rw [cpi7]; decide)
        have hq9 := st9.keep _ _ (s8.at hq) (by rw [cq]; decide)
        have S9 := (S7.frame (I := fun _ => False) (Stp.same s8) (by decide)).frame st9 (by decide)
        have D9 := (D7.same s8).frame st9 (by decide) (by decide)
        have st9 := (st7.trans (Stp.same s8)).trans (st9.mono if1)
        clear S7 W7 D7 st7 hpl7 hpi7 s8 hp7 hp8 hq
        walk_at "lw"
        refine g_append hpi9 (by rw [List.length_map, List.length_map]; omega) fun H10 h10 k10 => ?_
        have h10 : H10 pi = some (.lst (((ims ++ [us]).map fun ts => adrB (imB ts)).map V.str)) := by rw [h10, List.map_append, List.map_append]; rfl
        have st10 : Stp (fun i => i = 3) c7 c7 H9 H10 := Stp.ch hpi9 cpi7 (fun xs z => by cases z) h10 k10
        have S10 := S9.frame st10 (by decide)
        have W10 := W9.frame st10 (by decide)
        obtain ⟨A', cbd, hbd, hA⟩ := (D9.frame st10 (by decide) (by decide)).ex
        have hq10 := st10.keep _ _ hq9 (by rw [cq]; decide)
        have hpl10 : H10 pl = _ := (k10 pl npp).trans hpl9
        have st10 := st9.own0 npi0 h10 k10
        clear S9 W9 D9 st9 hpi9 hpl9 hq9 k10
        walk_at "lw"
        refine g_rix (SqL.of h10) (atI_map (atI_map (atI_nat (j := i) (snoc_at (x := us) hii)))) ?_
        walk_at "lw"
        refine g_rdputS hbd (by rw [mkS_len]; omega) fun H11 h11 k11 => ?_
        have D11 := BelowAt.put (b := imB us) cbd hbd hA cq (by rw [imB_refs (by omega)]; exact hq10) h11 k11
        have st11 : Stp (fun i => i = 2) c7 c7 H10 H11 := Stp.ch hbd cbd (fun xs z => by cases z) h11 k11
        walk_at "lw"
        refine ⟨c7, putS ks (adrB (imB us)), updB B (adrB (imB us)) (imB us), ims ++ [us], _, _, rfl, S10.frame st11 (by decide), W10.frame st11 (by decide), D11, st10.trans (st11.mono if2'), cpl7, st11.keep _ _ hpl10 (by rw [cpl7]; decide), cpi7, st11.keep _ _ h10 (by rw [cpi7]; decide), by rw [List.length_append, hii]; rfl, fl.img hul fun u hu => hts u (hus u hu), Nat.le_trans putS_len (by omega), fun t ht => ⟨(hts t ht).1, mem_putS.mpr (.inl (hts t ht).2)⟩, fun u hu => ?_⟩
        rcases List.mem_append.mp hu with z | z
        · exact ⟨(him u z).1, mem_putS.mpr (.inl (him u z).2)⟩
        · rw [List.mem_singleton.mp z]; exact ⟨gd, mem_putS.mpr (.inr rfl)⟩
      · clear S5 W5 D5 st5 hpl5 cpl5 hpi5 cpi5 fl kl hts
        rintro σ H6 ⟨c6, ks, B, ims, v4, v6, rfl, S6, W6, D6, st6, cpl6, hpl6, cpi6, hpi6, hii, fl, kl, hts, him⟩
        walk_at "lw"
        refine ⟨c6, S, 3, rfl, S6, by decide, by decide, fun r3 c7 H7 r30 r31 S7 st7 => ?_⟩
        have hpi7 := st7.keep _ _ hpi6 (by rw [cpi6]; decide)
        have cpi7 : c7 pi = 3 := by rw [st7.col _ _ hpi6, cpi6]
        have W7 := W6.frame st7 (by decide)
        have D7 := D6.frame st7 (by decide) (by decide)
        have st7 := st6.trans (st7.mono if0)
        clear S6 W6 D6 st6 hpl6 cpl6 hpi6 cpi6
        walk_at "lw"
        refine g_for1 r30 (by omega) (fun i σ H' => ∃ (c' : Addr → Nat) (ks : List Str) (B : Str → Bl) (bs : List Nat) (v4 v6 : Option V), σ = [some (.ref S), some (.ref p), some (.ref bd), some (.ref pl), v4, some (.ref pi), v6] ∧ StateAt c' H' S ∧ StoreAt C_Store c' H' p ks B ∧ BelowAt c' H' bd ks B ∧ Stp IFl c c' H H' ∧ c' pi = 3 ∧ H' pi = some (.lst ((ims.map fun ts => adrB (imB ts)).map V.str)) ∧
          Fl ks B bs ∧ bs.length ≤ i ∧ ks.length ≤ 9 + i ∧ ∀ u ∈ ims, Sw.Good (Sw.Im u) ∧ adrB (imB u) ∈ ks) ⟨c7, ks, B, [], _, _, rfl, S7, W7, D7, st7, cpi7, hpi7, fl, Nat.le_refl _, by omega, him⟩ ?_ ?_
        · clear S7 W7 D7 st7 hpi7 cpi7 fl kl hts him
          rintro i σ H8 hi ⟨c8, ks, B, bs, v4, v6, rfl, S8, W8, D8, st8, cpi8, hpi8, fl, bl, kl, him⟩
          walk_at "lw"
          refine ⟨c8, S, pi, ims.map fun ts => adrB (imB ts), 1, rfl, S8, hpi8, by rw [cpi8]; decide, by rw [List.length_map]; omega, by decide, by decide, fun q ys c9 H9 hyl hys S9 st9 hq cq => ?_⟩
          have hpi9 := st9.keep _ _ hpi8 (by rw [cpi8]; decide)
          have cpi9 : c9 pi = 3 := by rw [st9.col _ _ hpi8, cpi8]
          have W9 := W8.frame st9 (by decide)
          have D9 := D8.frame st9 (by decide) (by decide)
          have st9 := st8.trans (st9.mono if0)
          clear S8 W8 D8 st8 hpi8 cpi8
          obtain ⟨dx0, d0, _, hp9, _⟩ := id W9.ex
          walk_at "lw"
          refine if2 (fun he => ?_) (fun he => ?_)
          · obtain ⟨y, rfl⟩ : ∃ y, ys = [y] := by
              have := int_eq.mp he
              rw [List.length_map] at this
              exact List.length_eq_one_iff.mp (by omega)
            obtain ⟨u, hu, rfl⟩ := List.mem_map.mp (hys y List.mem_cons_self)
            obtain ⟨gu, ku⟩ := him u hu
            have hy : adrB (imB u) = nS (Sw.Im u) := by rw [adrB_nS, show adrN (imB u).k.s (imB u).t = Sw.Im u from im_N u]
            simp only [hy] at ku hq
            have xl := im_lt u
            generalize Sw.Im u = x at gu ku hq xl
            walk_at "lw"
            refine g_rix (SqL.of hq) (atI_nat (j := 0) rfl) ?_
            walk_at "lw"
            refine g_ktup (by show 2 ≤ 100; decide) fun t4 H10 nt4 s10 ht4 => ?_
            walk_at "lw"
            refine g_klst (by show 1 ≤ 100; decide) fun q5 H11 nq5 s11 hq5 => ?_
            walk_at "lw"
            refine ⟨q5, [(t4, millL, Sw.hx 16 x)], rfl, hq5, fun e he => ?_, by show 1 ≤ 100; decide, fun e he => ?_, fun H12 s12 => ?_⟩
            · rw [List.mem_singleton.mp he]
              exact s11.at ht4
            · rw [List.mem_singleton.mp he]
              show millL.length + (Sw.hx 16 x).length ≤ 1000
              rw [Sw.hx_len]; decide
            have s12 := s10.trans (s11.trans s12)
            have hp12 := s12.at hp9
            walk_at "lw"
            refine ⟨c9, p, ks, B, buB x, rfl, W9.same s12, by omega, fun H13 W13 st13 => ?_⟩
            have hpi13 := st13.keep _ _ (s12.at hpi9) (by rw [cpi9]; decide)
            have hq13 := st13.keep _ _ (s12.at hq) (by rw [cq]; decide)
            have S13 := (S9.frame (I := fun _ => False) (Stp.same s12) (by decide)).frame st13 (by decide)
            obtain ⟨A', cbd, hbd, hA⟩ := ((D9.same s12).frame st13 (by decide) (by decide)).ex
            have st13 := (st9.trans (Stp.same s12)).trans (st13.mono if1)
            walk_at "lw"
            refine g_rdputS hbd (by rw [mkS_len]; omega) fun H14 h14 k14 => ?_
            have D14 := BelowAt.put (b := buB x) cbd hbd hA cq (by rw [buB_refs xl]; exact hq13) h14 k14
            have st14 : Stp (fun i => i = 2) c9 c9 H13 H14 := Stp.ch hbd cbd (fun xs z => by cases z) h14 k14
            walk_at "lw"
            exact ⟨c9, putS ks (adrB (buB x)), updB B (adrB (buB x)) (buB x), x :: bs, _, _, rfl, S13.frame st14 (by decide), W13.frame st14 (by decide), D14, st13.trans (st14.mono if2'), cpi9, st14.keep _ _ hpi13 (by rw [cpi9]; decide), fl.bun gu xl ku, by show bs.length + 1 ≤ i + 1; omega, Nat.le_trans putS_len (by omega), fun u hu => ⟨(him u hu).1, mem_putS.mpr (.inl (him u hu).2)⟩⟩
          · walk_at "lw"
            exact ⟨c9, ks, B, bs, _, _, rfl, S9, W9, D9, st9, cpi9, hpi9, fl, by omega, by omega, him⟩
        · clear S7 W7 D7 st7 hpi7 cpi7 fl kl hts him
          rintro σ H8 ⟨c8, ks, B, bs, v4, v6, rfl, S8, W8, D8, st8, cpi8, hpi8, fl, bl, kl, him⟩
          walk_at "lw"
          exact k c8 H8 ks B bs fl (by omega) (by omega) W8 D8 S8 st8
end
end Lw

/-! ## the law's closure, its step -/
namespace Lw
open PySem L2
open PyProof.Rows (envOfC sortedS)
theorem filt_addD : ∀ {l f : List Str}, l.Nodup → l.foldl addD f = f ++ l.filter fun y => decide (y ∉ f)
  | [], f, _ => by simp
  | x :: l, f, h => by
    rw [List.nodup_cons] at h
    rw [List.foldl_cons, filt_addD h.2]
    unfold addD
    by_cases hx : x ∈ f
    · rw [if_pos hx, List.filter_cons_of_neg (by simp [hx])]
    · rw [if_neg hx, List.filter_cons_of_pos (by simp [hx]), List.append_assoc]
      congr 1
      show x :: _ = x :: _
      congr 1
      refine List.filter_congr fun y hy => ?_
      have : y ≠ x := fun e => h.1 (by rw [← e]; exact hy)
      simp [this]
def spLClo (n : Nat) : Sp := fun vs H Q _ => ∃ (c : Addr → Nat) (bd : Addr) (kb : List Str) (B : Str → Bl) (a : Str), vs = [.ref bd, .str a] ∧ BelowAt c H bd kb B ∧ (∀ a ∈ kb, (B a).refs.length ≤ 3) ∧ kb.length ≤ 1000 ∧ wk kb B (n + 1) a = true ∧
  ∀ r H', Same H H' → H' r = some (.lst ((clo B n a).map V.str)) → Q (.ref r) H'
def LCloC (n : Nat) (sp : Sp) : Prop := ∀ (c : Addr → Nat) (H : Hp) (Q : VK) (bd : Addr) (kb : List Str) (B : Str → Bl) (a : Str), BelowAt c H bd kb B → (∀ a ∈ kb, (B a).refs.length ≤ 3) → kb.length ≤ 1000 → wk kb B n a = true → (∀ r H', Same H H' → H' r = some (.lst ((clo B (n - 1) a).map V.str)) → Q (.ref r) H') → sp [.ref bd, .str a] H Q E0
def spLIs (C : Addr) : Sp := fun vs H Q _ => ∃ (c : Addr → Nat) (p bd : Addr) (ks kb : List Str) (B : Str → Bl) (a : Str), vs = [.ref p, .ref bd, .str a] ∧ StoreAt C c H p ks B ∧ ks.length ≤ 1000 ∧ BelowAt c H bd kb B ∧ (∀ a ∈ kb, (B a).refs.length ≤ 3) ∧ kb.length ≤ 1000 ∧ wk kb B 4 a = true ∧ (∀ x ∈ ks, x ∈ kb) ∧
  ∀ H', Same H H' → Q (.bl (wk ks B 4 a)) H'
section
variable {P : Program} {w : World} {K : PySem.W.Frag} {mg : Str → Option Value} {base : Heap} {C_Collector C_Store C_Refused C_Malformed a_KINDS : Addr}
theorem lclo_step (T : Txt w K mg C_Collector C_Store C_Refused C_Malformed a_KINDS) {n k' j : Nat} {sp' : Sp} (hk : k' ≤ j) (c__law_closure : Cal P w K mg base k' "_law_closure" sp') (hs : LCloC n sp') : Cal P w K mg base (j + 1) "_law_closure" (spLClo n) := by
  refine cal_mk T.d__law_closure sc__law_closure (fun vs H Q E h => ?_) (fun f cdv A outer s H vs Q E hr h => ?_)
  · obtain ⟨c, bd, kb, B, a, rfl, _⟩ := h
    rfl
  · obtain ⟨c, bd, kb, B, a, rfl, D, hr3, hkb, hw, k⟩ := h
    have hu := hu_of hr
    obtain ⟨A', cbd, hbd, hA⟩ := id D.ex
    have ha := wk_in hw
    have rl := hr3 a ha
    refine ⟨_, (pss_cons (ps_set (i := 2) sc__law_closure.nd rfl (by first | exact Or.inl rfl | exact Or.inr rfl) (pe_lst (pa_cons (pv 1) pa_nil)))
      (pss_cons (ps_for PassesOwn.never rfl (pi_list (pe_dget hu (pv 0) (pv 1) (fun _ _ => rfl))) (pg_name (i := 3) sc__law_closure.nd rfl (by first | exact Or.inl rfl | exact Or.inr rfl)) (pss_one (ps_set (i := 2) sc__law_closure.nd rfl (by first | exact Or.inl rfl | exact Or.inr rfl) (pe_op op_cat (pv 2) (pe_lc (own := [("_law_inner", 4)]) (g := (gName 4)) (by rfl) sc__law_closure.nd (pi_list (pe_c c__law_closure hr (by first | decide | omega) rfl (pa_cons (pv 0) (pa_cons (pv 3) pa_nil)))) (blkOk_by (own := [("_law_inner", 4)]) (N := n__law_closure) (sc := defScope s__law_closure) (by decide +kernel)) (fun _ _ _ _ _ => (pg_name (i := 4) sc__law_closure.nd rfl (by first | exact Or.inl rfl | exact Or.inr rfl))) (fun _ _ _ _ _ => (pts_one (pt_cmpR (op_notInK K rfl) (pv 4) (pv 2) (by rfl)))) (fun _ _ _ _ _ => (pv 4)))))))
      (pss_one (ps_ret (pv 2))))), ?_⟩
    walk_at "lw"
    refine g_klst (by show 1 ≤ 100; decide) fun q H1 nq s1 hq => ?_
    walk_at "lw"
    refine g_rdgetS (.of (s1.at hbd)) (by rw [valV_mkS, if_pos ha]) ?_
    walk_at "lw"
    have hal := s1.at (hA a ha).2
    refine g_ritL (SqL.of hal) ?_
    refine for_at (G := fun H' => SqL K H' (A' a) ((B a).refs.map strS)) walk_list (fun i σ H' => Same H1 H' ∧ ∃ (q : Addr) (v3 v4 : Option V), σ = [some (.ref bd), some (.str a), some (.ref q), v3, v4] ∧ H' q = some (.lst ((((B a).refs.take i).foldl (fun f y => (clo B (n - 1) (SX.S y)).foldl addD f) [a]).map V.str)) ∧
      (((B a).refs.take i).foldl (fun f y => (clo B (n - 1) (SX.S y)).foldl addD f) [a]).Nodup ∧ ∀ x ∈ ((B a).refs.take i).foldl (fun f y => (clo B (n - 1) (SX.S y)).foldl addD f) [a], x ∈ kb) ⟨Same.refl _, q, none, none, rfl, hq, by simp, fun x hx => by rw [List.mem_singleton.mp hx]; exact ha⟩ (fun i σ H' h => SqL.of (h.1.at hal)) ?_ ?_
    · rintro i x σ H2 hx ⟨s2, q, v3, v4, rfl, hq, hnd, hin⟩
      obtain ⟨y, hy, rfl⟩ := map_at hx
      have q3 := wk_ref hw y (List.mem_of_getElem? hy)
      have hn1 : n - 1 + 1 = n := by
        cases n with
        | zero => cases q3
        | succ n => rfl
      have s12 := s1.trans s2
      rw [take_ok hy, List.foldl_append]
      show (gName 3) _ _ _ _
      generalize hfo : ((B a).refs.take i).foldl (fun f y => (clo B (n - 1) (SX.S y)).foldl addD f) [a] = fo at hq hnd hin
      walk_at "lw"
      refine hs c H2 _ bd kb B (SX.S y) (D.same s12) hr3 hkb q3 fun r H3 s3 hr => ?_
      have hcl : (clo B (n - 1) (SX.S y)).length ≤ kb.length := few_len (clo_nd _ _ _) (clo_wk (n := n - 1) (by rw [hn1]; exact q3))
      refine g_ritL (SqL.of hr) ?_
      refine lc_map (G := fun H' => SqL K H' r ((clo B (n - 1) (SX.S y)).map V.str)) walk_list (fun H' s => SqL.of (s.at hr)) (by rw [List.length_map]; omega) (fun v => match v with | .str z => decide (z ∉ fo) | _ => false) (fun v => v) ?_ ?_
      · intro x hx H' R s4 kk
        obtain ⟨z, hz, rfl⟩ := List.mem_map.mp hx
        walk_at "lw"
        refine kk _ rfl (fun H'' R s5 r => ?_) (fun _ H'' R s5 r => ?_)
        · walk_at "lw"
          refine ⟨q, fo.map V.str, rfl, .inl (SqL.of (s5.at (s3.at hq))), rfl, flat_str _, ?_⟩
          rw [inV_str]
          have e : (!decide (z ∈ fo)) = decide (z ∉ fo) := by by_cases q : z ∈ fo <;> simp [q]
          refine ⟨_, rfl, ?_⟩
          show R (!decide (z ∈ fo)) H''
          rw [e]
          exact r
        · walk_at "lw"
          exact r _ (Same.refl _)
      intro q2 H4 nq2 s4 hq2
      rw [List.filter_map, List.map_id'] at hq2
      have hq2 : H4 q2 = some (.lst (((clo B (n - 1) (SX.S y)).filter fun z => decide (z ∉ fo)).map V.str)) := hq2
      have hfl := List.length_filter_le (fun z => decide (z ∉ fo)) (clo B (n - 1) (SX.S y))
      have hfo2 := few_len hnd hin
      walk_at "lw"
      refine g_cat (s4.at (s3.at hq)) hq2 (by rw [List.length_map, List.length_map]; omega) fun q5 H5 nq5 s5 hq5 => ?_
      walk_at "lw"
      refine ⟨s2.trans (s3.trans (s4.trans s5)), q5, _, _, rfl, ?_, foldl_addD_nd hnd, fun x hx => ?_⟩
      · rw [hq5, ← List.map_append]
        show _ = some (HO.lst (List.map V.str ((clo B (n - 1) (SX.S y)).foldl addD fo)))
        rw [filt_addD (clo_nd _ _ _)]
      · rcases mem_foldl_addD.mp hx with z | z
        · exact hin x z
        · exact clo_wk (n := n - 1) (by rw [hn1]; exact q3) x z
    · rintro σ H2 ⟨s2, q, v3, v4, rfl, hq, hnd, hin⟩
      rw [List.length_map, List.take_length] at hq
      walk_at "lw"
      refine k q H2 (s1.trans s2) ?_
      rw [hq]
      cases n with
      | zero =>
        have e : (B a).refs = [] := by
          cases hr : (B a).refs with
          | nil => rfl
          | cons y ys =>
            have := wk_ref hw y (by rw [hr]; exact List.mem_cons_self)
            cases this
        rw [e]
        rfl
      | succ n => rfl
theorem no_lclo (T : Txt w K mg C_Collector C_Store C_Refused C_Malformed a_KINDS) : Cal P w K mg base 1 "_law_closure" (fun _ _ _ _ => False) :=
  cal_mk T.d__law_closure sc__law_closure (fun vs H Q E h => h.elim) (fun f cdv A outer s H vs Q E hr h => h.elim)
theorem ok__law_closure (T : Txt w K mg C_Collector C_Store C_Refused C_Malformed a_KINDS) : Cal P w K mg base 5 "_law_closure" (spLClo 3) := by
  have t0 : Cal P w K mg base 2 "_law_closure" (spLClo 0) := lclo_step T (j := 1) (by decide) (no_lclo T) (fun c H Q bd kb B a _ _ _ h _ => by cases h)
  have t1 : Cal P w K mg base 3 "_law_closure" (spLClo 1) := lclo_step T (j := 2) (by decide) t0 (fun c H Q bd kb B a D r3 kl h k => ⟨c, bd, kb, B, a, rfl, D, r3, kl, h, k⟩)
  have t2 : Cal P w K mg base 4 "_law_closure" (spLClo 2) := lclo_step T (j := 3) (by decide) t1 (fun c H Q bd kb B a D r3 kl h k => ⟨c, bd, kb, B, a, rfl, D, r3, kl, h, k⟩)
  exact lclo_step T (j := 4) (by decide) t2 (fun c H Q bd kb B a D r3 kl h k => ⟨c, bd, kb, B, a, rfl, D, r3, kl, h, k⟩)
theorem ok__law_is_whole (T : Txt w K mg C_Collector C_Store C_Refused C_Malformed a_KINDS) : Cal P w K mg base 6 "_law_is_whole" (spLIs C_Store) := by
  have c__law_closure : Cal P w K mg base 5 "_law_closure" (spLClo 3) := ok__law_closure T
  have t_Store_addresses : Met P w K mg base 1 C_Store "addresses" (spAdrs C_Store) := ok_Store_addresses T
  refine cal_mk T.d__law_is_whole sc__law_is_whole (fun vs H Q E h => ?_) (fun f cdv A outer s H vs Q E hr h => ?_)
  · obtain ⟨c, p, bd, ks, kb, B, a, rfl, _⟩ := h
    rfl
  · obtain ⟨c, p, bd, ks, kb, B, a, rfl, W, kl, D, r3, kbl, hw, hsub, k⟩ := h
    have hu := hu_of hr
    obtain ⟨_, _, _, hp, _⟩ := id W.ex
    refine ⟨_, (pss_cons (ps_set (i := 3) sc__law_is_whole.nd rfl (by first | exact Or.inl rfl | exact Or.inr rfl) (pe_mt0 t_Store_addresses hr (by first | decide | omega) (pv 0)))
      (pss_one (ps_ret (pe_cmpR op_eq (pe_callB call_len_seq' (by rfl) T.n_len (by decide +kernel) (pa_cons (pe_lc (own := [("_law_other", 4)]) (g := (gName 4)) (by rfl) sc__law_is_whole.nd (pi_list (pe_c c__law_closure hr (by first | decide | omega) rfl (pa_cons (pv 1) (pa_cons (pv 2) pa_nil)))) (blkOk_by (own := [("_law_other", 4)]) (N := n__law_is_whole) (sc := defScope s__law_is_whole) (by decide +kernel)) (fun _ _ _ _ _ => (pg_name (i := 4) sc__law_is_whole.nd rfl (by first | exact Or.inl rfl | exact Or.inr rfl))) (fun _ _ _ _ _ => (pts_one (pt_cmpR (op_notInK K rfl) (pv 4) (pv 3) (by rfl)))) (fun _ _ _ _ _ => (pv 4))) pa_nil)) (pe_int) (nomark _))))), ?_⟩
    walk_at "lw"
    refine ⟨c, p, ks, B, rfl, W, by omega, fun ys r H1 pe so s1 hr1 => ?_⟩
    walk_at "lw"
    refine ⟨c, bd, kb, B, a, rfl, D.same s1, r3, kbl, hw, fun q H2 s2 hq => ?_⟩
    have hcl : (clo B 3 a).length ≤ kb.length := few_len (clo_nd _ _ _) (clo_wk hw)
    refine g_ritL (SqL.of hq) ?_
    refine lc_map (G := fun H' => SqL K H' q ((clo B 3 a).map V.str)) walk_list (fun H' s => SqL.of (s.at hq)) (by rw [List.length_map]; omega) (fun v => match v with | .str z => decide (z ∉ ys) | _ => false) (fun v => v) ?_ ?_
    · intro x hx H' R s4 kk
      obtain ⟨z, hz, rfl⟩ := List.mem_map.mp hx
      walk_at "lw"
      refine kk _ rfl (fun H'' R s5 r2 => ?_) (fun _ H'' R s5 r2 => ?_)
      · walk_at "lw"
        refine ⟨r, ys.map V.str, rfl, .inl (SqL.of (s5.at (s2.at hr1))), rfl, flat_str _, ?_⟩
        rw [inV_str]
        have e : (!decide (z ∈ ys)) = decide (z ∉ ys) := by by_cases q : z ∈ ys <;> simp [q]
        refine ⟨_, rfl, ?_⟩
        show R (!decide (z ∈ ys)) H''
        rw [e]
        exact r2
      · walk_at "lw"
        exact r2 _ (Same.refl _)
    intro q2 H4 nq2 s4 hq2
    rw [List.filter_map, List.map_id'] at hq2
    have hq2 : H4 q2 = some (.lst (((clo B 3 a).filter fun z => decide (z ∉ ys)).map V.str)) := hq2
    walk_at "lw"
    have e : decide (V.int (((clo B 3 a).filter fun z => decide (z ∉ ys)).map V.str).length = V.int 0) = wk ks B 4 a := by
      rw [Bool.eq_iff_iff, decide_eq_true_eq, int_eq, List.length_map]
      constructor
      · intro h
        have h : ((clo B 3 a).filter fun z => decide (z ∉ ys)) = [] := List.length_eq_zero_iff.mp (by omega)
        rw [List.filter_eq_nil_iff] at h
        refine wk_of hw fun y hy => pe.subset ?_
        have := h y hy
        simpa using this
      · intro h
        have : ((clo B 3 a).filter fun z => decide (z ∉ ys)) = [] := by
          rw [List.filter_eq_nil_iff]
          intro y hy
          have := pe.symm.subset (clo_wk h y hy)
          simpa using this
        rw [this]
        rfl
    rw [e]
    exact k H4 (s1.trans (s2.trans s4))
end
end Lw

/-! ## the law's step -/
namespace Lw
open PySem L2
open PyProof.Rows (envOfC sortedS)
theorem g_glst {K : PySem.W.Frag} {σ : L2.St} {H : Hp} {a : Addr} {xs : List V} {n : Nat} {u : TGs} {Q : L2.St → Hp → Prop} (h : SqL K H a xs) (hn : xs.length = n) (k : u xs σ H Q) : gLst K n u (.ref a) σ H Q := ⟨a, xs, rfl, h, hn, k⟩
theorem cstep_det {rs : List Str} {s s1 s2 : Rg} {w1 w2 : Str} (a : CStep rs s s1 w1) (b : CStep rs s s2 w2) : s1 = s2 ∧ w1 = w2 := by
  have im : ¬ ("idle" : Str) = "mark" := by decide +kernel
  have is : ¬ ("idle" : Str) = "sweep" := by decide +kernel
  have ms : ¬ ("mark" : Str) = "sweep" := by decide +kernel
  cases a with
  | begin h =>
    cases b with
    | begin h2 => exact ⟨rfl, rfl⟩
    | turn ys h2 ht hp hs => rw [h] at h2; exact absurd h2 im
    | mark a t h2 ht hm => rw [h] at h2; exact absurd h2 im
    | skip a t h2 ht hm => rw [h] at h2; exact absurd h2 im
    | fin h2 ht => rw [h] at h2; exact absurd h2 is
    | drop a t h2 ht hm => rw [h] at h2; exact absurd h2 is
    | leave a t h2 ht hm => rw [h] at h2; exact absurd h2 is
  | turn ys h ht hp hs =>
    cases b with
    | begin h2 => rw [h2] at h; exact absurd h im
    | turn ys2 h2 ht2 hp2 hs2 =>
      rw [str_sorted_eq (hp.trans hp2.symm) hs hs2]
      exact ⟨rfl, rfl⟩
    | mark a t h2 ht2 hm => rw [ht] at ht2; cases ht2
    | skip a t h2 ht2 hm => rw [ht] at ht2; cases ht2
    | fin h2 _ => rw [h] at h2; exact absurd h2 ms
    | drop a t h2 _ hm => rw [h] at h2; exact absurd h2 ms
    | leave a t h2 _ hm => rw [h] at h2; exact absurd h2 ms
  | mark a t h ht hm =>
    cases b with
    | begin h2 => rw [h2] at h; exact absurd h im
    | turn ys2 h2 ht2 hp2 hs2 => rw [ht] at ht2; cases ht2
    | mark a2 t2 h2 ht2 hm2 => rw [ht] at ht2; cases ht2; exact ⟨rfl, rfl⟩
    | skip a2 t2 h2 ht2 hm2 => rw [ht] at ht2; cases ht2; exact absurd hm2 hm
    | fin h2 _ => rw [h] at h2; exact absurd h2 ms
    | drop a t h2 _ hm => rw [h] at h2; exact absurd h2 ms
    | leave a t h2 _ hm => rw [h] at h2; exact absurd h2 ms
  | skip a t h ht hm =>
    cases b with
    | begin h2 => rw [h2] at h; exact absurd h im
    | turn ys2 h2 ht2 hp2 hs2 => rw [ht] at ht2; cases ht2
    | mark a2 t2 h2 ht2 hm2 => rw [ht] at ht2; cases ht2; exact absurd hm hm2
    | skip a2 t2 h2 ht2 hm2 => rw [ht] at ht2; cases ht2; exact ⟨rfl, rfl⟩
    | fin h2 _ => rw [h] at h2; exact absurd h2 ms
    | drop a t h2 _ hm => rw [h] at h2; exact absurd h2 ms
    | leave a t h2 _ hm => rw [h] at h2; exact absurd h2 ms
  | fin h ht =>
    cases b with
    | begin h2 => rw [h2] at h; exact absurd h is
    | turn ys2 h2 _ hp2 hs2 => rw [h2] at h; exact absurd h ms
    | mark a2 t2 h2 _ hm2 => rw [h2] at h; exact absurd h ms
    | skip a2 t2 h2 _ hm2 => rw [h2] at h; exact absurd h ms
    | fin h2 _ => exact ⟨rfl, rfl⟩
    | drop a t h2 ht2 hm => rw [ht] at ht2; cases ht2
    | leave a t h2 ht2 hm => rw [ht] at ht2; cases ht2
  | drop a t h ht hm =>
    cases b with
    | begin h2 => rw [h2] at h; exact absurd h is
    | turn ys2 h2 _ hp2 hs2 => rw [h2] at h; exact absurd h ms
    | mark a2 t2 h2 _ hm2 => rw [h2] at h; exact absurd h ms
    | skip a2 t2 h2 _ hm2 => rw [h2] at h; exact absurd h ms
    | fin h2 ht2 => rw [ht] at ht2; cases ht2
    | drop a t h2 ht2 hm => rw [ht] at ht2; cases ht2; exact ⟨rfl, rfl⟩
    | leave a t h2 ht2 hm2 => rw [ht] at ht2; cases ht2; exact absurd hm2 hm
  | leave a t h ht hm =>
    cases b with
    | begin h2 => rw [h2] at h; exact absurd h is
    | turn ys2 h2 _ hp2 hs2 => rw [h2] at h; exact absurd h ms
    | mark a2 t2 h2 _ hm2 => rw [h2] at h; exact absurd h ms
    | skip a2 t2 h2 _ hm2 => rw [h2] at h; exact absurd h ms
    | fin h2 ht2 => rw [ht] at ht2; cases ht2
    | drop a t h2 ht2 hm2 => rw [ht] at ht2; cases ht2; exact absurd hm hm2
    | leave a t h2 ht2 hm => rw [ht] at ht2; cases ht2; exact ⟨rfl, rfl⟩
/-- what the law keeps of the collector: three lists; of the store: its addresses -/
structure LvAt (c : Addr → Nat) (H : Hp) (ll bl : Addr) (ml bls : List Str) (s : Rg) : Prop where
  ex : ∃ l0 l1 l2 : Addr, c ll = 9 ∧ H ll = some (.lst [.ref l0, .ref l1, .ref l2]) ∧ c l0 = 9 ∧ H l0 = some (.lst (s.td.map V.str)) ∧ c l1 = 9 ∧ H l1 = some (.lst (ml.map V.str)) ∧ c l2 = 9 ∧ H l2 = some (.lst (s.dm.map V.str)) ∧ c bl = 9 ∧ H bl = some (.lst (bls.map V.str))
/-- .. and its lists are the collector's -/
structure Lv (n : Nat) (l b : List Str) (r : Rg) : Prop where
  e : ∀ y, y ∈ l ↔ y ∈ r.mr
  n : l.length ≤ 40 * n
  p : b.Perm r.ks
  s : sortedS b = true
theorem sorted_filter {l : List Str} (h : sortedS l = true) (p : Str → Bool) : sortedS (l.filter p) = true := by
  refine PyProof.Rows.sortedS_of_pairwise _ (((sortedS_pw l h).filter p).imp fun {a b} g => ?_)
  rw [PyProof.Rows.ltCps_eq, decide_eq_false_iff_not, List.not_lt]
  exact g
theorem cut_drop {xs : List V} : cutV xs (some 1) none = xs.drop 1 := by
  unfold cutV
  rw [HT.sIx_none, show (some (1 : Int)) = some ((1 : Nat) : Int) from rfl, HT.sIx_nat]
  cases xs with
  | nil => rfl
  | cons x r =>
    have e : min 1 (x :: r).length = 1 := by rw [List.length_cons]; omega
    rw [e, List.take_of_length_le (by rw [List.length_drop]; exact Nat.le_refl _)]
/-- new places are of colour 9 -/
def c9 (c : Addr → Nat) (H : Hp) : Addr → Nat := fun b => match H b with | none => 9 | some _ => c b
theorem c9_new {c : Addr → Nat} {H : Hp} {b : Addr} (h : H b = none) : c9 c H b = 9 := by unfold c9; rw [h]
theorem c9_old {c : Addr → Nat} {H : Hp} {b : Addr} {o : HO} (h : H b = some o) : c9 c H b = c b := by unfold c9; rw [h]
theorem c9_stp {c : Addr → Nat} {H H' : Hp} (s : Same H H') : Stp (fun _ => False) c (c9 c H) H H' := Stp.sameC s fun b o e => c9_old e
theorem LvAt.frame {I : Nat → Prop} {c c' : Addr → Nat} {H H' : Hp} {ll bl : Addr} {ml bls : List Str} {s : Rg} (h : LvAt c H ll bl ml bls s) (st : Stp I c c' H H') (h9 : ¬ I 9) : LvAt c' H' ll bl ml bls s := by
  obtain ⟨l0, l1, l2, a1, a2, a3, a4, a5, a6, a7, a8, a9, a10⟩ := h.ex
  have f : ∀ {b : Addr} {o : HO}, c b = 9 → H b = some o → c' b = 9 ∧ H' b = some o := fun e1 e2 => ⟨by rw [st.col _ _ e2, e1], st.keep _ _ e2 (by rw [e1]; exact h9)⟩
  exact ⟨l0, l1, l2, (f a1 a2).1, (f a1 a2).2, (f a3 a4).1, (f a3 a4).2, (f a5 a6).1, (f a5 a6).2, (f a7 a8).1, (f a7 a8).2, (f a9 a10).1, (f a9 a10).2⟩
def spLStep : Sp := fun vs H Q _ => ∃ (c : Addr → Nat) (ll bl bd rt : Addr) (kb rts ml bls : List Str) (s : Rg) (m : Nat), vs = [.str s.ph, .ref ll, .ref bl, .ref bd, .ref rt] ∧ LvAt c H ll bl ml bls s ∧ Lv m ml bls s ∧ BelowAt c H bd kb s.B ∧ H rt = some (.lst (rts.map V.str)) ∧ JR kb m rts s ∧ m ≤ 300 ∧
  ∀ (c' : Addr → Nat) (H' : Hp) (t ll' bl' : Addr) (ml' bls' : List Str) (s' : Rg) (w : Str), CStep rts s s' w → LvAt c' H' ll' bl' ml' bls' s' → Lv (m + 1) ml' bls' s' → Stp (fun _ => False) c c' H H' → H' t = some (.tup [.str w, .str s'.ph, .ref ll', .ref bl']) → Q (.ref t) H'
section
variable {P : Program} {w : World} {K : PySem.W.Frag} {mg : Str → Option Value} {base : Heap} {C_Collector C_Store C_Refused C_Malformed a_KINDS : Addr}
/-- three lists are laid: the paints -/
theorem ok__law_step (T : Txt w K mg C_Collector C_Store C_Refused C_Malformed a_KINDS) : Cal P w K mg base 1 "_law_step" spLStep := by
  refine cal_mk T.d__law_step sc__law_step (fun vs H Q E h => ?_) (fun f cdv A outer s H vs Q E hr h => ?_)
  · obtain ⟨c, ll, bl, bd, rt, kb, rts, ml, bls, s, m, rfl, _⟩ := h
    rfl
  · obtain ⟨c, ll, bl, bd, rt, kb, rts, ml, bls, s', m, rfl, L, V0, D, hrt, j, hm, k⟩ := h
    have hu := hu_of hr
    obtain ⟨l0, l1, l2, a1, a2, a3, a4, a5, a6, a7, a8, a9, a10⟩ := L.ex
    refine ⟨_, (pss_cons (ps_asg (pv 1) (pg_lst (by rfl) (pgs_cons (pg_name (i := 5) sc__law_step.nd rfl (by first | exact Or.inl rfl | exact Or.inr rfl)) (pgs_cons (pg_name (i := 6) sc__law_step.nd rfl (by first | exact Or.inl rfl | exact Or.inr rfl)) (pgs_cons (pg_name (i := 7) sc__law_step.nd rfl (by first | exact Or.inl rfl | exact Or.inr rfl)) pgs_nil)))))
      (pss_cons (ps_if (pt_cmpR op_eq (pv 0) (pe_str) (nomark _)) (pss_one (ps_ret (pe_tup (pa_cons (pe_str) (pa_cons (pe_str) (pa_cons (pe_lst (pa_cons (pe_callTy call_list_of (by rfl) T.n_list (by decide +kernel) (pa_cons (pv 4) pa_nil)) (pa_cons (pe_lst pa_nil) (pa_cons (pe_lst pa_nil) pa_nil)))) (pa_cons (pv 2) pa_nil))))))) pss_nil)
      (pss_cons (ps_if (PW.pt (pw_and (pt_cmpR op_eq (pv 0) (pe_str) (nomark _)) (pw_and1 (pt_cmpR op_eq (pe_callB call_len_seq' (by rfl) T.n_len (by decide +kernel) (pa_cons (pv 5) pa_nil)) (pe_int) (nomark _))))) (pss_one (ps_ret (pe_tup (pa_cons (pe_str) (pa_cons (pe_str) (pa_cons (pe_lst (pa_cons (pe_lst pa_nil) (pa_cons (pv 6) (pa_cons (pe_callB cr_sortedSA (by rfl) T.n_sorted (by decide +kernel) (pa_cons (pe_lc (own := [("_law_a", 9)]) (g := (gName 9)) (by rfl) sc__law_step.nd (pi_list (pv 2)) (blkOk_by (own := [("_law_a", 9)]) (N := n__law_step) (sc := defScope s__law_step) (by decide +kernel)) (fun _ _ _ _ _ => (pg_name (i := 9) sc__law_step.nd rfl (by first | exact Or.inl rfl | exact Or.inr rfl))) (fun _ _ _ _ _ => (pts_one (pt_cmpR (op_notInK K rfl) (pv 9) (pv 6) (by rfl)))) (fun _ _ _ _ _ => (pv 9))) pa_nil)) pa_nil)))) (pa_cons (pv 2) pa_nil))))))) pss_nil)
      (pss_cons (ps_if (pt_cmpR op_eq (pv 0) (pe_str) (nomark _)) (pss_cons (ps_set (i := 8) sc__law_step.nd rfl (by first | exact Or.inl rfl | exact Or.inr rfl) (pe_ix ix_list (pv 5) (pe_int) (fun _ _ => rfl)))
      (pss_cons (ps_if (pt_cmpR op_in_seq (pv 8) (pv 6) (by rfl)) (pss_one (ps_ret (pe_tup (pa_cons (pe_str) (pa_cons (pe_str) (pa_cons (pe_lst (pa_cons (pe_slice sl_list (pv 5) (po_some (pe_int)) po_none) (pa_cons (pv 6) (pa_cons (pe_lst pa_nil) pa_nil)))) (pa_cons (pv 2) pa_nil))))))) pss_nil)
      (pss_one (ps_ret (pe_tup (pa_cons (pe_str) (pa_cons (pe_str) (pa_cons (pe_lst (pa_cons (pe_op op_cat (pe_slice sl_list (pv 5) (po_some (pe_int)) po_none) (pe_dget hu (pv 3) (pv 8) (fun _ _ => rfl))) (pa_cons (pe_op op_cat (pv 6) (pe_lst (pa_cons (pv 8) pa_nil))) (pa_cons (pe_lst pa_nil) pa_nil)))) (pa_cons (pv 2) pa_nil))))))))) pss_nil)
      (pss_cons (ps_if (pt_cmpR op_eq (pe_callB call_len_seq' (by rfl) T.n_len (by decide +kernel) (pa_cons (pv 7) pa_nil)) (pe_int) (nomark _)) (pss_one (ps_ret (pe_tup (pa_cons (pe_str) (pa_cons (pe_str) (pa_cons (pe_lst (pa_cons (pe_lst pa_nil) (pa_cons (pe_lst pa_nil) (pa_cons (pe_lst pa_nil) pa_nil)))) (pa_cons (pv 2) pa_nil))))))) pss_nil)
      (pss_cons (ps_if (pt_cmpR op_notIn_seq (pe_ix ix_list (pv 7) (pe_int) (fun _ _ => rfl)) (pv 6) (by rfl)) (pss_one (ps_setLc (i := 2) (own := [("_law_address", 8)]) (g := (gName 8)) (by rfl) sc__law_step.nd rfl rfl (sw_true rfl rfl rfl (by decide +kernel)) (pi_list (pv 2)) (blkOk_by (own := [("_law_address", 8)]) (N := n__law_step) (sc := defScope s__law_step) (by decide +kernel)) (fun _ _ _ _ _ => (pg_name (i := 8) sc__law_step.nd rfl (by first | exact Or.inl rfl | exact Or.inr rfl))) (fun _ _ _ _ _ => (pts_one (pt_cmpR op_ne (pv 8) (pe_ix (ix_listK K rfl) (pv 7) (pe_int) (fun _ _ => rfl)) (nomark _)))) (fun _ _ _ _ _ => (pv 8)))) pss_nil)
      (pss_one (ps_ret (pe_tup (pa_cons (pe_str) (pa_cons (pe_str) (pa_cons (pe_lst (pa_cons (pe_lst pa_nil) (pa_cons (pv 6) (pa_cons (pe_slice sl_list (pv 7) (po_some (pe_int)) po_none) pa_nil)))) (pa_cons (pv 2) pa_nil))))))))))))), ?_⟩
    walk_at "lw"
    refine g_glst (SqL.of a2) rfl ?_
    walk_at "lw"
    have cl1 : c9 c H l1 = 9 := by rw [c9_old a6, a5]
    have cbl : c9 c H bl = 9 := by rw [c9_old a10, a9]
    refine if2 (fun h0 => ?_) (fun h0 => ?_)
    · have h0 := str_eq.mp h0
      obtain ⟨emr, etd, edm⟩ : s'.mr = [] ∧ s'.td = [] ∧ s'.dm = [] := by
        cases j.co with
        | idle _ x y z => exact ⟨x, y, z⟩
        | mark q _ _ _ _ => rw [h0] at q; exact absurd q (by decide +kernel)
        | sweep q _ _ _ _ _ => rw [h0] at q; exact absurd q (by decide +kernel)
      walk_at "lw"
      refine ⟨rt, _, rfl, .inl (SqL.of hrt), fun q nq => ?_⟩
      have s1 : Same H (upd H q (.lst (rts.map V.str))) := Same.new nq
      have hq : (upd H q (.lst (rts.map V.str))) q = some (.lst (rts.map V.str)) := upd_same
      generalize upd H q (.lst (rts.map V.str)) = H1 at s1 hq
      walk_at "lw"
      refine g_klst (by show 0 ≤ 100; decide) fun q2 H2 nq2 s2 hq2 => ?_
      walk_at "lw"
      refine g_klst (by show 0 ≤ 100; decide) fun q3 H3 nq3 s3 hq3 => ?_
      walk_at "lw"
      refine g_klst (by show 3 ≤ 100; decide) fun q4 H4 nq4 s4 hq4 => ?_
      walk_at "lw"
      refine g_ktup (by show 4 ≤ 100; decide) fun t H5 nt s5 ht => ?_
      walk_at "lw"
      have s03 := s1.trans (s2.trans s3)
      have s05 := s03.trans (s4.trans s5)
      exact k (c9 c H) H5 t q4 bl [] bls { s' with ph := "mark", td := rts } "begin" (.begin h0) ⟨q, q2, q3, c9_new (s03.free nq4), s5.at hq4, c9_new nq, (s2.trans (s3.trans (s4.trans s5))).at hq, c9_new (s1.free nq2), (s3.trans (s4.trans s5)).at hq2, c9_new ((s1.trans s2).free nq3), by show H5 q3 = some (.lst (s'.dm.map V.str)); rw [edm]; exact (s4.trans s5).at hq3, cbl, s05.at a10⟩
        ⟨fun y => by show y ∈ [] ↔ y ∈ s'.mr; rw [emr], Nat.zero_le _, V0.p, V0.s⟩ (c9_stp s05) ht
    have h0 : ¬ s'.ph = "idle" := fun z => h0 (by rw [z])
    have dec : ∀ y, decide (y ∉ ml) = decide (y ∉ s'.mr) := fun y => by rw [decide_eq_decide, V0.e]
    have hml := V0.n
    have hbl : bls.length ≤ m := by rw [V0.p.length_eq]; exact j.ksl
    walk_at "lw"
    refine if2 (fun h1 => ?_) (fun h1 => ?_)
    · have h1 := str_eq.mp h1
      have edm : s'.dm = [] := by
        cases j.co with
        | idle q _ _ _ => exact absurd q h0
        | mark _ _ _ _ z => exact z
        | sweep q _ _ _ _ _ => rw [h1] at q; exact absurd q (by decide +kernel)
      walk_at "lw"
      refine if2 (fun h2 => ?_) (fun h2 => ?_)
      · have etd : s'.td = [] := by
          have := int_eq.mp h2
          rw [List.length_map] at this
          exact List.length_eq_zero_iff.mp (by omega)
        walk_at "lw"
        refine g_klst (by show 0 ≤ 100; decide) fun q H1 nq s1 hq => ?_
        walk_at "lw"
        refine g_ritL (SqL.of (s1.at a10)) ?_
        refine lc_map (G := fun H' => SqL K H' bl (bls.map V.str)) walk_list (fun H' s => SqL.of (s.at (s1.at a10))) (by rw [List.length_map]; omega) (fun v => match v with | .str z => decide (z ∉ ml) | _ => false) (fun v => v) ?_ ?_
        · intro x hx H' R s4 kk
          obtain ⟨z, hz, rfl⟩ := List.mem_map.mp hx
          walk_at "lw"
          refine kk _ rfl (fun H'' R s5 r2 => ?_) (fun _ H'' R s5 r2 => ?_)
          · walk_at "lw"
            refine ⟨l1, ml.map V.str, rfl, .inl (SqL.of (s5.at (s1.at a6))), rfl, flat_str _, ?_⟩
            rw [inV_str]
            have e : (!decide (z ∈ ml)) = decide (z ∉ ml) := by by_cases q : z ∈ ml <;> simp [q]
            refine ⟨_, rfl, ?_⟩
            show R (!decide (z ∈ ml)) H''
            rw [e]
            exact r2
          · walk_at "lw"
            exact r2 _ (Same.refl _)
        intro q2 H2 nq2 s2 hq2
        rw [List.filter_map, List.map_id'] at hq2
        have hq2 : H2 q2 = some (.lst ((bls.filter fun z => decide (z ∉ ml)).map V.str)) := hq2
        have efl : (bls.filter fun z => decide (z ∉ ml)) = bls.filter fun z => decide (z ∉ s'.mr) := List.filter_congr fun y _ => dec y
        rw [efl] at hq2
        walk_at "lw"
        refine ⟨q2, _, rfl, SqL.of hq2, fun ys q3 pe so nq3 => ?_⟩
        have eys : ys = bls.filter fun z => decide (z ∉ s'.mr) := str_sorted_eq pe so (sorted_filter V0.s _)
        subst eys
        have s3 : Same H2 (upd H2 q3 (.lst ((bls.filter fun z => decide (z ∉ s'.mr)).map V.str))) := Same.new nq3
        have hq3 : (upd H2 q3 (.lst ((bls.filter fun z => decide (z ∉ s'.mr)).map V.str))) q3 = some (.lst ((bls.filter fun z => decide (z ∉ s'.mr)).map V.str)) := upd_same
        generalize upd H2 q3 (.lst ((bls.filter fun z => decide (z ∉ s'.mr)).map V.str)) = H3 at s3 hq3
        walk_at "lw"
        refine g_klst (by show 3 ≤ 100; decide) fun q4 H4 nq4 s4 hq4 => ?_
        walk_at "lw"
        refine g_ktup (by show 4 ≤ 100; decide) fun t H5 nt s5 ht => ?_
        walk_at "lw"
        have s03 := s1.trans (s2.trans s3)
        have s05 := s03.trans (s4.trans s5)
        exact k (c9 c H) H5 t q4 bl ml bls { s' with ph := "sweep", dm := bls.filter fun z => decide (z ∉ s'.mr) } "turn" (.turn bls h1 etd V0.p V0.s) ⟨q, l1, q3, c9_new (s03.free nq4), s5.at hq4, c9_new nq, by show H5 q = some (.lst (s'.td.map V.str)); rw [etd]; exact (s2.trans (s3.trans (s4.trans s5))).at hq, cl1, s05.at a6, c9_new ((s1.trans s2).free nq3), (s4.trans s5).at hq3, cbl, s05.at a10⟩
          ⟨V0.e, by omega, V0.p, V0.s⟩ (c9_stp s05) ht
      · obtain ⟨a, l, hal⟩ : ∃ a l, s'.td = a :: l := by
          cases e : s'.td with
          | nil => rw [e] at h2; exact absurd rfl h2
          | cons a l => exact ⟨a, l, rfl⟩
        have ma : a ∈ s'.ks := (j.stepOk (by omega)).tk h1 a (by rw [hal]; exact List.mem_cons_self)
        have a4' : H l0 = some (.lst ((a :: l).map V.str)) := by rw [← hal]; exact a4
        have tl := j.tl
        rw [hal, List.length_cons] at tl
        walk_at "lw"
        refine ifT (decide_eq_true (by rw [h1])) ?_
        walk_at "lw"
        refine g_rix (SqL.of a4') (atI_nat (j := 0) rfl) ?_
        walk_at "lw"
        refine ⟨l1, ml.map V.str, rfl, .inl (SqL.of a6), rfl, flat_str _, ?_⟩
        rw [inV_str]
        walk_at "lw"
        refine if2 (fun h3 => ?_) (fun h3 => ?_)
        · walk_at "lw"
          refine g_slL (SqL.of a4') fun q H1 nq s1 hq => ?_
          rw [cut_drop] at hq
          have hq : H1 q = some (.lst (l.map V.str)) := hq
          walk_at "lw"
          refine g_klst (by show 0 ≤ 100; decide) fun q2 H2 nq2 s2 hq2 => ?_
          walk_at "lw"
          refine g_klst (by show 3 ≤ 100; decide) fun q4 H4 nq4 s4 hq4 => ?_
          walk_at "lw"
          refine g_ktup (by show 4 ≤ 100; decide) fun t H5 nt s5 ht => ?_
          walk_at "lw"
          have s02 := s1.trans s2
          have s05 := s02.trans (s4.trans s5)
          rw [show s'.ph = (({ s' with td := l } : Rg)).ph from rfl] at *
          exact k (c9 c H) H5 t q4 bl ml bls { s' with td := l } "mark" (.skip a l h1 hal ((V0.e a).mp h3)) ⟨q, l1, q2, c9_new (s02.free nq4), s5.at hq4, c9_new nq, (s2.trans (s4.trans s5)).at hq, cl1, s05.at a6, c9_new (s1.free nq2), by show H5 q2 = some (.lst (s'.dm.map V.str)); rw [edm]; exact (s4.trans s5).at hq2, cbl, s05.at a10⟩
            ⟨V0.e, by omega, V0.p, V0.s⟩ (c9_stp s05) (by rw [ht]; show _ = some (HO.tup [.str "mark", .str s'.ph, _, _]); rw [h1])
        · have h3 : a ∉ ml := h3
          obtain ⟨A', cbd, hbd, hA⟩ := id D.ex
          have mk := j.sub a ma
          have rl := j.rl a mk
          have hna := (hA a mk).2
          walk_at "lw"
          refine g_slL (SqL.of a4') fun q H1 nq s1 hq => ?_
          rw [cut_drop] at hq
          have hq : H1 q = some (.lst (l.map V.str)) := hq
          walk_at "lw"
          refine g_rdgetS (.of (s1.at hbd)) (by rw [valV_mkS, if_pos mk]) ?_
          walk_at "lw"
          refine g_cat hq (s1.at hna) (by rw [List.length_map, List.length_map]; omega) fun q2 H2 nq2 s2 hq2 => ?_
          have hq2 : H2 q2 = some (.lst ((l ++ (s'.B a).refs.map SX.S).map V.str)) := by rw [hq2, List.map_append, List.map_map]; rfl
          walk_at "lw"
          refine g_klst (by show 1 ≤ 100; decide) fun q3 H3 nq3 s3 hq3 => ?_
          have s03 := s1.trans (s2.trans s3)
          walk_at "lw"
          refine g_cat (s03.at a6) hq3 (by rw [List.length_map]; show ml.length + 1 ≤ _; omega) fun q5 H5 nq5 s5 hq5 => ?_
          have hq5 : H5 q5 = some (.lst ((ml ++ [a]).map V.str)) := by rw [hq5, List.map_append]; rfl
          walk_at "lw"
          refine g_klst (by show 0 ≤ 100; decide) fun q6 H6 nq6 s6 hq6 => ?_
          walk_at "lw"
          refine g_klst (by show 3 ≤ 100; decide) fun q4 H4 nq4 s4 hq4 => ?_
          walk_at "lw"
          refine g_ktup (by show 4 ≤ 100; decide) fun t H7 nt s7 ht => ?_
          walk_at "lw"
          have s02 := s1.trans s2
          have s05 := s03.trans s5
          have s47 := s4.trans s7
          have s07 := s05.trans (s6.trans s47)
          exact k (c9 c H) H7 t q4 bl (ml ++ [a]) bls { s' with mr := s'.mr ++ [a], td := l ++ (s'.B a).refs.map SX.S } "mark" (.mark a l h1 hal fun z => h3 ((V0.e a).mpr z)) ⟨q2, q5, q6, c9_new ((s05.trans s6).free nq4), s7.at hq4, c9_new (s1.free nq2), (s3.trans (s5.trans (s6.trans s47))).at hq2, c9_new (s03.free nq5), (s6.trans s47).at hq5, c9_new (s05.free nq6), by show H7 q6 = some (.lst (s'.dm.map V.str)); rw [edm]; exact s47.at hq6, cbl, s07.at a10⟩
            ⟨fun y => by show y ∈ ml ++ [a] ↔ y ∈ s'.mr ++ [a]; rw [List.mem_append, List.mem_append, V0.e], by rw [List.length_append]; show ml.length + 1 ≤ _; omega, V0.p, V0.s⟩ (c9_stp s07) (by rw [ht]; show _ = some (HO.tup [.str "mark", .str s'.ph, _, _]); rw [h1])
    · have h1 : ¬ s'.ph = "mark" := fun z => h1 (by rw [z])
      obtain ⟨hsw, etd⟩ : s'.ph = "sweep" ∧ s'.td = [] := by
        cases j.co with
        | idle q _ _ _ => exact absurd q h0
        | mark q _ _ _ _ => exact absurd q h1
        | sweep q _ _ z _ _ => exact ⟨q, z⟩
      refine ifF rfl ?_
      walk_at "lw"
      refine ifF (decide_eq_false fun z => h1 (str_eq.mp z)) ?_
      walk_at "lw"
      refine if2 (fun h2 => ?_) (fun h2 => ?_)
      · have edm : s'.dm = [] := by
          have := int_eq.mp h2
          rw [List.length_map] at this
          exact List.length_eq_zero_iff.mp (by omega)
        walk_at "lw"
        refine g_klst (by show 0 ≤ 100; decide) fun q H1 nq s1 hq => ?_
        walk_at "lw"
        refine g_klst (by show 0 ≤ 100; decide) fun q2 H2 nq2 s2 hq2 => ?_
        walk_at "lw"
        refine g_klst (by show 0 ≤ 100; decide) fun q3 H3 nq3 s3 hq3 => ?_
        walk_at "lw"
        refine g_klst (by show 3 ≤ 100; decide) fun q4 H4 nq4 s4 hq4 => ?_
        walk_at "lw"
        refine g_ktup (by show 4 ≤ 100; decide) fun t H5 nt s5 ht => ?_
        walk_at "lw"
        have s03 := s1.trans (s2.trans s3)
        have s45 := s4.trans s5
        exact k (c9 c H) H5 t q4 bl [] bls { s' with ph := "idle", mr := [], td := [], dm := [] } "end" (.fin hsw edm) ⟨q, q2, q3, c9_new (s03.free nq4), s5.at hq4, c9_new nq, (s2.trans (s3.trans s45)).at hq, c9_new (s1.free nq2), (s3.trans s45).at hq2, c9_new ((s1.trans s2).free nq3), s45.at hq3, cbl, (s03.trans s45).at a10⟩
          ⟨fun y => Iff.rfl, Nat.zero_le _, V0.p, V0.s⟩ (c9_stp (s03.trans s45)) ht
      · obtain ⟨a, l, hal⟩ : ∃ a l, s'.dm = a :: l := by
          cases e : s'.dm with
          | nil => rw [e] at h2; exact absurd rfl h2
          | cons a l => exact ⟨a, l, rfl⟩
        have a8' : H l2 = some (.lst ((a :: l).map V.str)) := by rw [← hal]; exact a8
        walk_at "lw"
        refine g_rix (SqL.of a8') (atI_nat (j := 0) rfl) ?_
        walk_at "lw"
        refine ⟨l1, ml.map V.str, rfl, .inl (SqL.of a6), rfl, flat_str _, ?_⟩
        rw [inV_str]
        refine ⟨_, rfl, ?_⟩
        have bl0 : decide (a ∈ ml) = decide (a ∈ s'.mr) := by rw [decide_eq_decide, V0.e]
        by_cases h3 : a ∈ ml
        · refine ifF (by rw [decide_eq_true h3]; rfl) ?_
          walk_at "lw"
          refine g_klst (by show 0 ≤ 100; decide) fun q H1 nq s1 hq => ?_
          walk_at "lw"
          refine g_slL (SqL.of (s1.at a8')) fun q2 H2 nq2 s2 hq2 => ?_
          rw [cut_drop] at hq2
          have hq2 : H2 q2 = some (.lst (l.map V.str)) := hq2
          walk_at "lw"
          refine g_klst (by show 3 ≤ 100; decide) fun q4 H4 nq4 s4 hq4 => ?_
          walk_at "lw"
          refine g_ktup (by show 4 ≤ 100; decide) fun t H5 nt s5 ht => ?_
          walk_at "lw"
          have s02 := s1.trans s2
          have s45 := s4.trans s5
          exact k (c9 c H) H5 t q4 bl ml bls { s' with dm := l } "sweep" (.leave a l hsw hal ((V0.e a).mp h3)) ⟨q, l1, q2, c9_new (s02.free nq4), s5.at hq4, c9_new nq, by show H5 q = some (.lst (s'.td.map V.str)); rw [etd]; exact (s2.trans s45).at hq, cl1, (s02.trans s45).at a6, c9_new (s1.free nq2), s45.at hq2, cbl, (s02.trans s45).at a10⟩
            ⟨V0.e, by omega, V0.p, V0.s⟩ (c9_stp (s02.trans s45)) (by rw [ht]; show _ = some (HO.tup [.str "sweep", .str s'.ph, _, _]); rw [hsw])
        · refine ifT (by rw [decide_eq_false h3]; rfl) ?_
          walk_at "lw"
          refine g_ritL (SqL.of a10) ?_
          refine lc_map (G := fun H' => SqL K H' bl (bls.map V.str)) walk_list (fun H' s => SqL.of (s.at a10)) (by rw [List.length_map]; omega) (fun v => match v with | .str z => decide (z ≠ a) | _ => false) (fun v => v) ?_ ?_
          · intro x hx H' R s4 kk
            obtain ⟨z, hz, rfl⟩ := List.mem_map.mp hx
            walk_at "lw"
            refine kk _ rfl (fun H'' R s5 r2 => ?_) (fun _ H'' R s5 r2 => ?_)
            · walk_at "lw"
              refine g_rix (SqL.of (s5.at a8')) (atI_nat (j := 0) rfl) ?_
              walk_at "lw"
              have e : (!decide (V.str z = V.str a)) = decide (z ≠ a) := by by_cases q : z = a <;> simp [q]
              rw [e]
              exact r2
            · walk_at "lw"
              exact r2 _ (Same.refl _)
          intro q2 H2 nq2 s2 hq2
          rw [List.filter_map, List.map_id'] at hq2
          have hq2 : H2 q2 = some (.lst ((bls.filter fun z => decide (z ≠ a)).map V.str)) := hq2
          walk_at "lw"
          refine g_klst (by show 0 ≤ 100; decide) fun q H1 nq s1 hq => ?_
          walk_at "lw"
          have s21 := s2.trans s1
          refine g_slL (SqL.of (s21.at a8')) fun q3 H3 nq3 s3 hq3 => ?_
          rw [cut_drop] at hq3
          have hq3 : H3 q3 = some (.lst (l.map V.str)) := hq3
          walk_at "lw"
          refine g_klst (by show 3 ≤ 100; decide) fun q4 H4 nq4 s4 hq4 => ?_
          walk_at "lw"
          refine g_ktup (by show 4 ≤ 100; decide) fun t H5 nt s5 ht => ?_
          walk_at "lw"
          have s03 := s21.trans s3
          have s45 := s4.trans s5
          exact k (c9 c H) H5 t q4 q2 ml (bls.filter fun z => decide (z ≠ a)) { s' with ks := s'.ks.filter fun j => decide (j ≠ a), dm := l } "sweep" (.drop a l hsw hal fun z => h3 ((V0.e a).mpr z)) ⟨q, l1, q3, c9_new (s03.free nq4), s5.at hq4, c9_new (s2.free nq), by show H5 q = some (.lst (s'.td.map V.str)); rw [etd]; exact (s3.trans s45).at hq, cl1, (s03.trans s45).at a6, c9_new (s21.free nq3), s45.at hq3, c9_new nq2, (s1.trans (s3.trans s45)).at hq2⟩
            ⟨V0.e, by omega, V0.p.filter _, sorted_filter V0.s _⟩ (c9_stp (s03.trans s45)) (by rw [ht]; show _ = some (HO.tup [.str "sweep", .str s'.ph, _, _]); rw [hsw])
end
end Lw

/-! ## lists of ints and of texts compared -/
namespace Lw
open PySem L2
theorem shS : ∀ (ys : List Str), (∀ x ∈ ys, PyData.strOk x = true) → PyData.canLayAll0 (ys.map PyData.str) = true ∧ PyData.depthAll (ys.map PyData.str) = 0
  | [], _ => ⟨rfl, rfl⟩
  | x :: r, h => by
    obtain ⟨h1, h2⟩ := shS r fun y hy => h y (List.mem_cons_of_mem _ hy)
    have h3 := h x List.mem_cons_self
    refine ⟨?_, ?_⟩
    · simp only [List.map_cons, PyData.canLayAll0, PyData.canLay0, h1, h3, Bool.and_true]
    · simp only [List.map_cons, PyData.depthAll, PyData.depth, h2, Nat.max_self]
theorem shI : ∀ (ys : List Int), PyData.canLayAll0 (ys.map PyData.int) = true ∧ PyData.depthAll (ys.map PyData.int) = 0
  | [] => ⟨rfl, rfl⟩
  | x :: r => by
    obtain ⟨h1, h2⟩ := shI r
    refine ⟨?_, ?_⟩
    · simp only [List.map_cons, PyData.canLayAll0, PyData.canLay0, h1, Bool.and_true]
    · simp only [List.map_cons, PyData.depthAll, PyData.depth, h2, Nat.max_self]
theorem shaped0 {ds : List PyData} (h : PyData.canLayAll0 ds = true ∧ PyData.depthAll ds = 0) : SeqAt.shaped (.list ds) = true := by
  unfold SeqAt.shaped
  rw [show (PyData.list ds).canLay0 = true from h.1, Bool.true_and, decide_eq_true_eq]
  simp only [PyData.depth, h.2]
  decide
theorem eqv_list0 {ds : List PyData} (h : PyData.canLayAll0 ds = true ∧ PyData.depthAll ds = 0) : PyData.eqv (.list ds) (.list ds) = true := SeqAt.eqv_refl _ (show (PyData.list ds).canLay0 = true from h.1)
theorem dpS {K : PySem.W.Frag} {H : Hp} : ∀ (ys : List Str), DpAll K H (ys.map V.str) (ys.map PyData.str)
  | [] => .nil
  | _ :: r => .cons (.str _) (dpS r)
theorem dpI {K : PySem.W.Frag} {H : Hp} : ∀ (ys : List Int), DpAll K H (ys.map V.int) (ys.map PyData.int)
  | [] => .nil
  | _ :: r => .cons (.int _) (dpI r)
end Lw

/-! ## what the law's walk keeps -/
namespace Lw
open PySem L2
open PyProof.Rows (envOfC sortedS)
theorem g_rneS {K : PySem.W.Frag} {H : Hp} {Q : VK} {p q : Addr} {ys : List Str} (h1 : H p = some (.lst (ys.map V.str))) (h2 : H q = some (.lst (ys.map V.str))) (ok : ∀ x ∈ ys, PyData.strOk x = true) (k : Q (.bl false) H) : rNeD K (.ref p) (.ref q) H Q :=
  ⟨_, _, .lst (SqL.of h1) (dpS ys), .lst (SqL.of h2) (dpS ys), shaped0 (shS ys ok), shaped0 (shS ys ok), by rw [eqv_list0 (shS ys ok)]; exact k⟩
def spAdrs2 (C : Addr) : Sp := fun vs H Q _ => ∃ (c : Addr → Nat) (p : Addr) (ks : List Str) (B : Str → Bl), vs = [.ref p] ∧ StoreAt C c H p ks B ∧ ks.length < 100000 ∧
  ∀ (ys : List Str) (r : Addr) H', H r = none → ys.Perm ks → sortedS ys = true → Same H H' → H' r = some (.lst (ys.map V.str)) → Q (.ref r) H'
section
variable {P : Program} {w : World} {K : PySem.W.Frag} {mg : Str → Option Value} {base : Heap} {C_Collector C_Store C_Refused C_Malformed a_KINDS : Addr}
theorem ok_Store_addresses2 (T : Txt w K mg C_Collector C_Store C_Refused C_Malformed a_KINDS) : Met P w K mg base 1 C_Store "addresses" (spAdrs2 C_Store) := by
  refine met_mk T.cl_Store T.m_Store_addresses sc_Store_addresses (fun vs H Q E h => ?_) (fun f cdv A outer s H vs Q E hr h => ?_)
  · obtain ⟨c, p, ks, B, rfl, _⟩ := h
    rfl
  · obtain ⟨c, p, ks, B, rfl, W, hl, k⟩ := h
    obtain ⟨dx, d, h1, h2, h3, A', h4, h5⟩ := W.ex
    refine ⟨_, (pss_one (ps_ret (pe_callB (call_sortedD' rfl) (by rfl) T.n_sorted (by decide +kernel) (pa_cons (pe_fld (pv 0) rfl) pa_nil)))), ?_⟩
    walk_at "lw"
    exact ⟨d, _, ks, rfl, .of h4, mkS_keys, hl, fun ys r hp hs nr => k ys r _ nr hp hs (Same.new nr) upd_same⟩
end
theorem clo_len {kb : List Str} {B : Str → Bl} (h3 : ∀ a ∈ kb, (B a).refs.length ≤ 3) {N M : Nat} : ∀ (n : Nat), (n = 0 → M = 1) → (∀ a, wk kb B n a = true → (clo B (n - 1) a).length ≤ N) → (n ≠ 0 → M = 1 + 3 * N) → ∀ a, wk kb B (n + 1) a = true → (clo B n a).length ≤ M
  | 0, hM, _, _, a, _ => by rw [hM rfl]; exact Nat.le_refl 1
  | n + 1, _, hN, hM, a, ha => by
    have f : ∀ (rs : List (List Nat)) (f : List Str), (∀ r ∈ rs, wk kb B (n + 1) (SX.S r) = true) → (rs.foldl (fun f r => (clo B n (SX.S r)).foldl addD f) f).length ≤ f.length + rs.length * N := by
      intro rs
      induction rs with
      | nil => intro f _; simp
      | cons r rs ih =>
        intro f hr
        rw [List.foldl_cons, List.length_cons, Nat.succ_mul]
        have e1 := ih ((clo B n (SX.S r)).foldl addD f) fun q hq => hr q (List.mem_cons_of_mem _ hq)
        have e2 := foldl_addD_len (clo B n (SX.S r)) f
        have e3 := hN (SX.S r) (hr r List.mem_cons_self)
        have e3 : (clo B n (SX.S r)).length ≤ N := e3
        omega
    have e := f (B a).refs [a] fun r hr => wk_ref ha r hr
    have l := Nat.mul_le_mul_right N (h3 a (wk_in ha))
    rw [hM (by omega)]
    show ((B a).refs.foldl (fun f r => (clo B n (SX.S r)).foldl addD f) [a]).length ≤ _
    have : [a].length = 1 := rfl
    omega
theorem clo40 {kb : List Str} {B : Str → Bl} (h3 : ∀ a ∈ kb, (B a).refs.length ≤ 3) {a : Str} (ha : wk kb B 4 a = true) : (clo B 3 a).length ≤ 40 := by
  have c0 := clo_len (N := 0) (M := 1) h3 0 (fun _ => rfl) (fun a h => nomatch h) (fun h => absurd rfl h)
  have c1 := clo_len (N := 1) (M := 4) h3 1 (fun h => by cases h) c0 (fun _ => rfl)
  have c2 := clo_len (N := 4) (M := 13) h3 2 (fun h => by cases h) c1 (fun _ => rfl)
  exact clo_len (N := 13) (M := 40) h3 3 (fun h => by cases h) c2 (fun _ => rfl) a ha
theorem cstep_B {rs : List Str} {s s' : Rg} {w : Str} (h : CStep rs s s' w) : s'.B = s.B := by cases h <;> rfl
/-- all but the script's state -/
structure LW (CS CO : Addr) (c : Addr → Nat) (H : Hp) (x : Rx) (bd rt ll bl : Addr) (kb rts ml bls : List Str) (s : Rg) : Prop where
  w : RegAt CS CS CS CO CS c H x s
  d : BelowAt c H bd kb s.B
  rc : c rt = 9
  rh : H rt = some (.lst (rts.map V.str))
  l : LvAt c H ll bl ml bls s
theorem LW.frame {CS CO : Addr} {c c' : Addr → Nat} {H H' : Hp} {x : Rx} {bd rt ll bl : Addr} {kb rts ml bls : List Str} {s : Rg} {I : Nat → Prop} (h : LW CS CO c H x bd rt ll bl kb rts ml bls s) (st : Stp I c c' H H') (h1 : ¬ I 1) (h2 : ¬ I 2) (h6 : ¬ I 6) (h9 : ¬ I 9) : LW CS CO c' H' x bd rt ll bl kb rts ml bls s :=
  ⟨h.w.frame st (by rintro i z (rfl | rfl); exact h1 z; exact h6 z), h.d.frame st h2 h9, by rw [st.col _ _ h.rh, h.rc], st.keep _ _ h.rh (by rw [h.rc]; exact h9), h.l.frame st h9⟩
theorem LW.same {CS CO : Addr} {c : Addr → Nat} {H H' : Hp} {x : Rx} {bd rt ll bl : Addr} {kb rts ml bls : List Str} {s : Rg} (h : LW CS CO c H x bd rt ll bl kb rts ml bls s) (s1 : Same H H') : LW CS CO c H' x bd rt ll bl kb rts ml bls s := h.frame (Stp.same (I := fun _ => False) s1) id id id id
/-- the roots, one more -/
theorem roots_more {rts ys : List Str} {a : Str} (hm : ∀ y, y ∈ ys ↔ decide (y ∈ rts ++ [a]) = true) : ∀ y, y ∈ ys ↔ y ∈ rts ∨ y = a := fun y => by rw [hm y, decide_eq_true_eq, List.mem_append, List.mem_singleton]
theorem clo_lay {B : Str → Bl} {a : Str} (h : (B a).refs = []) : clo B 3 a = [a] := by
  show (B a).refs.foldl _ [a] = [a]
  rw [h]
  rfl
theorem lv_shade {m : Nat} {ml bls : List Str} {s : Rg} (V0 : Lv m ml bls s) {a : Str} (h : ¬ s.ph = "idle") (hl : (clo s.B 3 a).length ≤ 40) : Lv (m + 1) (ml ++ clo s.B 3 a) bls (shd s a) :=
  ⟨fun y => by
    show y ∈ ml ++ clo s.B 3 a ↔ y ∈ (if s.ph = "idle" then s.mr else (clo s.B 3 a).foldl addD s.mr)
    rw [if_neg h, mem_foldl_addD, List.mem_append, V0.e], by rw [List.length_append]; have := V0.n; omega, V0.p, V0.s⟩
theorem lv_idle {m : Nat} {ml bls : List Str} {s : Rg} (V0 : Lv m ml bls s) {a : Str} (h : s.ph = "idle") : Lv (m + 1) ml bls (shd s a) :=
  ⟨fun y => by
    show y ∈ ml ↔ y ∈ (if s.ph = "idle" then s.mr else (clo s.B 3 a).foldl addD s.mr)
    rw [if_pos h, V0.e], by have := V0.n; omega, V0.p, V0.s⟩
theorem Lv.up {m : Nat} {ml bls : List Str} {s : Rg} (V0 : Lv m ml bls s) : Lv (m + 1) ml bls s := ⟨V0.e, by have := V0.n; omega, V0.p, V0.s⟩
theorem lvat_shd {c : Addr → Nat} {H : Hp} {ll bl : Addr} {ml bls : List Str} {s : Rg} {a : Str} (h : LvAt c H ll bl ml bls s) : LvAt c H ll bl ml bls (shd s a) := ⟨h.ex⟩
end Lw

/-! ## the law -/
namespace Lw
open PySem L2
open PyProof.Rows (envOfC sortedS)
def spLaw (K : PySem.W.Frag) : Sp := fun vs H Q _ => ∃ (a : Addr) (ns : List Int), vs = [.ref a] ∧ SqL K H a (ns.map V.int) ∧ ns.length ≤ 63 ∧ ∀ H', Q (.bl true) H'
/-- a layer is kept: what is below it is not yet told -/
structure LW1 (CS CO : Addr) (c : Addr → Nat) (H : Hp) (x : Rx) (bd rt ll bl : Addr) (kb rts ml bls : List Str) (B : Str → Bl) (s : Rg) : Prop where
  w : RegAt CS CS CS CO CS c H x s
  d : BelowAt c H bd kb B
  rc : c rt = 9
  rh : H rt = some (.lst (rts.map V.str))
  l : LvAt c H ll bl ml bls s
section
variable {CS CO : Addr} {c c' : Addr → Nat} {H H' : Hp} {x : Rx} {bd rt ll bl : Addr} {kb rts ml bls : List Str} {s : Rg}
theorem LW.blobs (h : LW CS CO c H x bd rt ll bl kb rts ml bls s) {bl2 : Addr} {bls2 : List Str} (e : c bl2 = 9) (e2 : H bl2 = some (.lst (bls2.map V.str))) : LW CS CO c H x bd rt ll bl2 kb rts ml bls2 s := by
  obtain ⟨l0, l1, l2, a1, a2, a3, a4, a5, a6, a7, a8, a9, a10⟩ := h.l.ex
  exact ⟨h.w, h.d, h.rc, h.rh, ⟨l0, l1, l2, a1, a2, a3, a4, a5, a6, a7, a8, e, e2⟩⟩
theorem LW.roots (h : LW CS CO c H x bd rt ll bl kb rts ml bls s) {rt2 : Addr} {rts2 : List Str} (e : c rt2 = 9) (e2 : H rt2 = some (.lst (rts2.map V.str))) : LW CS CO c H x bd rt2 ll bl kb rts2 ml bls s := ⟨h.w, h.d, e, e2, h.l⟩
theorem LW.shade (h : LW CS CO c H x bd rt ll bl kb rts ml bls s) {a : Str} (W : RegAt CS CS CS CO CS c' H' x (shd s a)) (st : Stp (fun i => i = 6) c c' H H') : LW CS CO c' H' x bd rt ll bl kb rts ml bls (shd s a) :=
  ⟨W, h.d.frame st (by decide) (by decide), by rw [st.col _ _ h.rh, h.rc], st.keep _ _ h.rh (by rw [h.rc]; decide), lvat_shd (h.l.frame st (by decide))⟩
theorem LW.sto (h : LW CS CO c H x bd rt ll bl kb rts ml bls s) {b : Bl} (W : StoreAt CS c' H' x.p (putS s.ks (adrB b)) (updB s.B (adrB b) b)) (st : Stp (fun i => i = 1) c c' H H') : LW1 CS CO c' H' x bd rt ll bl kb rts ml bls s.B (Lw.sto s b) :=
  ⟨h.w.store W st, h.d.frame st (by decide) (by decide), by rw [st.col _ _ h.rh, h.rc], st.keep _ _ h.rh (by rw [h.rc]; decide), ⟨(h.l.frame st (by decide)).ex⟩⟩
theorem LW1.frame {I : Nat → Prop} {B : Str → Bl} (h : LW1 CS CO c H x bd rt ll bl kb rts ml bls B s) (st : Stp I c c' H H') (h1 : ¬ I 1) (h2 : ¬ I 2) (h6 : ¬ I 6) (h9 : ¬ I 9) : LW1 CS CO c' H' x bd rt ll bl kb rts ml bls B s :=
  ⟨h.w.frame st (by rintro i z (rfl | rfl); exact h1 z; exact h6 z), h.d.frame st h2 h9, by rw [st.col _ _ h.rh, h.rc], st.keep _ _ h.rh (by rw [h.rc]; exact h9), h.l.frame st h9⟩
theorem LW1.put {B : Str → Bl} (h : LW1 CS CO c H x bd rt ll bl kb rts ml bls B s) {kb2 : List Str} (D : BelowAt c' H' bd kb2 s.B) (st : Stp (fun i => i = 2) c c' H H') : LW CS CO c' H' x bd rt ll bl kb2 rts ml bls s :=
  ⟨h.w.frame st (by rintro i rfl (z | z) <;> cases z), D, by rw [st.col _ _ h.rh, h.rc], st.keep _ _ h.rh (by rw [h.rc]; decide), h.l.frame st (by decide)⟩
/-- the collector is given up: the lists are laid anew behind it -/
structure LW0 (CS CO : Addr) (c : Addr → Nat) (H : Hp) (x : Rx) (bd rt bl : Addr) (kb rts bls : List Str) (s : Rg) : Prop where
  w : RegAt CS CS CS CO CS c H x s
  d : BelowAt c H bd kb s.B
  rc : c rt = 9
  rh : H rt = some (.lst (rts.map V.str))
  bc : c bl = 9
  bh : H bl = some (.lst (bls.map V.str))
theorem LW0.frame {I : Nat → Prop} (h : LW0 CS CO c H x bd rt bl kb rts bls s) (st : Stp I c c' H H') (h1 : ¬ I 1) (h2 : ¬ I 2) (h6 : ¬ I 6) (h9 : ¬ I 9) : LW0 CS CO c' H' x bd rt bl kb rts bls s :=
  ⟨h.w.frame st (by rintro i z (rfl | rfl); exact h1 z; exact h6 z), h.d.frame st h2 h9, by rw [st.col _ _ h.rh, h.rc], st.keep _ _ h.rh (by rw [h.rc]; exact h9), by rw [st.col _ _ h.bh, h.bc], st.keep _ _ h.bh (by rw [h.bc]; exact h9)⟩
theorem LW.stop (h : LW CS CO c H x bd rt ll bl kb rts ml bls s) (W : RegAt CS CS CS CO CS c' H' x { s with ph := "idle", mr := [], td := [], dm := [] }) (st : Stp (fun i => i = 6) c c' H H') : LW0 CS CO c' H' x bd rt bl kb rts bls { s with ph := "idle", mr := [], td := [], dm := [] } := by
  obtain ⟨l0, l1, l2, a1, a2, a3, a4, a5, a6, a7, a8, a9, a10⟩ := h.l.ex
  exact ⟨W, h.d.frame st (by decide) (by decide), by rw [st.col _ _ h.rh, h.rc], st.keep _ _ h.rh (by rw [h.rc]; decide), by rw [st.col _ _ a10, a9], st.keep _ _ a10 (by rw [a9]; decide)⟩
theorem LW0.lists (h : LW0 CS CO c H x bd rt bl kb rts bls s) {ll2 l0 l1 l2 : Addr} {ml2 : List Str} (e1 : c ll2 = 9) (e2 : H ll2 = some (.lst [.ref l0, .ref l1, .ref l2])) (e3 : c l0 = 9) (e4 : H l0 = some (.lst (s.td.map V.str))) (e5 : c l1 = 9) (e6 : H l1 = some (.lst (ml2.map V.str))) (e7 : c l2 = 9) (e8 : H l2 = some (.lst (s.dm.map V.str))) : LW CS CO c H x bd rt ll2 bl kb rts ml2 bls s :=
  ⟨h.w, h.d, h.rc, h.rh, ⟨l0, l1, l2, e1, e2, e3, e4, e5, e6, e7, e8, h.bc, h.bh⟩⟩
theorem LW.lists (h : LW CS CO c H x bd rt ll bl kb rts ml bls s) {ll2 l0 l1 l2 : Addr} {ml2 : List Str} (e1 : c ll2 = 9) (e2 : H ll2 = some (.lst [.ref l0, .ref l1, .ref l2])) (e3 : c l0 = 9) (e4 : H l0 = some (.lst (s.td.map V.str))) (e5 : c l1 = 9) (e6 : H l1 = some (.lst (ml2.map V.str))) (e7 : c l2 = 9) (e8 : H l2 = some (.lst (s.dm.map V.str))) : LW CS CO c H x bd rt ll2 bl kb rts ml2 bls s := by
  obtain ⟨_, _, _, _, _, _, _, _, _, _, _, a9, a10⟩ := h.l.ex
  exact ⟨h.w, h.d, h.rc, h.rh, ⟨l0, l1, l2, e1, e2, e3, e4, e5, e6, e7, e8, a9, a10⟩⟩
end
section
variable {P : Program} {w : World} {K : PySem.W.Frag} {mg : Str → Option Value} {base : Heap} {C_Collector C_Store C_Refused C_Malformed a_KINDS : Addr}
theorem ok_law (T : Txt w K mg C_Collector C_Store C_Refused C_Malformed a_KINDS) {f : Addr} {fd : FuncData} (F : Fun K "law" "law" s_law f fd) : FnOk P w K mg base CX0 14 f fd ["_law_script"] (spLaw K) := by
  have c__law_state : Cal P w K mg base 1 "_law_state" (spState K) := ok__law_state T
  have c__law_take : Cal P w K mg base 1 "_law_take" spTake := ok__law_take T
  have c__law_text : Cal P w K mg base 2 "_law_text" spText := ok__law_text T
  have c__law_some : Cal P w K mg base 2 "_law_some" spSome := ok__law_some T
  have c__law_fill : Cal P w K mg base 3 "_law_fill" (spFill C_Store) := ok__law_fill T
  have c__law_closure : Cal P w K mg base 5 "_law_closure" (spLClo 3) := ok__law_closure T
  have c__law_is_whole : Cal P w K mg base 6 "_law_is_whole" (spLIs C_Store) := ok__law_is_whole T
  have c__law_step : Cal P w K mg base 1 "_law_step" spLStep := ok__law_step T
  have m_Store : Mak P w K mg base 1 "Store" C_Store (spSInit C_Store) := ok_Store___init__ T
  have m_Collector : Mak P w K mg base 1 "Collector" C_Collector (spCoInit C_Collector) := ok_Collector___init__ T
  have t_Store_addresses : Met P w K mg base 1 C_Store "addresses" (spAdrs2 C_Store) := ok_Store_addresses2 T
  have t_Store_keep : Met P w K mg base 2 C_Store "keep" (spKeep C_Store) := ok_Store_keep T
  have t_Collector_shade : Met P w K mg base 11 C_Collector "shade" (spShade C_Store C_Store C_Store C_Collector C_Store) := ok_Collector_shade T
  have t_Collector_stop : Met P w K mg base 1 C_Collector "stop" (spStop C_Store C_Store C_Store C_Collector C_Store) := ok_Collector_stop T
  have t_Collector_step : Met P w K mg base 8 C_Collector "step" (spStep C_Store C_Store C_Store C_Collector C_Store) := ok_Collector_step T
  refine F.ok sc_law (fun vs H Q E h => ?_) (fun cdv A outer s H vs Q E hr h => ?_)
  · obtain ⟨a, ns, rfl, _⟩ := h
    rfl
  · obtain ⟨sc, ns, rfl, hS, hlen, k⟩ := h
    have hu := hu_of hr
    refine ⟨_, (pss_cons (ps_set (i := 1) sc_law.nd rfl (by first | exact Or.inl rfl | exact Or.inr rfl) (pe_c c__law_state hr (by first | decide | omega) rfl (pa_cons (pv 0) pa_nil)))
      (pss_cons (ps_set (i := 2) sc_law.nd rfl (by first | exact Or.inl rfl | exact Or.inr rfl) (pe_mk0 m_Store hr (by first | decide | omega) rfl))
      (pss_cons (ps_set (i := 3) sc_law.nd rfl (by first | exact Or.inl rfl | exact Or.inr rfl) (pe_dnewK))
      (pss_cons (ps_expr (pe_c c__law_fill hr (by first | decide | omega) rfl (pa_cons (pv 1) (pa_cons (pv 2) (pa_cons (pv 3) pa_nil)))))
      (pss_cons (ps_set (i := 4) sc_law.nd rfl (by first | exact Or.inl rfl | exact Or.inr rfl) (pe_callB (cr_sortedSS rfl) (by rfl) T.n_sorted (by decide +kernel) (pa_cons (pe_callTy (cr_setOfS rfl) (by rfl) T.n_set (by decide +kernel) (pa_cons (pe_c c__law_some hr (by first | decide | omega) rfl (pa_cons (pv 1) (pa_cons (pe_mt0 t_Store_addresses hr (by first | decide | omega) (pv 2)) (pa_cons (pe_int) pa_nil)))) pa_nil)) pa_nil)))
      (pss_cons (ps_set (i := 5) sc_law.nd rfl (by first | exact Or.inl rfl | exact Or.inr rfl) (pe_mk m_Collector hr (by first | decide | omega) rfl (pa_cons (pv 2) pa_nil)))
      (pss_cons (ps_set (i := 6) sc_law.nd rfl (by first | exact Or.inl rfl | exact Or.inr rfl) (pe_str))
      (pss_cons (ps_set (i := 7) sc_law.nd rfl (by first | exact Or.inl rfl | exact Or.inr rfl) (pe_lst (pa_cons (pe_lst pa_nil) (pa_cons (pe_lst pa_nil) (pa_cons (pe_lst pa_nil) pa_nil)))))
      (pss_cons (ps_set (i := 8) sc_law.nd rfl (by first | exact Or.inl rfl | exact Or.inr rfl) (pe_mt0 t_Store_addresses hr (by first | decide | omega) (pv 2)))
      (pss_cons (ps_for PassesOwn.never rfl (pi_range1 (by rfl) T.n_range (pa_cons (pe_c c__law_take hr (by first | decide | omega) rfl (pa_cons (pv 1) (pa_cons (pe_int) pa_nil))) pa_nil)) (pg_name (i := 9) sc_law.nd rfl (by first | exact Or.inl rfl | exact Or.inr rfl)) (pss_cons (ps_set (i := 10) sc_law.nd rfl (by first | exact Or.inl rfl | exact Or.inr rfl) (pe_c c__law_take hr (by first | decide | omega) rfl (pa_cons (pv 1) (pa_cons (pe_int) pa_nil))))
      (C8.pss_cut (ps_if (PW.pt (pw_and (pt_cmpR op_eq (pv 10) (pe_int) (nomark _)) (pw_and1 (pt_cmpR op_gt (pe_callB call_len_seq' (by rfl) T.n_len (by decide +kernel) (pa_cons (pv 8) pa_nil)) (pe_int) (nomark _))))) (pss_cons (ps_set (i := 11) sc_law.nd rfl (by first | exact Or.inl rfl | exact Or.inr rfl) (pe_ix ix_list (pv 8) (pe_c c__law_take hr (by first | decide | omega) rfl (pa_cons (pv 1) (pa_cons (pe_callB call_len_seq' (by rfl) T.n_len (by decide +kernel) (pa_cons (pv 8) pa_nil)) pa_nil))) (fun _ _ => rfl)))
      (pss_one (ps_if (pt_val (pe_c c__law_is_whole hr (by first | decide | omega) rfl (pa_cons (pv 2) (pa_cons (pv 3) (pa_cons (pv 11) pa_nil))))) (pss_cons (ps_set (i := 4) sc_law.nd rfl (by first | exact Or.inl rfl | exact Or.inr rfl) (pe_callB (cr_sortedSS rfl) (by rfl) T.n_sorted (by decide +kernel) (pa_cons (pe_callTy (cr_setOfS rfl) (by rfl) T.n_set (by decide +kernel) (pa_cons (pe_op op_cat (pv 4) (pe_lst (pa_cons (pv 11) pa_nil))) pa_nil)) pa_nil)))
      (pss_cons (ps_expr (pe_mt t_Collector_shade hr (by first | decide | omega) (pv 5) (pa_cons (pv 11) pa_nil)))
      (pss_one (ps_if (pt_cmpR op_ne (pv 6) (pe_str) (nomark _)) (pss_one (ps_set (i := 7) sc_law.nd rfl (by first | exact Or.inl rfl | exact Or.inr rfl) (pe_lst (pa_cons (pe_ix ix_list (pv 7) (pe_int) (fun _ _ => rfl)) (pa_cons (pe_op op_cat (pe_ix ix_list (pv 7) (pe_int) (fun _ _ => rfl)) (pe_c c__law_closure hr (by first | decide | omega) rfl (pa_cons (pv 3) (pa_cons (pv 11) pa_nil)))) (pa_cons (pe_ix ix_list (pv 7) (pe_int) (fun _ _ => rfl)) pa_nil)))))) pss_nil)))) pss_nil))) (pss_one (ps_if (pt_cmpR op_eq (pv 10) (pe_int) (nomark _)) (pss_cons (ps_set (i := 11) sc_law.nd rfl (by first | exact Or.inl rfl | exact Or.inr rfl) (pe_mt t_Store_keep hr (by first | decide | omega) (pv 2) (pa_cons (pe_str) (pa_cons (pe_c c__law_text hr (by first | decide | omega) rfl (pa_cons (pv 1) (pa_cons (pe_int) pa_nil))) pa_nil))))
      (pss_cons (ps_dput hu (pv 3) (pv 11) (pe_lst pa_nil) rfl)
      (pss_cons (ps_set (i := 8) sc_law.nd rfl (by first | exact Or.inl rfl | exact Or.inr rfl) (pe_callB (cr_sortedSS rfl) (by rfl) T.n_sorted (by decide +kernel) (pa_cons (pe_callTy (cr_setOfS rfl) (by rfl) T.n_set (by decide +kernel) (pa_cons (pe_op op_cat (pv 8) (pe_lst (pa_cons (pv 11) pa_nil))) pa_nil)) pa_nil)))
      (pss_cons (ps_set (i := 4) sc_law.nd rfl (by first | exact Or.inl rfl | exact Or.inr rfl) (pe_callB (cr_sortedSS rfl) (by rfl) T.n_sorted (by decide +kernel) (pa_cons (pe_callTy (cr_setOfS rfl) (by rfl) T.n_set (by decide +kernel) (pa_cons (pe_op op_cat (pv 4) (pe_lst (pa_cons (pv 11) pa_nil))) pa_nil)) pa_nil)))
      (pss_cons (ps_expr (pe_mt t_Collector_shade hr (by first | decide | omega) (pv 5) (pa_cons (pv 11) pa_nil)))
      (pss_one (ps_if (pt_cmpR op_ne (pv 6) (pe_str) (nomark _)) (pss_one (ps_set (i := 7) sc_law.nd rfl (by first | exact Or.inl rfl | exact Or.inr rfl) (pe_lst (pa_cons (pe_ix ix_list (pv 7) (pe_int) (fun _ _ => rfl)) (pa_cons (pe_op op_cat (pe_ix ix_list (pv 7) (pe_int) (fun _ _ => rfl)) (pe_lst (pa_cons (pv 11) pa_nil))) (pa_cons (pe_ix ix_list (pv 7) (pe_int) (fun _ _ => rfl)) pa_nil)))))) pss_nil))))))) (pss_one (ps_if (PW.pt (pw_and (pt_cmpR op_eq (pv 10) (pe_int) (nomark _)) (pw_and1 (pt_cmpR op_eq (pe_c c__law_take hr (by first | decide | omega) rfl (pa_cons (pv 1) (pa_cons (pe_int) pa_nil))) (pe_int) (nomark _))))) (pss_cons (ps_expr (pe_mt0 t_Collector_stop hr (by first | decide | omega) (pv 5)))
      (pss_cons (ps_set (i := 6) sc_law.nd rfl (by first | exact Or.inl rfl | exact Or.inr rfl) (pe_str))
      (pss_one (ps_set (i := 7) sc_law.nd rfl (by first | exact Or.inl rfl | exact Or.inr rfl) (pe_lst (pa_cons (pe_lst pa_nil) (pa_cons (pe_lst pa_nil) (pa_cons (pe_lst pa_nil) pa_nil)))))))) (pss_cons (ps_asg (pe_c c__law_step hr (by first | decide | omega) rfl (pa_cons (pv 6) (pa_cons (pv 7) (pa_cons (pv 8) (pa_cons (pv 3) (pa_cons (pv 4) pa_nil)))))) (pg_tup (by rfl) (pgs_cons (pg_name (i := 12) sc_law.nd rfl (by first | exact Or.inl rfl | exact Or.inr rfl)) (pgs_cons (pg_name (i := 6) sc_law.nd rfl (by first | exact Or.inl rfl | exact Or.inr rfl)) (pgs_cons (pg_name (i := 7) sc_law.nd rfl (by first | exact Or.inl rfl | exact Or.inr rfl)) (pgs_cons (pg_name (i := 8) sc_law.nd rfl (by first | exact Or.inl rfl | exact Or.inr rfl)) pgs_nil))))))
      (pss_one (ps_if (pt_cmpR op_ne (pe_mt t_Collector_step hr (by first | decide | omega) (pv 5) (pa_cons (pe_callTy call_list_of (by rfl) T.n_list (by decide +kernel) (pa_cons (pv 4) pa_nil)) pa_nil)) (pv 12) (nomark _)) (pss_one (ps_ret (pe_bl))) pss_nil))))))))
      (pss_cons (ps_if (PW.pt (pw_or (pt_cmpR (op_neD hr.units) (pe_mt0 t_Store_addresses hr (by first | decide | omega) (pv 2)) (pv 8) (nomark _)) (pw_or (pt_cmpR op_ne (pe_fld (pv 5) rfl) (pv 6) (nomark _)) (pw_or1 (pt_cmpR (op_neD hr.units) (pe_callB (call_sortedD' rfl) (by rfl) T.n_sorted (by decide +kernel) (pa_cons (pe_fld (pv 5) rfl) pa_nil)) (pe_callB (cr_sortedSS rfl) (by rfl) T.n_sorted (by decide +kernel) (pa_cons (pe_callTy (cr_setOfS rfl) (by rfl) T.n_set (by decide +kernel) (pa_cons (pe_ix ix_list (pv 7) (pe_int) (fun _ _ => rfl)) pa_nil)) pa_nil)) (nomark _)))))) (pss_one (ps_ret (pe_bl))) pss_nil)
      (pss_one (ps_for PassesOwn.never rfl (pi_list (pv 4)) (pg_name (i := 11) sc_law.nd rfl (by first | exact Or.inl rfl | exact Or.inr rfl)) (pss_one (ps_if (pt_not (pt_val (pe_c c__law_is_whole hr (by first | decide | omega) rfl (pa_cons (pv 2) (pa_cons (pv 3) (pa_cons (pv 11) pa_nil)))))) (pss_one (ps_ret (pe_bl))) pss_nil))))))))
      (pss_one (ps_ret (pe_bl))))))))))))), ?_⟩
    walk_at "lw"
    refine ⟨sc, ns, fun _ => 9, rfl, hS, hlen, fun S c1 H1 S1 st1 => ?_⟩
    clear st1 hS
    walk_at "lw"
    intro p dx np ndx nex
    refine ⟨p, dx, rfl, upd_same, fun l H2 nl hp hl kp => ⟨rfl, ?_⟩⟩
    have s2 : Same H1 H2 := Same.made np ndx kp
    have s2' : Same H1 (upd (upd H1 dx (.own p)) p (.ins C_Store dx [])) := (Same.new ndx).thenNew (by rw [upd_ne nex.symm]; exact np)
    have npl : p ≠ l := fun z => by subst z; rw [upd_same] at nl; cases nl
    have nl1 : H1 l = none := s2'.free nl
    have st2 : Stp (fun _ => False) c1 (Stp.paint (Stp.paint c1 p 1) l 1) H1 H2 := Stp.sameC s2 fun b o e => by
      rw [Stp.paint_ne (ne_of_none e nl1), Stp.paint_ne (ne_of_none e np)]
    have W2 : StoreAt C_Store (Stp.paint (Stp.paint c1 p 1) l 1) H2 p [] (fun _ => ⟨.lay, []⟩) := ⟨dx, l, by rw [Stp.paint_ne npl]; exact Stp.paint_same, hp, Stp.paint_same, fun _ => l, hl, fun a ha => nomatch ha⟩
    have S2 := S1.frame st2 (by decide)
    generalize Stp.paint (Stp.paint c1 p 1) l 1 = c2 at st2 W2 S2
    clear st2 s2 s2' kp hp hl npl nl1 nl np ndx nex S1
    walk_at "lw"
    refine g_dnew fun bd H3 nbd s3 hbd => ?_
    have st3 : Stp (fun _ => False) c2 (Stp.paint c2 bd 2) H2 H3 := L2x_sameN s3 nbd
    have S3 := S2.frame st3 (by decide)
    have W3 := W2.frame st3 id
    have D3 : BelowAt (Stp.paint c2 bd 2) H3 bd [] (fun _ => ⟨.lay, []⟩) := ⟨fun _ => bd, Stp.paint_same, hbd, fun a ha => nomatch ha⟩
    generalize Stp.paint c2 bd 2 = c3 at S3 W3 D3 st3
    clear S2 W2 st3 s3 hbd nbd
    walk_at "lw"
    refine ⟨c3, S, p, bd, _, rfl, S3, W3, D3, fun c4 H4 ks B bs fl bs2 kl W4 D4 S4 st4 => ?_⟩
    clear S3 W3 D3 st4
    obtain ⟨_, _, _, hp4, _⟩ := id W4.ex
    walk_at "lw"
    refine ⟨c4, p, ks, B, rfl, W4, by omega, fun y0 r0 H5 nr0 pe0 so0 s5 hr0 => ?_⟩
    have st5 : Stp (fun _ => False) c4 (c9 c4 H4) H4 H5 := c9_stp s5
    have cr0 : c9 c4 H4 r0 = 9 := c9_new nr0
    have S5 := S4.frame st5 (by decide)
    have W5 := W4.frame st5 id
    have D5 := D4.frame st5 id id
    generalize c9 c4 H4 = c5 at st5 cr0 S5 W5 D5
    clear S4 W4 D4 st5 s5 nr0 hp4
    walk_at "lw"
    refine ⟨c5, S, r0, y0, 3, rfl, S5, hr0, by rw [cr0]; decide, by rw [pe0.length_eq]; omega, by decide, by decide, fun q zs c6 H6 zl zm S6 st6 hq cq => ?_⟩
    have W6 := W5.frame st6 (by decide)
    have D6 := D5.frame st6 (by decide) (by decide)
    clear S5 W5 D5 st6 hr0 cr0
    walk_at "lw"
    refine ⟨q, zs, rfl, SqL.of hq, by omega, fun a n hn na => ?_⟩
    walk_at "lw"
    refine ⟨a, _, n, rfl, upd_same, ⟨zs, by omega, fun y hy => of_decide_eq_true hy⟩, fun rts rt so nd hm np => ?_⟩
    have rin : ∀ y ∈ rts, y ∈ ks := fun y hy => pe0.subset (zm y (of_decide_eq_true ((hm y).mp hy)))
    have nrt : H6 rt = none := (Same.new na).free np
    generalize hH7 : upd (upd H6 a _) rt _ = H7
    have s7 : Same H6 H7 := by rw [← hH7]; exact (Same.new na).thenNew np
    have hrt : H7 rt = some (.lst (rts.map V.str)) := by rw [← hH7]; exact upd_same
    clear hH7
    have st7 : Stp (fun _ => False) c6 (c9 c6 H6) H6 H7 := c9_stp s7
    have crt : c9 c6 H6 rt = 9 := c9_new nrt
    have S7 := S6.frame st7 (by decide)
    have W7 := W6.frame st7 id
    have D7 := D6.frame st7 id id
    generalize c9 c6 H6 = c7 at st7 crt S7 W7 D7
    clear S6 W6 D6 st7 s7 nrt np na hn hq cq hm so zm zl
    walk_at "lw"
    intro o dxo np ndx nex
    refine ⟨o, dxo, p, rfl, upd_same, fun m t d H9 nm nt nd' htd nmp ntp ndp hp4 hm ht hd kp => ⟨rfl, ?_⟩⟩
    have s9 : Same H7 H9 := Same.made np ndx kp
    have s9' : Same H7 (upd (upd H7 dxo (.own o)) o (.ins C_Collector dxo [])) := (Same.new ndx).thenNew (by rw [upd_ne nex.symm]; exact np)
    have nm1 := s9'.free nm
    have nt1 := s9'.free nt
    have nd1 := s9'.free nd'
    let c8 : Addr → Nat := fun b => if b = o ∨ b = m ∨ b = t ∨ b = d then 6 else c7 b
    have st9 : Stp (fun _ => False) c7 c8 H7 H9 := Stp.sameC s9 fun b o e => if_neg (by
      rintro (z | z | z | z)
      · exact ne_of_none e np z
      · exact ne_of_none e nm1 z
      · exact ne_of_none e nt1 z
      · exact ne_of_none e nd1 z)
    have O9 : CoAt C_Collector c8 H9 o p "idle" [] [] [] := ⟨dxo, m, t, d, if_pos (.inl rfl), hp4, if_pos (.inr (.inl rfl)), hm, if_pos (.inr (.inr (.inl rfl))), ht, if_pos (.inr (.inr (.inr rfl))), hd, htd⟩
    have S9 := S7.frame st9 (by decide)
    have W9 : RegAt C_Store C_Store C_Store C_Collector C_Store c8 H9 ⟨0, p, 0, 0, 0, o⟩ (Rg1 ks B) := ⟨W7.frame st9 id, O9⟩
    have D9 := D7.frame st9 id id
    have crt : c8 rt = 9 := by rw [st9.col _ _ hrt, crt]
    have hrt := s9.at hrt
    clear_value c8
    clear S7 W7 D7 O9 st9 s9 s9' nm1 nt1 nd1 nm nt nd' htd nmp ntp ndp hp4 hm ht hd kp np ndx nex
    have xo : o = (⟨0, p, 0, 0, 0, o⟩ : Rx).co := rfl
    have xp : p = (⟨0, p, 0, 0, 0, o⟩ : Rx).p := rfl
    generalize hx : (⟨0, p, 0, 0, 0, o⟩ : Rx) = x at W9 xo xp
    clear hx
    subst xo xp
    walk_at "lw"
    refine g_klst (by show 0 ≤ 100; decide) fun l0 Ha na sa hl0 => ?_
    walk_at "lw"
    refine g_klst (by show 0 ≤ 100; decide) fun l1 Hb nb sb hl1 => ?_
    walk_at "lw"
    refine g_klst (by show 0 ≤ 100; decide) fun l2 Hc nc sc' hl2 => ?_
    walk_at "lw"
    refine g_klst (by show 3 ≤ 100; decide) fun ll Hd nd2 sd hll => ?_
    have sac := sa.trans (sb.trans sc')
    have sad := sac.trans sd
    obtain ⟨_, _, _, hp9, _⟩ := id (W9.st.same sad).ex
    walk_at "lw"
    refine ⟨c8, x.p, ks, B, rfl, W9.st.same sad, by omega, fun bls bl He nbl pe so se hbl => ?_⟩
    have sae := sad.trans se
    have st10 : Stp (fun _ => False) c8 (c9 c8 H9) H9 He := c9_stp sae
    have S10 := S9.frame st10 (by decide)
    have L10 : LvAt (c9 c8 H9) He ll bl [] bls (Rg1 ks B) := ⟨l0, l1, l2, c9_new (sac.free nd2), se.at hll, c9_new na, (sb.trans (sc'.trans (sd.trans se))).at hl0, c9_new (sa.free nb), (sc'.trans (sd.trans se)).at hl1, c9_new ((sa.trans sb).free nc), (sd.trans se).at hl2, c9_new (sad.free nbl), hbl⟩
    have J10 : JR ks 11 rts (Rg1 ks B) := JR.of fl bs2 kl nd rin
    have V10 : Lv 11 [] bls (Rg1 ks B) := ⟨fun y => Iff.rfl, by decide, pe, so⟩
    have X10 : LW C_Store C_Collector (c9 c8 H9) He x bd rt ll bl ks rts [] bls (Rg1 ks B) := ⟨W9.nof st10, D9.frame st10 id id, by rw [st10.col _ _ hrt, crt], sae.at hrt, L10⟩
    have K10 := fl.sk
    generalize c9 c8 H9 = c10 at st10 S10 L10 X10
    clear st10 L10 S9 W9 D9 sa sb sc' sac sad sae sd se na nb nc nd2 nbl hl0 hl1 hl2 hll hbl hp9 pe so fl bs2 kl rin hrt crt pe0 so0
    walk_at "lw"
    refine ⟨c10, S, 61, rfl, S10, by decide, by decide, fun r c11 H11 r0 r1 S11 st11 => ?_⟩
    have X11 := X10.frame st11 (by decide) (by decide) (by decide) (by decide)
    clear S10 X10 st11
    walk_at "lw"
    refine g_for1 r0 (by omega) (fun i σ H => ∃ (c : Addr → Nat) (s : Rg) (rt ll bl : Addr) (kb rts ml bls : List Str) (v9 v10 v11 v12 : Option V), σ = [some (.ref sc), some (.ref S), some (.ref x.p), some (.ref bd), some (.ref rt), some (.ref x.co), some (.str s.ph), some (.ref ll), some (.ref bl), v9, v10, v11, v12] ∧ StateAt c H S ∧ LW C_Store C_Collector c H x bd rt ll bl kb rts ml bls s ∧ JR kb (i + 11) rts s ∧ Lv (i + 11) ml bls s ∧ ∀ a ∈ kb, PyData.strOk a = true)
      ⟨c11, Rg1 ks B, rt, ll, bl, ks, rts, [], bls, none, none, none, none, rfl, S11, X11, J10, V10, K10⟩ ?_ ?_
    · clear S11 X11 J10 V10 K10
      rintro i σ H12 hi ⟨c12, s', rt, ll, bl, kb, rts, ml, bls, v9, v10, v11, v12, rfl, S12, X12, J12, V12, K12⟩
      have hi61 : i < 61 := by omega
      walk_at "lw"
      refine ⟨c12, S, 9, rfl, S12, by decide, by decide, fun kd c13 H13 kd0 kd1 S13 st13 => ?_⟩
      have X13 := X12.frame st13 (by decide) (by decide) (by decide) (by decide)
      clear S12 X12 st13
      walk_at "lw"
      refine g_cut (fun σ H => ∃ (c : Addr → Nat) (s : Rg) (rt ll bl : Addr) (kb rts ml bls : List Str) (v9 v10 v11 v12 : Option V), σ = [some (.ref sc), some (.ref S), some (.ref x.p), some (.ref bd), some (.ref rt), some (.ref x.co), some (.str s.ph), some (.ref ll), some (.ref bl), v9, v10, v11, v12] ∧ StateAt c H S ∧ LW C_Store C_Collector c H x bd rt ll bl kb rts ml bls s ∧ JR kb (i + 11 + 1) rts s ∧ Lv (i + 11 + 1) ml bls s ∧ ∀ a ∈ kb, PyData.strOk a = true) ?_ ?_
      · obtain ⟨l0, l1, l2, a1, a2, a3, a4, a5, a6, a7, a8, a9, a10⟩ := id X13.l.ex
        have hml := V12.n
        have hbl : bls.length ≤ i + 11 := by rw [V12.p.length_eq]; exact J12.ksl
        have hrl := J12.rtl
        have hkb := J12.kl
        have hks := J12.ksl
        have swf := J12.swf
        obtain ⟨_, _, _, _, _, _, _, _, _, _, _, _, _, _, hp, _, _, hco, _⟩ := X13.w.hs
        walk_at "lw"
        refine if2 (fun e0 => ?_) (fun e0 => ?_)
        · walk_at "lw"
          refine if2 (fun e1 => ?_) (fun e1 => ?_)
          · have hb0 : 0 < bls.length := by rw [List.length_map] at e1; omega
            walk_at "lw"
            refine ⟨c13, S, _, rfl, S13, by rw [List.length_map]; omega, by rw [List.length_map]; omega, fun r8 c14 H14 r80 r81 S14 st14 => ?_⟩
            have X14 := X13.frame st14 (by decide) (by decide) (by decide) (by decide)
            obtain ⟨v, hv, hat⟩ := at_in (xs := bls.map V.str) (i := r8) r80 r81
            obtain ⟨a, hal, rfl⟩ := map_at hv
            have ma : a ∈ s'.ks := V12.p.subset (List.mem_of_getElem? hal)
            have mk := J12.sub a ma
            clear S13 X13 hp hco a1 a2 a3 a4 a5 a6 a7 a8 a9 a10 st14
            obtain ⟨l0, l1, l2, a1, a2, a3, a4, a5, a6, a7, a8, a9, a10⟩ := id X14.l.ex
            refine g_rix (SqL.of a10) hat ?_
            walk_at "lw"
            refine ⟨c14, x.p, bd, s'.ks, kb, s'.B, a, rfl, X14.w.st, by omega, X14.d, J12.rl, by omega, J12.w a mk, J12.sub, fun H15 s15 => ?_⟩
            have X15 := X14.same s15
            have S15 := S14.frame (I := fun _ => False) (Stp.same s15) (by decide)
            clear S14 X14 a1 a2 a3 a4 a5 a6 a7 a8 a9 a10 s15
            refine ⟨_, rfl, ?_⟩
            by_cases hw : wk s'.ks s'.B 4 a = true
            · refine ifT hw ?_
              walk_at "lw"
              refine g_klst (by show 1 ≤ 100; decide) fun q H16 nq s16 hq => ?_
              walk_at "lw"
              refine g_cat (s16.at X15.rh) hq (by rw [List.length_map]; show rts.length + 1 ≤ 100000; omega) fun q2 H17 nq2 s17 hq2 => ?_
              have hq2 : H17 q2 = some (.lst ((rts ++ [a]).map V.str)) := by rw [hq2, List.map_append]; rfl
              have lr : (rts ++ [a]).length ≤ 100 := by rw [List.length_append]; show rts.length + 1 ≤ 100; omega
              walk_at "lw"
              refine ⟨q2, rts ++ [a], rfl, SqL.of hq2, by omega, fun b n hn nb => ?_⟩
              walk_at "lw"
              refine ⟨b, _, n, rfl, upd_same, ⟨rts ++ [a], by omega, fun y hy => of_decide_eq_true hy⟩, fun rts2 rt2 so2 nd2 hm2 np2 => ?_⟩
              have hm2 := roots_more hm2
              have s20 := s16.trans s17
              have nrt : H15 rt2 = none := s20.free ((Same.new nb).free np2)
              generalize hH : upd (upd H17 b _) rt2 _ = H18
              have s18 : Same H15 H18 := by rw [← hH]; exact s20.trans ((Same.new nb).thenNew np2)
              have hrt : H18 rt2 = some (.lst (rts2.map V.str)) := by rw [← hH]; exact upd_same
              have st18 : Stp (fun _ => False) c14 (c9 c14 H15) H15 H18 := c9_stp s18
              have crt : c9 c14 H15 rt2 = 9 := c9_new nrt
              have S18 := S15.frame st18 (by decide)
              have X18 := (X15.frame st18 id id id id).roots crt hrt
              generalize c9 c14 H15 = c18 at st18 crt S18 X18
              clear hH s18 s20 nrt np2 nb hn hq2 s17 nq2 hq s16 nq S15 X15 st18 so2
              have J18 := (J12.root hw nd2 fun y hy => (hm2 y).mp hy).mono (Nat.le_succ _)
              obtain ⟨_, _, _, _, _, _, _, _, _, _, _, _, _, _, hp, _, _, hco, _⟩ := X18.w.hs
              have mrl := J12.mrl
              walk_at "lw"
              refine ⟨c18, x, s', a, rfl, X18.w, swf, by omega, .inr ⟨hw, by omega⟩, fun c19 H19 W19 st19 => ?_⟩
              have S19 := S18.frame st19 (by decide)
              have X19 := X18.shade W19 st19
              clear S18 X18 W19 st19 hp hco crt hrt
              obtain ⟨l0, l1, l2, a1, a2, a3, a4, a5, a6, a7, a8, a9, a10⟩ := id X19.l.ex
              by_cases hph : s'.ph = "idle"
              · walk_at "lw"
                refine ifF (by rw [hph, decide_eq_true rfl]; rfl) ?_
                walk_at "lw"
                exact ⟨c19, shd s' a, rt2, ll, bl, kb, rts2, ml, bls, _, _, _, _, rfl, S19, X19, J18, lv_idle V12 hph, K12⟩
              · have hcl := clo40 J12.rl (J12.w a mk)
                walk_at "lw"
                refine ifT (by rw [decide_eq_false fun z => hph (str_eq.mp z)]; rfl) ?_
                walk_at "lw"
                refine g_rix (SqL.of a2) (atI_nat (j := 0) rfl) ?_
                walk_at "lw"
                refine g_rix (SqL.of a2) (atI_nat (j := 1) rfl) ?_
                walk_at "lw"
                refine ⟨c19, bd, kb, s'.B, a, rfl, X19.d, J12.rl, by omega, J12.w a mk, fun r H20 s20 hr => ?_⟩
                walk_at "lw"
                refine g_cat (s20.at a6) hr (by rw [List.length_map, List.length_map]; omega) fun q H21 nq s21 hq => ?_
                have hq : H21 q = some (.lst ((ml ++ clo s'.B 3 a).map V.str)) := by rw [hq, List.map_append]
                have s21 := s20.trans s21
                walk_at "lw"
                refine g_rix (SqL.of (s21.at a2)) (atI_nat (j := 2) rfl) ?_
                walk_at "lw"
                refine g_klst (by show 3 ≤ 100; decide) fun q4 H22 nq4 s22 hq4 => ?_
                walk_at "lw"
                exact ⟨c9 c19 H19, shd s' a, rt2, q4, bl, kb, rts2, ml ++ clo s'.B 3 a, bls, _, _, _, _, rfl, S19.frame (c9_stp (s21.trans s22)) (by decide), (X19.frame (c9_stp (s21.trans s22)) id id id id).lists (c9_new (s21.free nq4)) hq4 (by rw [c9_old a4, a3]) ((s21.trans s22).at a4) (c9_new (s20.free nq)) (s22.at hq) (by rw [c9_old a8, a7]) ((s21.trans s22).at a8), J18, lv_shade V12 hph hcl, K12⟩
            · refine ifF (Bool.eq_false_iff.mpr hw) ?_
              walk_at "lw"
              exact ⟨c14, s', rt, ll, bl, kb, rts, ml, bls, _, _, _, _, rfl, S15, X15, J12.mono (Nat.le_succ _), V12.up, K12⟩
          · have e0 := int_eq.mp e0
            walk_at "lw"
            refine ifF (decide_eq_false fun z => by have := int_eq.mp z; omega) ?_
            walk_at "lw"
            refine ifF (decide_eq_false fun z => by have := int_eq.mp z; omega) ?_
            refine ifF rfl ?_
            walk_at "lw"
            refine ⟨c13, ll, bl, bd, rt, kb, rts, ml, bls, s', i + 11, rfl, X13.l, V12, X13.d, X13.rh, J12, by omega, fun c14 H14 t ll' bl' ml' bls' s2 w2 cs L14 V14 st14 ht => ?_⟩
            have S14 := S13.frame st14 (by decide)
            have X14 := X13.frame st14 id id id id
            clear S13 X13 st14 hp hco
            obtain ⟨_, _, _, _, _, _, _, _, _, _, _, _, _, _, hp, _, _, hco, _⟩ := X14.w.hs
            walk_at "lw"
            refine g_gtup (SqT.of ht) rfl ?_
            walk_at "lw"
            refine ⟨rt, _, rfl, .inl (SqL.of X14.rh), fun q nq => ?_⟩
            have s15 : Same H14 (upd H14 q (.lst (rts.map V.str))) := Same.new nq
            have hq : (upd H14 q (.lst (rts.map V.str))) q = some (.lst (rts.map V.str)) := upd_same
            generalize upd H14 q (.lst (rts.map V.str)) = H15 at s15 hq
            walk_at "lw"
            refine ⟨c14, x, s', q, rts, rfl, hq, by omega, X14.w.same s15, J12.stepOk (by omega), fun c16 H16 s3 w3 cs3 W16 st16 => ?_⟩
            obtain ⟨rfl, rfl⟩ := cstep_det cs cs3
            have S16 := (S14.frame (I := fun _ => False) (Stp.same s15) (by decide)).frame st16 (by rintro (z | z) <;> cases z)
            have X15 := X14.same s15
            have n9 : ¬ ICo 9 := by rintro (z | z) <;> cases z
            have D16 := X15.d.frame st16 (by rintro (z | z) <;> cases z) n9
            have X16 : LW C_Store C_Collector c16 H16 x bd rt ll' bl' kb rts ml' bls' s2 := ⟨W16, by rw [cstep_B cs]; exact D16, by rw [st16.col _ _ X15.rh, X15.rc], st16.keep _ _ X15.rh (by rw [X15.rc]; exact n9), (L14.frame (I := fun _ => False) (Stp.same s15) id).frame st16 n9⟩
            walk_at "lw"
            refine ifF (by rw [decide_eq_true rfl]; rfl) ?_
            walk_at "lw"
            exact ⟨c16, s2, rt, ll', bl', kb, rts, ml', bls', _, _, _, _, rfl, S16, X16, J12.cstep cs, V14, K12⟩
        · refine ifF rfl ?_
          walk_at "lw"
          refine if2 (fun e1 => ?_) (fun e1 => ?_)
          · walk_at "lw"
            refine ⟨c13, S, 3, rfl, S13, by decide, by decide, fun t c14 H14 tl tx S14 st14 => ?_⟩
            have tok : okC t := signs8_okC tx
            have tl3 : t.length ≤ 3 := by omega
            have tLT : t ∈ Sw.LT := Sw.mem_LT tl3 tx
            have X14 := X13.frame st14 (by decide) (by decide) (by decide) (by decide)
            have r0' : (⟨.lay, t⟩ : Bl).refs = [] := refs_lay rfl
            obtain ⟨J15, hw⟩ := J12.sto tLT tl3 tok
            have K15 : ∀ a ∈ putS kb (LA t), PyData.strOk a = true := fun a ha => (mem_putS.mp ha).elim (K12 a) fun z => by rw [z]; exact adrB_ok _
            clear S13 X13 hp hco a1 a2 a3 a4 a5 a6 a7 a8 a9 a10 st14
            walk_at "lw"
            refine ⟨c14, x.p, s'.ks, s'.B, ⟨.lay, t⟩, rfl, X14.w.st, by omega, fun H15 W15 st15 => ?_⟩
            rw [show adrB (⟨.lay, t⟩ : Bl) = LA t from rfl]
            have S15 := S14.frame st15 (by decide)
            have X15 := X14.sto W15 st15
            clear S14 X14 W15 st15
            walk_at "lw"
            refine g_klst (by show 0 ≤ 100; decide) fun q H16 nq s16 hq => ?_
            have st16 : Stp (fun _ => False) c14 (c9 c14 H15) H15 H16 := c9_stp s16
            have cq : c9 c14 H15 q = 9 := c9_new nq
            have S16 := S15.frame st16 (by decide)
            have X16 := X15.frame st16 id id id id
            generalize c9 c14 H15 = c16 at st16 cq S16 X16
            clear S15 X15 st16 s16 nq
            obtain ⟨A', cbd, hbd, hA⟩ := X16.d.ex
            walk_at "lw"
            refine g_rdputS hbd (by rw [mkS_len]; omega) fun H17 h17 k17 => ?_
            have D17 : BelowAt c16 H17 bd (putS kb (LA t)) (updB s'.B (LA t) ⟨.lay, t⟩) := BelowAt.put (b := ⟨.lay, t⟩) cbd hbd hA cq (by rw [r0']; exact hq) h17 k17
            have st17 : Stp (fun i => i = 2) c16 c16 H16 H17 := Stp.ch hbd cbd (fun xs z => by cases z) h17 k17
            have S17 := S16.frame st17 (by decide)
            have X17 := X16.put D17 st17
            clear S16 X16 st17 cbd hbd hA h17 k17 D17 hq cq
            generalize hs1 : Lw.sto s' ⟨.lay, t⟩ = s1 at X17 J15 hw
            have eph : s1.ph = s'.ph := by rw [← hs1]; rfl
            have eks : s1.ks = putS s'.ks (LA t) := by rw [← hs1]; rfl
            have etd : s1.td = s'.td := by rw [← hs1]; rfl
            have emr : s1.mr = s'.mr := by rw [← hs1]; rfl
            have erf : (s1.B (LA t)).refs = [] := by rw [← hs1]; show (updB s'.B (LA t) ⟨.lay, t⟩ (LA t)).refs = []; rw [updB_same]; exact r0'
            rw [← eph]
            clear hs1
            generalize LA t = a at X17 J15 hw K15 eks erf
            have ecl : clo s1.B 3 a = [a] := clo_lay erf
            walk_at "lw"
            refine g_klst (by show 1 ≤ 100; decide) fun q H18 nq s18 hq => ?_
            walk_at "lw"
            obtain ⟨_, _, _, _, _, _, _, _, _, _, _, _, b9⟩ := id X17.l.ex
            refine g_cat (s18.at b9) hq (by rw [List.length_map]; show bls.length + 1 ≤ 100000; omega) fun q2 H19 nq2 s19 hq2 => ?_
            have hq2 : H19 q2 = some (.lst ((bls ++ [a]).map V.str)) := by rw [hq2, List.map_append]; rfl
            have lr : (bls ++ [a]).length ≤ 100 := by rw [List.length_append]; show bls.length + 1 ≤ 100; omega
            walk_at "lw"
            refine ⟨q2, bls ++ [a], rfl, SqL.of hq2, by omega, fun b n hn nb => ?_⟩
            walk_at "lw"
            refine ⟨b, _, n, rfl, upd_same, ⟨bls ++ [a], by omega, fun y hy => of_decide_eq_true hy⟩, fun bls2 bl2 so2 nd2 hm2 np2 => ?_⟩
            have hm2 := roots_more hm2
            have s20 := s18.trans s19
            have nbl : H17 bl2 = none := s20.free ((Same.new nb).free np2)
            generalize hH : upd (upd H19 b _) bl2 _ = H20
            have s20 : Same H17 H20 := by rw [← hH]; exact s20.trans ((Same.new nb).thenNew np2)
            have hbl2 : H20 bl2 = some (.lst (bls2.map V.str)) := by rw [← hH]; exact upd_same
            have st20 : Stp (fun _ => False) c16 (c9 c16 H17) H17 H20 := c9_stp s20
            have cbl : c9 c16 H17 bl2 = 9 := c9_new nbl
            have S20 := S17.frame st20 (by decide)
            have X20 := (X17.frame st20 id id id id).blobs cbl hbl2
            have V20 : Lv (i + 11) ml bls2 s1 := ⟨by rw [emr]; exact V12.e, V12.n, by rw [eks]; exact perm_same nd2 (putS_nd J12.nd) fun y => by rw [hm2, mem_putS, V12.p.mem_iff], so2⟩
            generalize c9 c16 H17 = c20 at st20 cbl S20 X20
            clear hH s20 nbl np2 nb hn hq2 s19 nq2 hq s18 nq S17 X17 st20 so2 nd2 hm2 cbl hbl2 lr b9
            walk_at "lw"
            refine g_klst (by show 1 ≤ 100; decide) fun q H16 nq s16 hq => ?_
            walk_at "lw"
            refine g_cat (s16.at X20.rh) hq (by rw [List.length_map]; show rts.length + 1 ≤ 100000; omega) fun q2 H17 nq2 s17 hq2 => ?_
            have hq2 : H17 q2 = some (.lst ((rts ++ [a]).map V.str)) := by rw [hq2, List.map_append]; rfl
            have lr : (rts ++ [a]).length ≤ 100 := by rw [List.length_append]; show rts.length + 1 ≤ 100; omega
            walk_at "lw"
            refine ⟨q2, rts ++ [a], rfl, SqL.of hq2, by omega, fun b n hn nb => ?_⟩
            walk_at "lw"
            refine ⟨b, _, n, rfl, upd_same, ⟨rts ++ [a], by omega, fun y hy => of_decide_eq_true hy⟩, fun rts2 rt2 so2 nd2 hm2 np2 => ?_⟩
            have hm2 := roots_more hm2
            have s21 := s16.trans s17
            have nrt : H20 rt2 = none := s21.free ((Same.new nb).free np2)
            generalize hH : upd (upd H17 b _) rt2 _ = H18
            have s18 : Same H20 H18 := by rw [← hH]; exact s21.trans ((Same.new nb).thenNew np2)
            have hrt : H18 rt2 = some (.lst (rts2.map V.str)) := by rw [← hH]; exact upd_same
            have st18 : Stp (fun _ => False) c20 (c9 c20 H20) H20 H18 := c9_stp s18
            have crt : c9 c20 H20 rt2 = 9 := c9_new nrt
            have S18 := S20.frame st18 (by decide)
            have X18 := (X20.frame st18 id id id id).roots crt hrt
            generalize c9 c20 H20 = c18 at st18 crt S18 X18
            clear hH s18 s21 nrt np2 nb hn hq2 s17 nq2 hq s16 nq S20 X20 st18 so2
            have J18 := J15.root hw nd2 fun y hy => (hm2 y).mp hy
            obtain ⟨_, _, _, _, _, _, _, _, _, _, _, _, _, _, hp, _, _, hco, _⟩ := X18.w.hs
            have mrl := J15.mrl
            have ksl := J15.ksl
            walk_at "lw"
            refine ⟨c18, x, s1, a, rfl, X18.w, J15.swf, by omega, .inr ⟨hw, by omega⟩, fun c19 H19 W19 st19 => ?_⟩
            have S19 := S18.frame st19 (by decide)
            have X19 := X18.shade W19 st19
            clear S18 X18 W19 st19 hp hco crt hrt
            obtain ⟨l0, l1, l2, a1, a2, a3, a4, a5, a6, a7, a8, a9, a10⟩ := id X19.l.ex
            by_cases hph : s1.ph = "idle"
            · walk_at "lw"
              refine ifF (by rw [hph, decide_eq_true rfl]; rfl) ?_
              walk_at "lw"
              exact ⟨c19, shd s1 a, rt2, ll, bl2, putS kb a, rts2, ml, bls2, _, _, _, _, rfl, S19, X19, J18, lv_idle V20 hph, K15⟩
            · walk_at "lw"
              refine ifT (by rw [decide_eq_false fun z => hph (str_eq.mp z)]; rfl) ?_
              walk_at "lw"
              refine g_rix (SqL.of a2) (atI_nat (j := 0) rfl) ?_
              walk_at "lw"
              refine g_rix (SqL.of a2) (atI_nat (j := 1) rfl) ?_
              walk_at "lw"
              refine g_klst (by show 1 ≤ 100; decide) fun r H20 nr s20 hr => ?_
              walk_at "lw"
              refine g_cat (s20.at a6) hr (by rw [List.length_map]; show ml.length + 1 ≤ _; omega) fun q H21 nq s21 hq => ?_
              have hq : H21 q = some (.lst ((ml ++ clo s1.B 3 a).map V.str)) := by rw [hq, ecl, List.map_append]; rfl
              have s21 := s20.trans s21
              walk_at "lw"
              refine g_rix (SqL.of (s21.at a2)) (atI_nat (j := 2) rfl) ?_
              walk_at "lw"
              refine g_klst (by show 3 ≤ 100; decide) fun q4 H22 nq4 s22 hq4 => ?_
              walk_at "lw"
              exact ⟨c9 c19 H19, shd s1 a, rt2, q4, bl2, putS kb a, rts2, ml ++ clo s1.B 3 a, bls2, _, _, _, _, rfl, S19.frame (c9_stp (s21.trans s22)) (by decide), (X19.frame (c9_stp (s21.trans s22)) id id id id).lists (c9_new (s21.free nq4)) hq4 (by rw [c9_old a4, a3]) ((s21.trans s22).at a4) (c9_new (s20.free nq)) (s22.at hq) (by rw [c9_old a8, a7]) ((s21.trans s22).at a8), J18, lv_shade V20 hph (by rw [ecl]; show 1 ≤ 40; decide), K15⟩
          · walk_at "lw"
            refine if2 (fun e2 => ?_) (fun e2 => ?_)
            · walk_at "lw"
              refine ⟨c13, S, 5, rfl, S13, by decide, by decide, fun r5 c13 H13 r50 r51 S13 st13 => ?_⟩
              have X13 := X13.frame st13 (by decide) (by decide) (by decide) (by decide)
              obtain ⟨_, _, _, _, _, _, _, _, _, _, _, _, _, _, hp, _, _, hco, _⟩ := X13.w.hs
              walk_at "lw"
              refine if2 (fun e3 => ?_) (fun e3 => ?_)
              · walk_at "lw"
                refine ⟨c13, x, s', rfl, X13.w, fun c14 H14 W14 st14 => ?_⟩
                walk_at "lw"
                refine g_klst (by show 0 ≤ 100; decide) fun l0 Ha na sa hl0 => ?_
                walk_at "lw"
                refine g_klst (by show 0 ≤ 100; decide) fun l1 Hb nb sb hl1 => ?_
                walk_at "lw"
                refine g_klst (by show 0 ≤ 100; decide) fun l2 Hc nc sc' hl2 => ?_
                walk_at "lw"
                refine g_klst (by show 3 ≤ 100; decide) fun ll2 Hd nd2 sd hll => ?_
                have sac := sa.trans (sb.trans sc')
                have sad := sac.trans sd
                have S14 := S13.frame st14 (by decide)
                have X14 := X13.stop W14 st14
                walk_at "lw"
                exact ⟨c9 c14 H14, { s' with ph := "idle", mr := [], td := [], dm := [] }, rt, ll2, bl, kb, rts, [], bls, _, _, _, _, rfl, S14.frame (c9_stp sad) (by decide), (X14.frame (c9_stp sad) id id id id).lists (s := { s' with ph := "idle", mr := [], td := [], dm := [] }) (c9_new (sac.free nd2)) hll (c9_new na) ((sb.trans (sc'.trans sd)).at hl0) (c9_new (sa.free nb)) ((sc'.trans sd).at hl1) (c9_new ((sa.trans sb).free nc)) (sd.at hl2), J12.stop.mono (Nat.le_succ _), ⟨fun y => Iff.rfl, Nat.zero_le _, V12.p, V12.s⟩, K12⟩
              · walk_at "lw"
                refine ⟨c13, ll, bl, bd, rt, kb, rts, ml, bls, s', i + 11, rfl, X13.l, V12, X13.d, X13.rh, J12, by omega, fun c14 H14 t ll' bl' ml' bls' s2 w2 cs L14 V14 st14 ht => ?_⟩
                have S14 := S13.frame st14 (by decide)
                have X14 := X13.frame st14 id id id id
                clear S13 X13 st14 hp hco
                obtain ⟨_, _, _, _, _, _, _, _, _, _, _, _, _, _, hp, _, _, hco, _⟩ := X14.w.hs
                walk_at "lw"
                refine g_gtup (SqT.of ht) rfl ?_
                walk_at "lw"
                refine ⟨rt, _, rfl, .inl (SqL.of X14.rh), fun q nq => ?_⟩
                have s15 : Same H14 (upd H14 q (.lst (rts.map V.str))) := Same.new nq
                have hq : (upd H14 q (.lst (rts.map V.str))) q = some (.lst (rts.map V.str)) := upd_same
                generalize upd H14 q (.lst (rts.map V.str)) = H15 at s15 hq
                walk_at "lw"
                refine ⟨c14, x, s', q, rts, rfl, hq, by omega, X14.w.same s15, J12.stepOk (by omega), fun c16 H16 s3 w3 cs3 W16 st16 => ?_⟩
                obtain ⟨rfl, rfl⟩ := cstep_det cs cs3
                have S16 := (S14.frame (I := fun _ => False) (Stp.same s15) (by decide)).frame st16 (by rintro (z | z) <;> cases z)
                have X15 := X14.same s15
                have n9 : ¬ ICo 9 := by rintro (z | z) <;> cases z
                have D16 := X15.d.frame st16 (by rintro (z | z) <;> cases z) n9
                have X16 : LW C_Store C_Collector c16 H16 x bd rt ll' bl' kb rts ml' bls' s2 := ⟨W16, by rw [cstep_B cs]; exact D16, by rw [st16.col _ _ X15.rh, X15.rc], st16.keep _ _ X15.rh (by rw [X15.rc]; exact n9), (L14.frame (I := fun _ => False) (Stp.same s15) id).frame st16 n9⟩
                walk_at "lw"
                refine ifF (by rw [decide_eq_true rfl]; rfl) ?_
                walk_at "lw"
                exact ⟨c16, s2, rt, ll', bl', kb, rts, ml', bls', _, _, _, _, rfl, S16, X16, J12.cstep cs, V14, K12⟩
            · refine ifF rfl ?_
              walk_at "lw"
              refine ⟨c13, ll, bl, bd, rt, kb, rts, ml, bls, s', i + 11, rfl, X13.l, V12, X13.d, X13.rh, J12, by omega, fun c14 H14 t ll' bl' ml' bls' s2 w2 cs L14 V14 st14 ht => ?_⟩
              have S14 := S13.frame st14 (by decide)
              have X14 := X13.frame st14 id id id id
              clear S13 X13 st14 hp hco
              obtain ⟨_, _, _, _, _, _, _, _, _, _, _, _, _, _, hp, _, _, hco, _⟩ := X14.w.hs
              walk_at "lw"
              refine g_gtup (SqT.of ht) rfl ?_
              walk_at "lw"
              refine ⟨rt, _, rfl, .inl (SqL.of X14.rh), fun q nq => ?_⟩
              have s15 : Same H14 (upd H14 q (.lst (rts.map V.str))) := Same.new nq
              have hq : (upd H14 q (.lst (rts.map V.str))) q = some (.lst (rts.map V.str)) := upd_same
              generalize upd H14 q (.lst (rts.map V.str)) = H15 at s15 hq
              walk_at "lw"
              refine ⟨c14, x, s', q, rts, rfl, hq, by omega, X14.w.same s15, J12.stepOk (by omega), fun c16 H16 s3 w3 cs3 W16 st16 => ?_⟩
              obtain ⟨rfl, rfl⟩ := cstep_det cs cs3
              have S16 := (S14.frame (I := fun _ => False) (Stp.same s15) (by decide)).frame st16 (by rintro (z | z) <;> cases z)
              have X15 := X14.same s15
              have n9 : ¬ ICo 9 := by rintro (z | z) <;> cases z
              have D16 := X15.d.frame st16 (by rintro (z | z) <;> cases z) n9
              have X16 : LW C_Store C_Collector c16 H16 x bd rt ll' bl' kb rts ml' bls' s2 := ⟨W16, by rw [cstep_B cs]; exact D16, by rw [st16.col _ _ X15.rh, X15.rc], st16.keep _ _ X15.rh (by rw [X15.rc]; exact n9), (L14.frame (I := fun _ => False) (Stp.same s15) id).frame st16 n9⟩
              walk_at "lw"
              refine ifF (by rw [decide_eq_true rfl]; rfl) ?_
              walk_at "lw"
              exact ⟨c16, s2, rt, ll', bl', kb, rts, ml', bls', _, _, _, _, rfl, S16, X16, J12.cstep cs, V14, K12⟩
      · clear S13 X13 J12 V12 K12
        rintro σ H14 ⟨c14, s2, rt, ll, bl, kb, rts, ml, bls, v9, v10, v11, v12, rfl, S14, X14, J14, V14, K14⟩
        obtain ⟨_, _, _, _, _, _, _, _, _, _, _, _, _, _, hp, _, _, hco, _⟩ := X14.w.hs
        obtain ⟨l0, l1, l2, a1, a2, a3, a4, a5, a6, a7, a8, a9, a10⟩ := id X14.l.ex
        have hml := V14.n
        have hrl := J14.rtl
        have hkb := J14.kl
        have hks := J14.ksl
        have mrl := J14.mrl
        walk_at "lw"
        refine ⟨c14, x.p, s2.ks, s2.B, rfl, X14.w.st, by omega, fun ys r H15 nr pe so s15 hr => ?_⟩
        have eys : ys = bls := str_sorted_eq (pe.trans V14.p.symm) so V14.s
        rw [eys] at hr
        have X15 := X14.same s15
        have S15 := S14.frame (I := fun _ => False) (Stp.same s15) (by decide)
        walk_at "lw"
        refine g_rneS hr (s15.at a10) (fun y hy => K14 y (J14.sub y (V14.p.subset hy))) ?_
        obtain ⟨_, _, _, _, _, _, _, _, _, _, _, _, _, _, hp, _, _, hco, _⟩ := X15.w.hs
        obtain ⟨dxo, cm, ct, cd, _, ho, _, hm, _⟩ := X15.w.co.ex
        walk_at "lw"
        refine ifF (by rw [decide_eq_true rfl]; rfl) ?_
        walk_at "lw"
        refine ⟨_, _, s2.mr, rfl, .of hm, mkS_keys, by omega, fun y1 p1 pe1 so1 np1 => ?_⟩
        generalize hH : upd H15 p1 _ = H16
        have s16 : Same H15 H16 := by rw [← hH]; exact Same.new np1
        have hp1 : H16 p1 = some (.lst (y1.map V.str)) := by rw [← hH]; exact upd_same
        clear hH
        walk_at "lw"
        refine g_rix (SqL.of (s16.at (s15.at a2))) (atI_nat (j := 1) rfl) ?_
        walk_at "lw"
        refine ⟨l1, ml, rfl, SqL.of (s16.at (s15.at a6)), by omega, fun b n hn nb => ?_⟩
        walk_at "lw"
        refine ⟨b, _, n, rfl, upd_same, ⟨ml, by omega, fun y hy => of_decide_eq_true hy⟩, fun y2 p2 so2 nd2 hm2 np2 => ?_⟩
        have e12 : y1 = y2 := str_sorted_eq (pe1.trans (perm_same J14.mn nd2 fun y => by rw [hm2, decide_eq_true_eq, V14.e])) so1 so2
        generalize hH : upd (upd H16 b _) p2 _ = H17
        have s17 : Same H16 H17 := by rw [← hH]; exact (Same.new nb).thenNew np2
        have hp2 : H17 p2 = some (.lst (y1.map V.str)) := by rw [← hH, e12]; exact upd_same
        clear hH
        refine g_rneS (s17.at hp1) hp2 (fun y hy => K14 y (J14.sub y (J14.mrk y (pe1.subset hy)))) ?_
        have s27 := s16.trans s17
        have X17 := X15.same s27
        have S17 := S15.frame (I := fun _ => False) (Stp.same s27) (by decide)
        clear X15 S15 X14 S14 s15 s16 s17 hp1 hp2 hp hco ho hm
        walk_at "lw"
        refine g_ritL (SqL.of X17.rh) ?_
        refine for_at (G := fun H' => SqL K H' rt (rts.map V.str)) walk_list (fun j σ H' => Same H17 H' ∧ ∃ v11 : Option V, σ = [some (.ref sc), some (.ref S), some (.ref x.p), some (.ref bd), some (.ref rt), some (.ref x.co), some (.str s2.ph), some (.ref ll), some (.ref bl), v9, v10, v11, v12]) ⟨Same.refl _, _, rfl⟩ (fun j σ H' h => SqL.of (h.1.at X17.rh)) ?_ ?_
        · rintro j yy σ H18 hyy ⟨s18, v11', rfl⟩
          obtain ⟨y, hy, rfl⟩ := map_at hyy
          have hw := J14.rt y (List.mem_of_getElem? hy)
          have X18 := X17.same s18
          walk_at "lw"
          refine ⟨c14, x.p, bd, s2.ks, kb, s2.B, y, rfl, X18.w.st, by omega, X18.d, J14.rl, by omega, J14.w y (J14.sub y (wk_in hw)), J14.sub, fun H19 s19 => ?_⟩
          rw [hw]
          walk_at "lw"
          exact ⟨s18.trans s19, _, rfl⟩
        · rintro σ H18 ⟨s18, v11', rfl⟩
          walk_at "lw"
          exact ⟨c14, s2, rt, ll, bl, kb, rts, ml, bls, _, _, _, _, rfl, S17.frame (I := fun _ => False) (Stp.same s18) (by decide), X17.same s18, J14, V14, K14⟩
    · rintro σ H10 ⟨c10, s', rt, ll, bl, kb, rts, ml, bls, v9, v10, v11, v12, rfl, S10, X10, J10, V10, K10⟩
      walk_at "lw"
      exact k _
end
end Lw

namespace Lw
open PySem L2
open PyProof.Rows (envOfC)
theorem all_mk {l : PySem.W.OpenLaw} {w : World} {K : PySem.W.Frag} {h : Heap} {mg : Str → Option Value} {fa C_Collector C_Store C_Refused C_Malformed a_KINDS f_Collector___init__ f_Collector_stop f_Collector_shade f_Collector_step f_Collector_mark_one f_Collector_sweep_one f_Store___init__ f_Store_keep f_Store_remove_blob f_Store_addresses f_Store_below f_Store_closure f_Malformed___init__ f__wall f_address_of f_is_address f_image_text f_bundle_text f_lines_of f_read_image f_is_platform f_read_bundle f_references f__law_state f__law_take f__law_text f__law_some f__law_fill f__law_closure f__law_is_whole f__law_step f_law : Addr} {od_Collector___init__ an_Collector___init__ : Option Addr} {sl_Collector___init__ : Array (Option Value)} {oc_Collector___init__ kV_Collector___init__ dc_Collector___init__ pm_Collector___init__ cd_Collector___init__ ct_Collector___init__ : Value} {od_Collector_stop an_Collector_stop : Option Addr} {sl_Collector_stop : Array (Option Value)} {oc_Collector_stop kV_Collector_stop dc_Collector_stop pm_Collector_stop cd_Collector_stop ct_Collector_stop : Value} {od_Collector_shade an_Collector_shade : Option Addr} {sl_Collector_shade : Array (Option Value)} {oc_Collector_shade kV_Collector_shade dc_Collector_shade pm_Collector_shade cd_Collector_shade ct_Collector_shade : Value} {od_Collector_step an_Collector_step : Option Addr} {sl_Collector_step : Array (Option Value)} {oc_Collector_step kV_Collector_step dc_Collector_step pm_Collector_step cd_Collector_step ct_Collector_step : Value} {od_Collector_mark_one an_Collector_mark_one : Option Addr} {sl_Collector_mark_one : Array (Option Value)} {oc_Collector_mark_one kV_Collector_mark_one dc_Collector_mark_one pm_Collector_mark_one cd_Collector_mark_one ct_Collector_mark_one : Value} {od_Collector_sweep_one an_Collector_sweep_one : Option Addr} {sl_Collector_sweep_one : Array (Option Value)} {oc_Collector_sweep_one kV_Collector_sweep_one dc_Collector_sweep_one pm_Collector_sweep_one cd_Collector_sweep_one ct_Collector_sweep_one : Value} {od_Store___init__ an_Store___init__ : Option Addr} {sl_Store___init__ : Array (Option Value)} {oc_Store___init__ kV_Store___init__ dc_Store___init__ pm_Store___init__ cd_Store___init__ ct_Store___init__ : Value} {od_Store_keep an_Store_keep : Option Addr} {sl_Store_keep : Array (Option Value)} {oc_Store_keep kV_Store_keep dc_Store_keep pm_Store_keep cd_Store_keep ct_Store_keep : Value} {od_Store_remove_blob an_Store_remove_blob : Option Addr} {sl_Store_remove_blob : Array (Option Value)} {oc_Store_remove_blob kV_Store_remove_blob dc_Store_remove_blob pm_Store_remove_blob cd_Store_remove_blob ct_Store_remove_blob : Value} {od_Store_addresses an_Store_addresses : Option Addr} {sl_Store_addresses : Array (Option Value)} {oc_Store_addresses kV_Store_addresses dc_Store_addresses pm_Store_addresses cd_Store_addresses ct_Store_addresses : Value} {od_Store_below an_Store_below : Option Addr} {sl_Store_below : Array (Option Value)} {oc_Store_below kV_Store_below dc_Store_below pm_Store_below cd_Store_below ct_Store_below : Value} {od_Store_closure an_Store_closure : Option Addr} {sl_Store_closure : Array (Option Value)} {oc_Store_closure kV_Store_closure dc_Store_closure pm_Store_closure cd_Store_closure ct_Store_closure : Value} {od_Malformed___init__ an_Malformed___init__ : Option Addr} {sl_Malformed___init__ : Array (Option Value)} {oc_Malformed___init__ kV_Malformed___init__ dc_Malformed___init__ pm_Malformed___init__ cd_Malformed___init__ ct_Malformed___init__ : Value} {od__wall an__wall : Option Addr} {sl__wall : Array (Option Value)} {oc__wall kV__wall dc__wall pm__wall cd__wall ct__wall : Value} {od_address_of an_address_of : Option Addr} {sl_address_of : Array (Option Value)} {oc_address_of kV_address_of dc_address_of pm_address_of cd_address_of ct_address_of : Value} {od_is_address an_is_address : Option Addr} {sl_is_address : Array (Option Value)} {oc_is_address kV_is_address dc_is_address pm_is_address cd_is_address ct_is_address : Value} {od_image_text an_image_text : Option Addr} {sl_image_text : Array (Option Value)} {oc_image_text kV_image_text dc_image_text pm_image_text cd_image_text ct_image_text : Value} {od_bundle_text an_bundle_text : Option Addr} {sl_bundle_text : Array (Option Value)} {oc_bundle_text kV_bundle_text dc_bundle_text pm_bundle_text cd_bundle_text ct_bundle_text : Value} {od_lines_of an_lines_of : Option Addr} {sl_lines_of : Array (Option Value)} {oc_lines_of kV_lines_of dc_lines_of pm_lines_of cd_lines_of ct_lines_of : Value} {od_read_image an_read_image : Option Addr} {sl_read_image : Array (Option Value)} {oc_read_image kV_read_image dc_read_image pm_read_image cd_read_image ct_read_image : Value} {od_is_platform an_is_platform : Option Addr} {sl_is_platform : Array (Option Value)} {oc_is_platform kV_is_platform dc_is_platform pm_is_platform cd_is_platform ct_is_platform : Value} {od_read_bundle an_read_bundle : Option Addr} {sl_read_bundle : Array (Option Value)} {oc_read_bundle kV_read_bundle dc_read_bundle pm_read_bundle cd_read_bundle ct_read_bundle : Value} {od_references an_references : Option Addr} {sl_references : Array (Option Value)} {oc_references kV_references dc_references pm_references cd_references ct_references : Value} {od__law_state an__law_state : Option Addr} {sl__law_state : Array (Option Value)} {oc__law_state kV__law_state dc__law_state pm__law_state cd__law_state ct__law_state : Value} {od__law_take an__law_take : Option Addr} {sl__law_take : Array (Option Value)} {oc__law_take kV__law_take dc__law_take pm__law_take cd__law_take ct__law_take : Value} {od__law_text an__law_text : Option Addr} {sl__law_text : Array (Option Value)} {oc__law_text kV__law_text dc__law_text pm__law_text cd__law_text ct__law_text : Value} {od__law_some an__law_some : Option Addr} {sl__law_some : Array (Option Value)} {oc__law_some kV__law_some dc__law_some pm__law_some cd__law_some ct__law_some : Value} {od__law_fill an__law_fill : Option Addr} {sl__law_fill : Array (Option Value)} {oc__law_fill kV__law_fill dc__law_fill pm__law_fill cd__law_fill ct__law_fill : Value} {od__law_closure an__law_closure : Option Addr} {sl__law_closure : Array (Option Value)} {oc__law_closure kV__law_closure dc__law_closure pm__law_closure cd__law_closure ct__law_closure : Value} {od__law_is_whole an__law_is_whole : Option Addr} {sl__law_is_whole : Array (Option Value)} {oc__law_is_whole kV__law_is_whole dc__law_is_whole pm__law_is_whole cd__law_is_whole ct__law_is_whole : Value} {od__law_step an__law_step : Option Addr} {sl__law_step : Array (Option Value)} {oc__law_step kV__law_step dc__law_step pm__law_step cd__law_step ct__law_step : Value} {od_law an_law : Option Addr} {sl_law : Array (Option Value)} {oc_law kV_law dc_law pm_law cd_law ct_law : Value} {nm_Malformed q_Malformed : Str} {N_Malformed : Addr} {bs_Malformed sb_Malformed : List Value} {sn_Malformed : List Str} {ab_Malformed : Bool} {col_Malformed : Option Bool} {dd_Malformed : Option Addr} {m0_Malformed m1_Malformed m2_Malformed m3_Malformed m5_Malformed : Option Value} {t_DIGITS t_LETTERS t_MAX_LINES t_PRIME : Tok} {its_KINDS : Array Value} {n_KINDS : Nat} {sl_KINDS : Array (Option Value)} (X : K.In h) (G : h.Ns mainGlobals mg) (hfa : mg "law" = some (.ref fa))
    (a_Collector : PySem.W.nsIn K mainGlobals "Collector" = some (some (.ref C_Collector)))
    (pg_Collector : PySem.W.plainGet K C_Collector Str.empty = true)
    (hd_Collector : PySem.W.hasDictIn K C_Collector = true)
    (po_Collector : PySem.W.plainOver K C_Collector = true)
    (sa_Collector : PySem.W.findIn K (.ref C_Collector) "__setattr__" = some (some (.builtin "object.__setattr__")))
    (mk_Collector : PySem.W.makesIn K C_Collector = true)
    (kc_Collector : PySem.W.keepIn K (.ref C_Collector) = true)
    (na_Collector_store : PySem.W.findIn K (.ref C_Collector) "store" = some none)
    (na_Collector_phase : PySem.W.findIn K (.ref C_Collector) "phase" = some none)
    (na_Collector_marked : PySem.W.findIn K (.ref C_Collector) "marked" = some none)
    (na_Collector_todo : PySem.W.findIn K (.ref C_Collector) "todo" = some none)
    (na_Collector_doomed : PySem.W.findIn K (.ref C_Collector) "doomed" = some none)
    (a_Collector___init__ : PySem.W.findIn K (.ref C_Collector) "__init__" = some (some (.ref f_Collector___init__)))
    (i_Collector___init__ : PySem.W.isFn K (.ref f_Collector___init__) = true)
    (l_Collector___init__ : K.lookup f_Collector___init__ = some ⟨oc_Collector___init__, od_Collector___init__, .func (PySem.W.fnOf "__init__" "Collector.__init__" (defArgs s_Collector___init__) (defBody s_Collector___init__) (defScope s_Collector___init__) .none kV_Collector___init__ dc_Collector___init__ pm_Collector___init__ an_Collector___init__ cd_Collector___init__ ct_Collector___init__), sl_Collector___init__⟩)
    (c_Collector___init__ : PySem.W.codeIn K cd_Collector___init__ "Collector.__init__" = true)
    (k_Collector___init__ : PySem.W.keepIn K (.ref f_Collector___init__) = true)
    (a_Collector_stop : PySem.W.findIn K (.ref C_Collector) "stop" = some (some (.ref f_Collector_stop)))
    (i_Collector_stop : PySem.W.isFn K (.ref f_Collector_stop) = true)
    (l_Collector_stop : K.lookup f_Collector_stop = some ⟨oc_Collector_stop, od_Collector_stop, .func (PySem.W.fnOf "stop" "Collector.stop" (defArgs s_Collector_stop) (defBody s_Collector_stop) (defScope s_Collector_stop) .none kV_Collector_stop dc_Collector_stop pm_Collector_stop an_Collector_stop cd_Collector_stop ct_Collector_stop), sl_Collector_stop⟩)
    (c_Collector_stop : PySem.W.codeIn K cd_Collector_stop "Collector.stop" = true)
    (k_Collector_stop : PySem.W.keepIn K (.ref f_Collector_stop) = true)
    (a_Collector_shade : PySem.W.findIn K (.ref C_Collector) "shade" = some (some (.ref f_Collector_shade)))
    (i_Collector_shade : PySem.W.isFn K (.ref f_Collector_shade) = true)
    (l_Collector_shade : K.lookup f_Collector_shade = some ⟨oc_Collector_shade, od_Collector_shade, .func (PySem.W.fnOf "shade" "Collector.shade" (defArgs s_Collector_shade) (defBody s_Collector_shade) (defScope s_Collector_shade) .none kV_Collector_shade dc_Collector_shade pm_Collector_shade an_Collector_shade cd_Collector_shade ct_Collector_shade), sl_Collector_shade⟩)
    (c_Collector_shade : PySem.W.codeIn K cd_Collector_shade "Collector.shade" = true)
    (k_Collector_shade : PySem.W.keepIn K (.ref f_Collector_shade) = true)
    (a_Collector_step : PySem.W.findIn K (.ref C_Collector) "step" = some (some (.ref f_Collector_step)))
    (i_Collector_step : PySem.W.isFn K (.ref f_Collector_step) = true)
    (l_Collector_step : K.lookup f_Collector_step = some ⟨oc_Collector_step, od_Collector_step, .func (PySem.W.fnOf "step" "Collector.step" (defArgs s_Collector_step) (defBody s_Collector_step) (defScope s_Collector_step) .none kV_Collector_step dc_Collector_step pm_Collector_step an_Collector_step cd_Collector_step ct_Collector_step), sl_Collector_step⟩)
    (c_Collector_step : PySem.W.codeIn K cd_Collector_step "Collector.step" = true)
    (k_Collector_step : PySem.W.keepIn K (.ref f_Collector_step) = true)
    (a_Collector_mark_one : PySem.W.findIn K (.ref C_Collector) "mark_one" = some (some (.ref f_Collector_mark_one)))
    (i_Collector_mark_one : PySem.W.isFn K (.ref f_Collector_mark_one) = true)
    (l_Collector_mark_one : K.lookup f_Collector_mark_one = some ⟨oc_Collector_mark_one, od_Collector_mark_one, .func (PySem.W.fnOf "mark_one" "Collector.mark_one" (defArgs s_Collector_mark_one) (defBody s_Collector_mark_one) (defScope s_Collector_mark_one) .none kV_Collector_mark_one dc_Collector_mark_one pm_Collector_mark_one an_Collector_mark_one cd_Collector_mark_one ct_Collector_mark_one), sl_Collector_mark_one⟩)
    (c_Collector_mark_one : PySem.W.codeIn K cd_Collector_mark_one "Collector.mark_one" = true)
    (k_Collector_mark_one : PySem.W.keepIn K (.ref f_Collector_mark_one) = true)
    (a_Collector_sweep_one : PySem.W.findIn K (.ref C_Collector) "sweep_one" = some (some (.ref f_Collector_sweep_one)))
    (i_Collector_sweep_one : PySem.W.isFn K (.ref f_Collector_sweep_one) = true)
    (l_Collector_sweep_one : K.lookup f_Collector_sweep_one = some ⟨oc_Collector_sweep_one, od_Collector_sweep_one, .func (PySem.W.fnOf "sweep_one" "Collector.sweep_one" (defArgs s_Collector_sweep_one) (defBody s_Collector_sweep_one) (defScope s_Collector_sweep_one) .none kV_Collector_sweep_one dc_Collector_sweep_one pm_Collector_sweep_one an_Collector_sweep_one cd_Collector_sweep_one ct_Collector_sweep_one), sl_Collector_sweep_one⟩)
    (c_Collector_sweep_one : PySem.W.codeIn K cd_Collector_sweep_one "Collector.sweep_one" = true)
    (k_Collector_sweep_one : PySem.W.keepIn K (.ref f_Collector_sweep_one) = true)
    (a_Store : PySem.W.nsIn K mainGlobals "Store" = some (some (.ref C_Store)))
    (pg_Store : PySem.W.plainGet K C_Store Str.empty = true)
    (hd_Store : PySem.W.hasDictIn K C_Store = true)
    (po_Store : PySem.W.plainOver K C_Store = true)
    (sa_Store : PySem.W.findIn K (.ref C_Store) "__setattr__" = some (some (.builtin "object.__setattr__")))
    (mk_Store : PySem.W.makesIn K C_Store = true)
    (kc_Store : PySem.W.keepIn K (.ref C_Store) = true)
    (na_Store_blobs : PySem.W.findIn K (.ref C_Store) "blobs" = some none)
    (a_Store___init__ : PySem.W.findIn K (.ref C_Store) "__init__" = some (some (.ref f_Store___init__)))
    (i_Store___init__ : PySem.W.isFn K (.ref f_Store___init__) = true)
    (l_Store___init__ : K.lookup f_Store___init__ = some ⟨oc_Store___init__, od_Store___init__, .func (PySem.W.fnOf "__init__" "Store.__init__" (defArgs s_Store___init__) (defBody s_Store___init__) (defScope s_Store___init__) .none kV_Store___init__ dc_Store___init__ pm_Store___init__ an_Store___init__ cd_Store___init__ ct_Store___init__), sl_Store___init__⟩)
    (c_Store___init__ : PySem.W.codeIn K cd_Store___init__ "Store.__init__" = true)
    (k_Store___init__ : PySem.W.keepIn K (.ref f_Store___init__) = true)
    (a_Store_keep : PySem.W.findIn K (.ref C_Store) "keep" = some (some (.ref f_Store_keep)))
    (i_Store_keep : PySem.W.isFn K (.ref f_Store_keep) = true)
    (l_Store_keep : K.lookup f_Store_keep = some ⟨oc_Store_keep, od_Store_keep, .func (PySem.W.fnOf "keep" "Store.keep" (defArgs s_Store_keep) (defBody s_Store_keep) (defScope s_Store_keep) .none kV_Store_keep dc_Store_keep pm_Store_keep an_Store_keep cd_Store_keep ct_Store_keep), sl_Store_keep⟩)
    (c_Store_keep : PySem.W.codeIn K cd_Store_keep "Store.keep" = true)
    (k_Store_keep : PySem.W.keepIn K (.ref f_Store_keep) = true)
    (a_Store_remove_blob : PySem.W.findIn K (.ref C_Store) "remove_blob" = some (some (.ref f_Store_remove_blob)))
    (i_Store_remove_blob : PySem.W.isFn K (.ref f_Store_remove_blob) = true)
    (l_Store_remove_blob : K.lookup f_Store_remove_blob = some ⟨oc_Store_remove_blob, od_Store_remove_blob, .func (PySem.W.fnOf "remove_blob" "Store.remove_blob" (defArgs s_Store_remove_blob) (defBody s_Store_remove_blob) (defScope s_Store_remove_blob) .none kV_Store_remove_blob dc_Store_remove_blob pm_Store_remove_blob an_Store_remove_blob cd_Store_remove_blob ct_Store_remove_blob), sl_Store_remove_blob⟩)
    (c_Store_remove_blob : PySem.W.codeIn K cd_Store_remove_blob "Store.remove_blob" = true)
    (k_Store_remove_blob : PySem.W.keepIn K (.ref f_Store_remove_blob) = true)
    (a_Store_addresses : PySem.W.findIn K (.ref C_Store) "addresses" = some (some (.ref f_Store_addresses)))
    (i_Store_addresses : PySem.W.isFn K (.ref f_Store_addresses) = true)
    (l_Store_addresses : K.lookup f_Store_addresses = some ⟨oc_Store_addresses, od_Store_addresses, .func (PySem.W.fnOf "addresses" "Store.addresses" (defArgs s_Store_addresses) (defBody s_Store_addresses) (defScope s_Store_addresses) .none kV_Store_addresses dc_Store_addresses pm_Store_addresses an_Store_addresses cd_Store_addresses ct_Store_addresses), sl_Store_addresses⟩)
    (c_Store_addresses : PySem.W.codeIn K cd_Store_addresses "Store.addresses" = true)
    (k_Store_addresses : PySem.W.keepIn K (.ref f_Store_addresses) = true)
    (a_Store_below : PySem.W.findIn K (.ref C_Store) "below" = some (some (.ref f_Store_below)))
    (i_Store_below : PySem.W.isFn K (.ref f_Store_below) = true)
    (l_Store_below : K.lookup f_Store_below = some ⟨oc_Store_below, od_Store_below, .func (PySem.W.fnOf "below" "Store.below" (defArgs s_Store_below) (defBody s_Store_below) (defScope s_Store_below) .none kV_Store_below dc_Store_below pm_Store_below an_Store_below cd_Store_below ct_Store_below), sl_Store_below⟩)
    (c_Store_below : PySem.W.codeIn K cd_Store_below "Store.below" = true)
    (k_Store_below : PySem.W.keepIn K (.ref f_Store_below) = true)
    (a_Store_closure : PySem.W.findIn K (.ref C_Store) "closure" = some (some (.ref f_Store_closure)))
    (i_Store_closure : PySem.W.isFn K (.ref f_Store_closure) = true)
    (l_Store_closure : K.lookup f_Store_closure = some ⟨oc_Store_closure, od_Store_closure, .func (PySem.W.fnOf "closure" "Store.closure" (defArgs s_Store_closure) (defBody s_Store_closure) (defScope s_Store_closure) .none kV_Store_closure dc_Store_closure pm_Store_closure an_Store_closure cd_Store_closure ct_Store_closure), sl_Store_closure⟩)
    (c_Store_closure : PySem.W.codeIn K cd_Store_closure "Store.closure" = true)
    (k_Store_closure : PySem.W.keepIn K (.ref f_Store_closure) = true)
    (a_Refused : PySem.W.nsIn K mainGlobals "Refused" = some (some (.ref C_Refused)))
    (a_Malformed : PySem.W.nsIn K mainGlobals "Malformed" = some (some (.ref C_Malformed)))
    (xL_Malformed : K.lookup C_Malformed = some (excClassObj nm_Malformed q_Malformed C_Malformed N_Malformed bs_Malformed [.ref C_Refused, .type "ValueError", .type "Exception", .type "BaseException", .type "object"] true sn_Malformed sb_Malformed ab_Malformed col_Malformed dd_Malformed m0_Malformed m1_Malformed m2_Malformed m3_Malformed m5_Malformed "ValueError.__new__"))
    (sa_Malformed : PySem.W.findIn K (.ref C_Malformed) "__setattr__" = some (some (.builtin "object.__setattr__")))
    (ga_Malformed : PySem.W.findIn K (.ref C_Malformed) "__getattribute__" = some (some (.builtin "BaseException.__getattribute__")))
    (gg_Malformed : PySem.W.findIn K (.ref C_Malformed) "__getattr__" = some none)
    (kC_Malformed : PySem.W.keepIn K (.ref C_Malformed) = true)
    (eC_Malformed : PySem.W.subIn K (.ref C_Malformed) (.type "BaseException") = some true)
    (tC_Malformed : PySem.W.typeIn K (.ref C_Malformed) = some (.type "type"))
    (hC_Malformed : PySem.W.hasDictIn K C_Malformed = true)
    (iC_Malformed : PySem.W.isClsIn K C_Malformed = true)
    (sC_Malformed : PySem.W.subIn K (.ref C_Malformed) (.ref C_Malformed) = some true)
    (hk_Malformed : PySem.W.findIn K (.ref C_Malformed) "__class__" = some (some (.builtin "object.__class__")))
    (hm_Malformed : PySem.W.mroIn K C_Malformed (.type "object") = some true)
    (na_Malformed_line : PySem.W.findIn K (.ref C_Malformed) "line" = some none)
    (a_Malformed___init__ : PySem.W.findIn K (.ref C_Malformed) "__init__" = some (some (.ref f_Malformed___init__)))
    (t_Malformed___init__ : PySem.W.typeIn K (.ref f_Malformed___init__) = some (.type "function"))
    (l_Malformed___init__ : K.lookup f_Malformed___init__ = some ⟨oc_Malformed___init__, od_Malformed___init__, .func (PySem.W.fnOf "__init__" "Malformed.__init__" (defArgs s_Malformed___init__) (defBody s_Malformed___init__) (defScope s_Malformed___init__) .none kV_Malformed___init__ dc_Malformed___init__ pm_Malformed___init__ an_Malformed___init__ cd_Malformed___init__ ct_Malformed___init__), sl_Malformed___init__⟩)
    (c_Malformed___init__ : PySem.W.codeIn K cd_Malformed___init__ "Malformed.__init__" = true)
    (k_Malformed___init__ : PySem.W.keepIn K (.ref f_Malformed___init__) = true)
    (hn_obj : PySem.W.specialIn K (.builtin "object.__class__") "__get__" = some (some (.builtin "getset_descriptor.__get__")))
    (ht_obj : PySem.W.takesIn K (.builtin "object.__class__") = some true)
    (a__wall : PySem.W.nsIn K mainGlobals "_wall" = some (some (.ref f__wall)))
    (l__wall : K.lookup f__wall = some ⟨oc__wall, od__wall, .func (PySem.W.fnOf "_wall" "_wall" (defArgs s__wall) (defBody s__wall) (defScope s__wall) .none kV__wall dc__wall pm__wall an__wall cd__wall ct__wall), sl__wall⟩)
    (c__wall : PySem.W.codeIn K cd__wall "_wall" = true)
    (k__wall : PySem.W.keepIn K (.ref f__wall) = true)
    (a_address_of : PySem.W.nsIn K mainGlobals "address_of" = some (some (.ref f_address_of)))
    (l_address_of : K.lookup f_address_of = some ⟨oc_address_of, od_address_of, .func (PySem.W.fnOf "address_of" "address_of" (defArgs s_address_of) (defBody s_address_of) (defScope s_address_of) .none kV_address_of dc_address_of pm_address_of an_address_of cd_address_of ct_address_of), sl_address_of⟩)
    (c_address_of : PySem.W.codeIn K cd_address_of "address_of" = true)
    (k_address_of : PySem.W.keepIn K (.ref f_address_of) = true)
    (a_is_address : PySem.W.nsIn K mainGlobals "is_address" = some (some (.ref f_is_address)))
    (l_is_address : K.lookup f_is_address = some ⟨oc_is_address, od_is_address, .func (PySem.W.fnOf "is_address" "is_address" (defArgs s_is_address) (defBody s_is_address) (defScope s_is_address) .none kV_is_address dc_is_address pm_is_address an_is_address cd_is_address ct_is_address), sl_is_address⟩)
    (c_is_address : PySem.W.codeIn K cd_is_address "is_address" = true)
    (k_is_address : PySem.W.keepIn K (.ref f_is_address) = true)
    (a_image_text : PySem.W.nsIn K mainGlobals "image_text" = some (some (.ref f_image_text)))
    (l_image_text : K.lookup f_image_text = some ⟨oc_image_text, od_image_text, .func (PySem.W.fnOf "image_text" "image_text" (defArgs s_image_text) (defBody s_image_text) (defScope s_image_text) .none kV_image_text dc_image_text pm_image_text an_image_text cd_image_text ct_image_text), sl_image_text⟩)
    (c_image_text : PySem.W.codeIn K cd_image_text "image_text" = true)
    (k_image_text : PySem.W.keepIn K (.ref f_image_text) = true)
    (a_bundle_text : PySem.W.nsIn K mainGlobals "bundle_text" = some (some (.ref f_bundle_text)))
    (l_bundle_text : K.lookup f_bundle_text = some ⟨oc_bundle_text, od_bundle_text, .func (PySem.W.fnOf "bundle_text" "bundle_text" (defArgs s_bundle_text) (defBody s_bundle_text) (defScope s_bundle_text) .none kV_bundle_text dc_bundle_text pm_bundle_text an_bundle_text cd_bundle_text ct_bundle_text), sl_bundle_text⟩)
    (c_bundle_text : PySem.W.codeIn K cd_bundle_text "bundle_text" = true)
    (k_bundle_text : PySem.W.keepIn K (.ref f_bundle_text) = true)
    (a_lines_of : PySem.W.nsIn K mainGlobals "lines_of" = some (some (.ref f_lines_of)))
    (l_lines_of : K.lookup f_lines_of = some ⟨oc_lines_of, od_lines_of, .func (PySem.W.fnOf "lines_of" "lines_of" (defArgs s_lines_of) (defBody s_lines_of) (defScope s_lines_of) .none kV_lines_of dc_lines_of pm_lines_of an_lines_of cd_lines_of ct_lines_of), sl_lines_of⟩)
    (c_lines_of : PySem.W.codeIn K cd_lines_of "lines_of" = true)
    (k_lines_of : PySem.W.keepIn K (.ref f_lines_of) = true)
    (a_read_image : PySem.W.nsIn K mainGlobals "read_image" = some (some (.ref f_read_image)))
    (l_read_image : K.lookup f_read_image = some ⟨oc_read_image, od_read_image, .func (PySem.W.fnOf "read_image" "read_image" (defArgs s_read_image) (defBody s_read_image) (defScope s_read_image) .none kV_read_image dc_read_image pm_read_image an_read_image cd_read_image ct_read_image), sl_read_image⟩)
    (c_read_image : PySem.W.codeIn K cd_read_image "read_image" = true)
    (k_read_image : PySem.W.keepIn K (.ref f_read_image) = true)
    (a_is_platform : PySem.W.nsIn K mainGlobals "is_platform" = some (some (.ref f_is_platform)))
    (l_is_platform : K.lookup f_is_platform = some ⟨oc_is_platform, od_is_platform, .func (PySem.W.fnOf "is_platform" "is_platform" (defArgs s_is_platform) (defBody s_is_platform) (defScope s_is_platform) .none kV_is_platform dc_is_platform pm_is_platform an_is_platform cd_is_platform ct_is_platform), sl_is_platform⟩)
    (c_is_platform : PySem.W.codeIn K cd_is_platform "is_platform" = true)
    (k_is_platform : PySem.W.keepIn K (.ref f_is_platform) = true)
    (a_read_bundle : PySem.W.nsIn K mainGlobals "read_bundle" = some (some (.ref f_read_bundle)))
    (l_read_bundle : K.lookup f_read_bundle = some ⟨oc_read_bundle, od_read_bundle, .func (PySem.W.fnOf "read_bundle" "read_bundle" (defArgs s_read_bundle) (defBody s_read_bundle) (defScope s_read_bundle) .none kV_read_bundle dc_read_bundle pm_read_bundle an_read_bundle cd_read_bundle ct_read_bundle), sl_read_bundle⟩)
    (c_read_bundle : PySem.W.codeIn K cd_read_bundle "read_bundle" = true)
    (k_read_bundle : PySem.W.keepIn K (.ref f_read_bundle) = true)
    (a_references : PySem.W.nsIn K mainGlobals "references" = some (some (.ref f_references)))
    (l_references : K.lookup f_references = some ⟨oc_references, od_references, .func (PySem.W.fnOf "references" "references" (defArgs s_references) (defBody s_references) (defScope s_references) .none kV_references dc_references pm_references an_references cd_references ct_references), sl_references⟩)
    (c_references : PySem.W.codeIn K cd_references "references" = true)
    (k_references : PySem.W.keepIn K (.ref f_references) = true)
    (a__law_state : PySem.W.nsIn K mainGlobals "_law_state" = some (some (.ref f__law_state)))
    (l__law_state : K.lookup f__law_state = some ⟨oc__law_state, od__law_state, .func (PySem.W.fnOf "_law_state" "_law_state" (defArgs s__law_state) (defBody s__law_state) (defScope s__law_state) .none kV__law_state dc__law_state pm__law_state an__law_state cd__law_state ct__law_state), sl__law_state⟩)
    (c__law_state : PySem.W.codeIn K cd__law_state "_law_state" = true)
    (k__law_state : PySem.W.keepIn K (.ref f__law_state) = true)
    (a__law_take : PySem.W.nsIn K mainGlobals "_law_take" = some (some (.ref f__law_take)))
    (l__law_take : K.lookup f__law_take = some ⟨oc__law_take, od__law_take, .func (PySem.W.fnOf "_law_take" "_law_take" (defArgs s__law_take) (defBody s__law_take) (defScope s__law_take) .none kV__law_take dc__law_take pm__law_take an__law_take cd__law_take ct__law_take), sl__law_take⟩)
    (c__law_take : PySem.W.codeIn K cd__law_take "_law_take" = true)
    (k__law_take : PySem.W.keepIn K (.ref f__law_take) = true)
    (a__law_text : PySem.W.nsIn K mainGlobals "_law_text" = some (some (.ref f__law_text)))
    (l__law_text : K.lookup f__law_text = some ⟨oc__law_text, od__law_text, .func (PySem.W.fnOf "_law_text" "_law_text" (defArgs s__law_text) (defBody s__law_text) (defScope s__law_text) .none kV__law_text dc__law_text pm__law_text an__law_text cd__law_text ct__law_text), sl__law_text⟩)
    (c__law_text : PySem.W.codeIn K cd__law_text "_law_text" = true)
    (k__law_text : PySem.W.keepIn K (.ref f__law_text) = true)
    (a__law_some : PySem.W.nsIn K mainGlobals "_law_some" = some (some (.ref f__law_some)))
    (l__law_some : K.lookup f__law_some = some ⟨oc__law_some, od__law_some, .func (PySem.W.fnOf "_law_some" "_law_some" (defArgs s__law_some) (defBody s__law_some) (defScope s__law_some) .none kV__law_some dc__law_some pm__law_some an__law_some cd__law_some ct__law_some), sl__law_some⟩)
    (c__law_some : PySem.W.codeIn K cd__law_some "_law_some" = true)
    (k__law_some : PySem.W.keepIn K (.ref f__law_some) = true)
    (a__law_fill : PySem.W.nsIn K mainGlobals "_law_fill" = some (some (.ref f__law_fill)))
    (l__law_fill : K.lookup f__law_fill = some ⟨oc__law_fill, od__law_fill, .func (PySem.W.fnOf "_law_fill" "_law_fill" (defArgs s__law_fill) (defBody s__law_fill) (defScope s__law_fill) .none kV__law_fill dc__law_fill pm__law_fill an__law_fill cd__law_fill ct__law_fill), sl__law_fill⟩)
    (c__law_fill : PySem.W.codeIn K cd__law_fill "_law_fill" = true)
    (k__law_fill : PySem.W.keepIn K (.ref f__law_fill) = true)
    (a__law_closure : PySem.W.nsIn K mainGlobals "_law_closure" = some (some (.ref f__law_closure)))
    (l__law_closure : K.lookup f__law_closure = some ⟨oc__law_closure, od__law_closure, .func (PySem.W.fnOf "_law_closure" "_law_closure" (defArgs s__law_closure) (defBody s__law_closure) (defScope s__law_closure) .none kV__law_closure dc__law_closure pm__law_closure an__law_closure cd__law_closure ct__law_closure), sl__law_closure⟩)
    (c__law_closure : PySem.W.codeIn K cd__law_closure "_law_closure" = true)
    (k__law_closure : PySem.W.keepIn K (.ref f__law_closure) = true)
    (a__law_is_whole : PySem.W.nsIn K mainGlobals "_law_is_whole" = some (some (.ref f__law_is_whole)))
    (l__law_is_whole : K.lookup f__law_is_whole = some ⟨oc__law_is_whole, od__law_is_whole, .func (PySem.W.fnOf "_law_is_whole" "_law_is_whole" (defArgs s__law_is_whole) (defBody s__law_is_whole) (defScope s__law_is_whole) .none kV__law_is_whole dc__law_is_whole pm__law_is_whole an__law_is_whole cd__law_is_whole ct__law_is_whole), sl__law_is_whole⟩)
    (c__law_is_whole : PySem.W.codeIn K cd__law_is_whole "_law_is_whole" = true)
    (k__law_is_whole : PySem.W.keepIn K (.ref f__law_is_whole) = true)
    (a__law_step : PySem.W.nsIn K mainGlobals "_law_step" = some (some (.ref f__law_step)))
    (l__law_step : K.lookup f__law_step = some ⟨oc__law_step, od__law_step, .func (PySem.W.fnOf "_law_step" "_law_step" (defArgs s__law_step) (defBody s__law_step) (defScope s__law_step) .none kV__law_step dc__law_step pm__law_step an__law_step cd__law_step ct__law_step), sl__law_step⟩)
    (c__law_step : PySem.W.codeIn K cd__law_step "_law_step" = true)
    (k__law_step : PySem.W.keepIn K (.ref f__law_step) = true)
    (a_law : PySem.W.nsIn K mainGlobals "law" = some (some (.ref f_law)))
    (l_law : K.lookup f_law = some ⟨oc_law, od_law, .func (PySem.W.fnOf "law" "law" (defArgs s_law) (defBody s_law) (defScope s_law) .none kV_law dc_law pm_law an_law cd_law ct_law), sl_law⟩)
    (c_law : PySem.W.codeIn K cd_law "law" = true)
    (k_law : PySem.W.keepIn K (.ref f_law) = true)
    (z_abs : PySem.W.nsIn K mainGlobals "abs" = some none)
    (z_int : PySem.W.nsIn K mainGlobals "int" = some none)
    (z_len : PySem.W.nsIn K mainGlobals "len" = some none)
    (z_list : PySem.W.nsIn K mainGlobals "list" = some none)
    (z_ord : PySem.W.nsIn K mainGlobals "ord" = some none)
    (z_range : PySem.W.nsIn K mainGlobals "range" = some none)
    (z_set : PySem.W.nsIn K mainGlobals "set" = some none)
    (z_sorted : PySem.W.nsIn K mainGlobals "sorted" = some none)
    (v_DIGITS : PySem.W.nsIn K mainGlobals "DIGITS" = some (some (Value.str "0123456789abcdef" t_DIGITS)))
    (v_LETTERS : PySem.W.nsIn K mainGlobals "LETTERS" = some (some (Value.str "abcdefghijklmnopqrstuvwxyz" t_LETTERS)))
    (v_MAX_LINES : PySem.W.nsIn K mainGlobals "MAX_LINES" = some (some (Value.int 50 t_MAX_LINES)))
    (v_PRIME : PySem.W.nsIn K mainGlobals "PRIME" = some (some (Value.int 2305843009213693951 t_PRIME)))
    (v_KINDS : PySem.W.nsIn K mainGlobals "KINDS" = some (some (.ref a_KINDS)))
    (at_KINDS : K.lookup a_KINDS = some ⟨.type "tuple", none, .seq its_KINDS n_KINDS, sl_KINDS⟩)
    (vl_KINDS : Vals (kinds3.map V.str) its_KINDS.toList)
    (sz_KINDS : its_KINDS.size ≤ sizeLine)
    : ∃ fd : FuncData, (∀ (s : Shared) (v : Value), BindsTo s fd ⟨[v], []⟩ [("_law_script", v)]) ∧ ∀ base : Heap, K.In base → base.Ns mainGlobals mg → FnOk l.prog w K mg base CX0 14 fa fd ["_law_script"] (spLaw K) := by
  have e := hfa.symm.trans (PySem.W.mg_of X G a_law)
  cases e
  have F_Collector___init__ := fun_mk (st := s_Collector___init__) l_Collector___init__ c_Collector___init__ k_Collector___init__
  have b_Collector___init__ := F_Collector___init__.binds (ps := ["self", "store"]) fun _ _ _ _ _ _ us hl => match us, hl with | [_, _], _ => rfl
  have F_Collector_stop := fun_mk (st := s_Collector_stop) l_Collector_stop c_Collector_stop k_Collector_stop
  have b_Collector_stop := F_Collector_stop.binds (ps := ["self"]) fun _ _ _ _ _ _ us hl => match us, hl with | [_], _ => rfl
  have F_Collector_shade := fun_mk (st := s_Collector_shade) l_Collector_shade c_Collector_shade k_Collector_shade
  have b_Collector_shade := F_Collector_shade.binds (ps := ["self", "address"]) fun _ _ _ _ _ _ us hl => match us, hl with | [_, _], _ => rfl
  have F_Collector_step := fun_mk (st := s_Collector_step) l_Collector_step c_Collector_step k_Collector_step
  have b_Collector_step := F_Collector_step.binds (ps := ["self", "roots"]) fun _ _ _ _ _ _ us hl => match us, hl with | [_, _], _ => rfl
  have F_Collector_mark_one := fun_mk (st := s_Collector_mark_one) l_Collector_mark_one c_Collector_mark_one k_Collector_mark_one
  have b_Collector_mark_one := F_Collector_mark_one.binds (ps := ["self"]) fun _ _ _ _ _ _ us hl => match us, hl with | [_], _ => rfl
  have F_Collector_sweep_one := fun_mk (st := s_Collector_sweep_one) l_Collector_sweep_one c_Collector_sweep_one k_Collector_sweep_one
  have b_Collector_sweep_one := F_Collector_sweep_one.binds (ps := ["self"]) fun _ _ _ _ _ _ us hl => match us, hl with | [_], _ => rfl
  have F_Store___init__ := fun_mk (st := s_Store___init__) l_Store___init__ c_Store___init__ k_Store___init__
  have b_Store___init__ := F_Store___init__.binds (ps := ["self"]) fun _ _ _ _ _ _ us hl => match us, hl with | [_], _ => rfl
  have F_Store_keep := fun_mk (st := s_Store_keep) l_Store_keep c_Store_keep k_Store_keep
  have b_Store_keep := F_Store_keep.binds (ps := ["self", "kind", "text"]) fun _ _ _ _ _ _ us hl => match us, hl with | [_, _, _], _ => rfl
  have F_Store_remove_blob := fun_mk (st := s_Store_remove_blob) l_Store_remove_blob c_Store_remove_blob k_Store_remove_blob
  have b_Store_remove_blob := F_Store_remove_blob.binds (ps := ["self", "address"]) fun _ _ _ _ _ _ us hl => match us, hl with | [_, _], _ => rfl
  have F_Store_addresses := fun_mk (st := s_Store_addresses) l_Store_addresses c_Store_addresses k_Store_addresses
  have b_Store_addresses := F_Store_addresses.binds (ps := ["self"]) fun _ _ _ _ _ _ us hl => match us, hl with | [_], _ => rfl
  have F_Store_below := fun_mk (st := s_Store_below) l_Store_below c_Store_below k_Store_below
  have b_Store_below := F_Store_below.binds (ps := ["self", "address"]) fun _ _ _ _ _ _ us hl => match us, hl with | [_, _], _ => rfl
  have F_Store_closure := fun_mk (st := s_Store_closure) l_Store_closure c_Store_closure k_Store_closure
  have b_Store_closure := F_Store_closure.binds (ps := ["self", "address"]) fun _ _ _ _ _ _ us hl => match us, hl with | [_, _], _ => rfl
  have F_Malformed___init__ := fun_mk (st := s_Malformed___init__) l_Malformed___init__ c_Malformed___init__ k_Malformed___init__
  have b_Malformed___init__ := F_Malformed___init__.binds (ps := ["self", "line"]) fun _ _ _ _ _ _ us hl => match us, hl with | [_, _], _ => rfl
  have F__wall := fun_mk (st := s__wall) l__wall c__wall k__wall
  have b__wall := F__wall.binds (ps := ["k"]) fun _ _ _ _ _ _ us hl => match us, hl with | [_], _ => rfl
  have F_address_of := fun_mk (st := s_address_of) l_address_of c_address_of k_address_of
  have b_address_of := F_address_of.binds (ps := ["kind", "text"]) fun _ _ _ _ _ _ us hl => match us, hl with | [_, _], _ => rfl
  have F_is_address := fun_mk (st := s_is_address) l_is_address c_is_address k_is_address
  have b_is_address := F_is_address.binds (ps := ["text"]) fun _ _ _ _ _ _ us hl => match us, hl with | [_], _ => rfl
  have F_image_text := fun_mk (st := s_image_text) l_image_text c_image_text k_image_text
  have b_image_text := F_image_text.binds (ps := ["layers"]) fun _ _ _ _ _ _ us hl => match us, hl with | [_], _ => rfl
  have F_bundle_text := fun_mk (st := s_bundle_text) l_bundle_text c_bundle_text k_bundle_text
  have b_bundle_text := F_bundle_text.binds (ps := ["entries"]) fun _ _ _ _ _ _ us hl => match us, hl with | [_], _ => rfl
  have F_lines_of := fun_mk (st := s_lines_of) l_lines_of c_lines_of k_lines_of
  have b_lines_of := F_lines_of.binds (ps := ["text", "head"]) fun _ _ _ _ _ _ us hl => match us, hl with | [_, _], _ => rfl
  have F_read_image := fun_mk (st := s_read_image) l_read_image c_read_image k_read_image
  have b_read_image := F_read_image.binds (ps := ["text"]) fun _ _ _ _ _ _ us hl => match us, hl with | [_], _ => rfl
  have F_is_platform := fun_mk (st := s_is_platform) l_is_platform c_is_platform k_is_platform
  have b_is_platform := F_is_platform.binds (ps := ["word"]) fun _ _ _ _ _ _ us hl => match us, hl with | [_], _ => rfl
  have F_read_bundle := fun_mk (st := s_read_bundle) l_read_bundle c_read_bundle k_read_bundle
  have b_read_bundle := F_read_bundle.binds (ps := ["text"]) fun _ _ _ _ _ _ us hl => match us, hl with | [_], _ => rfl
  have F_references := fun_mk (st := s_references) l_references c_references k_references
  have b_references := F_references.binds (ps := ["kind", "text"]) fun _ _ _ _ _ _ us hl => match us, hl with | [_, _], _ => rfl
  have F__law_state := fun_mk (st := s__law_state) l__law_state c__law_state k__law_state
  have b__law_state := F__law_state.binds (ps := ["_law_script"]) fun _ _ _ _ _ _ us hl => match us, hl with | [_], _ => rfl
  have F__law_take := fun_mk (st := s__law_take) l__law_take c__law_take k__law_take
  have b__law_take := F__law_take.binds (ps := ["_law_state_here", "_law_most"]) fun _ _ _ _ _ _ us hl => match us, hl with | [_, _], _ => rfl
  have F__law_text := fun_mk (st := s__law_text) l__law_text c__law_text k__law_text
  have b__law_text := F__law_text.binds (ps := ["_law_state_here", "_law_most"]) fun _ _ _ _ _ _ us hl => match us, hl with | [_, _], _ => rfl
  have F__law_some := fun_mk (st := s__law_some) l__law_some c__law_some k__law_some
  have b__law_some := F__law_some.binds (ps := ["_law_state_here", "_law_known", "_law_most"]) fun _ _ _ _ _ _ us hl => match us, hl with | [_, _, _], _ => rfl
  have F__law_fill := fun_mk (st := s__law_fill) l__law_fill c__law_fill k__law_fill
  have b__law_fill := F__law_fill.binds (ps := ["_law_state_here", "_law_store", "_law_below"]) fun _ _ _ _ _ _ us hl => match us, hl with | [_, _, _], _ => rfl
  have F__law_closure := fun_mk (st := s__law_closure) l__law_closure c__law_closure k__law_closure
  have b__law_closure := F__law_closure.binds (ps := ["_law_below", "_law_address"]) fun _ _ _ _ _ _ us hl => match us, hl with | [_, _], _ => rfl
  have F__law_is_whole := fun_mk (st := s__law_is_whole) l__law_is_whole c__law_is_whole k__law_is_whole
  have b__law_is_whole := F__law_is_whole.binds (ps := ["_law_store", "_law_below", "_law_address"]) fun _ _ _ _ _ _ us hl => match us, hl with | [_, _, _], _ => rfl
  have F__law_step := fun_mk (st := s__law_step) l__law_step c__law_step k__law_step
  have b__law_step := F__law_step.binds (ps := ["_law_phase", "_law_lists", "_law_blobs", "_law_below", "_law_roots"]) fun _ _ _ _ _ _ us hl => match us, hl with | [_, _, _, _, _], _ => rfl
  have F_law := fun_mk (st := s_law) l_law c_law k_law
  have T : Txt w K mg C_Collector C_Store C_Refused C_Malformed a_KINDS := ⟨⟨pg_Collector, hd_Collector, po_Collector, sa_Collector⟩,
    na_Collector_store,
    na_Collector_phase,
    na_Collector_marked,
    na_Collector_todo,
    na_Collector_doomed,
    ⟨_, _, F_Collector___init__, ⟨mk_Collector, a_Collector___init__, i_Collector___init__, kc_Collector⟩, PySem.W.mg_of X G a_Collector, b_Collector___init__⟩,
    ⟨_, _, F_Collector_stop, ⟨a_Collector_stop, i_Collector_stop, k_Collector_stop⟩, b_Collector_stop⟩,
    ⟨_, _, F_Collector_shade, ⟨a_Collector_shade, i_Collector_shade, k_Collector_shade⟩, b_Collector_shade⟩,
    ⟨_, _, F_Collector_step, ⟨a_Collector_step, i_Collector_step, k_Collector_step⟩, b_Collector_step⟩,
    ⟨_, _, F_Collector_mark_one, ⟨a_Collector_mark_one, i_Collector_mark_one, k_Collector_mark_one⟩, b_Collector_mark_one⟩,
    ⟨_, _, F_Collector_sweep_one, ⟨a_Collector_sweep_one, i_Collector_sweep_one, k_Collector_sweep_one⟩, b_Collector_sweep_one⟩,
    ⟨pg_Store, hd_Store, po_Store, sa_Store⟩,
    na_Store_blobs,
    ⟨_, _, F_Store___init__, ⟨mk_Store, a_Store___init__, i_Store___init__, kc_Store⟩, PySem.W.mg_of X G a_Store, b_Store___init__⟩,
    ⟨_, _, F_Store_keep, ⟨a_Store_keep, i_Store_keep, k_Store_keep⟩, b_Store_keep⟩,
    ⟨_, _, F_Store_remove_blob, ⟨a_Store_remove_blob, i_Store_remove_blob, k_Store_remove_blob⟩, b_Store_remove_blob⟩,
    ⟨_, _, F_Store_addresses, ⟨a_Store_addresses, i_Store_addresses, k_Store_addresses⟩, b_Store_addresses⟩,
    ⟨_, _, F_Store_below, ⟨a_Store_below, i_Store_below, k_Store_below⟩, b_Store_below⟩,
    ⟨_, _, F_Store_closure, ⟨a_Store_closure, i_Store_closure, k_Store_closure⟩, b_Store_closure⟩,
    PySem.W.mg_of X G a_Refused,
    PySem.W.mg_of X G a_Malformed,
    ⟨⟨_, _, _, _, _, _, _, _, _, _, _, _, _, _, _, xL_Malformed, by first | decide +kernel | rfl | (unfold PySem.HandSPX.refsVE; decide +kernel) | (simp only [PySem.HandSPX.refsVE]; decide +kernel)⟩, sa_Malformed, eC_Malformed, tC_Malformed, kC_Malformed⟩,
    ⟨ga_Malformed, gg_Malformed, eC_Malformed, hC_Malformed⟩,
    ⟨iC_Malformed, ga_Malformed, gg_Malformed, eC_Malformed, hk_Malformed, hn_obj, ht_obj, hm_Malformed⟩,
    exm_self eC_Malformed iC_Malformed tC_Malformed sC_Malformed,
    na_Malformed_line,
    ⟨_, _, F_Malformed___init__, a_Malformed___init__, t_Malformed___init__, PySem.W.mg_of X G a_Malformed, b_Malformed___init__⟩,
    ⟨_, _, F__wall, PySem.W.mg_of X G a__wall, b__wall⟩,
    ⟨_, _, F_address_of, PySem.W.mg_of X G a_address_of, b_address_of⟩,
    ⟨_, _, F_is_address, PySem.W.mg_of X G a_is_address, b_is_address⟩,
    ⟨_, _, F_image_text, PySem.W.mg_of X G a_image_text, b_image_text⟩,
    ⟨_, _, F_bundle_text, PySem.W.mg_of X G a_bundle_text, b_bundle_text⟩,
    ⟨_, _, F_lines_of, PySem.W.mg_of X G a_lines_of, b_lines_of⟩,
    ⟨_, _, F_read_image, PySem.W.mg_of X G a_read_image, b_read_image⟩,
    ⟨_, _, F_is_platform, PySem.W.mg_of X G a_is_platform, b_is_platform⟩,
    ⟨_, _, F_read_bundle, PySem.W.mg_of X G a_read_bundle, b_read_bundle⟩,
    ⟨_, _, F_references, PySem.W.mg_of X G a_references, b_references⟩,
    ⟨_, _, F__law_state, PySem.W.mg_of X G a__law_state, b__law_state⟩,
    ⟨_, _, F__law_take, PySem.W.mg_of X G a__law_take, b__law_take⟩,
    ⟨_, _, F__law_text, PySem.W.mg_of X G a__law_text, b__law_text⟩,
    ⟨_, _, F__law_some, PySem.W.mg_of X G a__law_some, b__law_some⟩,
    ⟨_, _, F__law_fill, PySem.W.mg_of X G a__law_fill, b__law_fill⟩,
    ⟨_, _, F__law_closure, PySem.W.mg_of X G a__law_closure, b__law_closure⟩,
    ⟨_, _, F__law_is_whole, PySem.W.mg_of X G a__law_is_whole, b__law_is_whole⟩,
    ⟨_, _, F__law_step, PySem.W.mg_of X G a__law_step, b__law_step⟩,
    PySem.W.mg_none_of X G z_abs,
    PySem.W.mg_none_of X G z_int,
    PySem.W.mg_none_of X G z_len,
    PySem.W.mg_none_of X G z_list,
    PySem.W.mg_none_of X G z_ord,
    PySem.W.mg_none_of X G z_range,
    PySem.W.mg_none_of X G z_set,
    PySem.W.mg_none_of X G z_sorted,
    ⟨_, PySem.W.mg_of X G v_DIGITS, ⟨_, rfl⟩⟩,
    ⟨_, PySem.W.mg_of X G v_LETTERS, ⟨_, rfl⟩⟩,
    ⟨_, PySem.W.mg_of X G v_MAX_LINES, ⟨_, rfl⟩⟩,
    ⟨_, PySem.W.mg_of X G v_PRIME, ⟨_, rfl⟩⟩,
    ⟨_, PySem.W.mg_of X G v_KINDS, rfl⟩,
    ⟨_, _, _, at_KINDS, rfl, rfl, rfl, sz_KINDS, vl_KINDS⟩⟩
  exact ⟨PySem.W.fnOf "law" "law" (defArgs s_law) (defBody s_law) (defScope s_law) .none kV_law dc_law pm_law an_law cd_law ct_law, fun s v => .of_eq rfl, fun base _ _ => ok_law T F_law⟩
theorem walk {l : PySem.W.OpenLaw} {q : Program} {loose : List Str} {XP : (Str → Option Value) → Heap → Prop} {YP : World → Heap → Prop} {d : DefRec} {K : Params → PySem.W.Frag} (hn : l.most = some 63) (hdf : d.params.defaults = [])
    (hY : ∀ (w : World) (h : Heap), YP w h → (K w.params).In h)
    (F : ∀ (w : World) (mg : Str → Option Value) (fa : Addr) (h : Heap), (K w.params).In h → h.Ns mainGlobals mg → mg d.name = some (.ref fa) →
      ∃ fd : FuncData, (∀ (s : Shared) (u : Value), BindsTo s fd ⟨[u], []⟩ [("_law_script", u)]) ∧ ∀ base : Heap, (K w.params).In base → base.Ns mainGlobals mg → FnOk l.prog w (K w.params) mg base CX0 14 fa fd ["_law_script"] (spLaw (K w.params))) :
    PySem.W.WalkO q loose XP YP l.row.toRowW d [] (fun f vs => PySem.call f vs) :=
  L2.walk_of (n := 63) (k := 14) (x := "_law_script") (CX := fun _ => CX0) (sp := fun w => spLaw (K w.params)) hn (by decide) hdf ⟨rfl, by decide, by decide⟩ hY F (fun _ _ a ns hl _ hS => ⟨a, ns, rfl, hS, hl, fun _ => rfl⟩) fun _ _ _ _ _ z => z
end Lw
open PySem PySem.W PyProof.Rows
set_option maxRecDepth 100000 in
set_option maxHeartbeats 0 in
theorem PySem.Challenge.cw_layerwharf_k05_collector_holds : PySem.Challenge.rw_layerwharf_k05_collector.Holds := by
  w_on; o_law; k_head; (case hw => w_witness2)
  k_fill
  refine Lw.walk (l := PySem.Challenge.rw_layerwharf_k05_collector) rfl rfl (fun w h Y => PySem.W.kIn_of Y) ?F
  case F =>
    intro w mg fa h KX G hmg
    refine' Lw.all_mk KX G hmg ?a_Collector ?pg_Collector ?hd_Collector ?po_Collector ?sa_Collector ?mk_Collector ?kc_Collector ?na_Collector_store ?na_Collector_phase ?na_Collector_marked ?na_Collector_todo ?na_Collector_doomed ?a_Collector___init__ ?i_Collector___init__ ?l_Collector___init__ ?c_Collector___init__ ?k_Collector___init__ ?a_Collector_stop ?i_Collector_stop ?l_Collector_stop ?c_Collector_stop ?k_Collector_stop ?a_Collector_shade ?i_Collector_shade ?l_Collector_shade ?c_Collector_shade ?k_Collector_shade ?a_Collector_step ?i_Collector_step ?l_Collector_step ?c_Collector_step ?k_Collector_step ?a_Collector_mark_one ?i_Collector_mark_one ?l_Collector_mark_one ?c_Collector_mark_one ?k_Collector_mark_one ?a_Collector_sweep_one ?i_Collector_sweep_one ?l_Collector_sweep_one ?c_Collector_sweep_one ?k_Collector_sweep_one ?a_Store ?pg_Store ?hd_Store ?po_Store ?sa_Store ?mk_Store ?kc_Store ?na_Store_blobs ?a_Store___init__ ?i_Store___init__ ?l_Store___init__ ?c_Store___init__ ?k_Store___init__ ?a_Store_keep ?i_Store_keep ?l_Store_keep ?c_Store_keep ?k_Store_keep ?a_Store_remove_blob ?i_Store_remove_blob ?l_Store_remove_blob ?c_Store_remove_blob ?k_Store_remove_blob ?a_Store_addresses ?i_Store_addresses ?l_Store_addresses ?c_Store_addresses ?k_Store_addresses ?a_Store_below ?i_Store_below ?l_Store_below ?c_Store_below ?k_Store_below ?a_Store_closure ?i_Store_closure ?l_Store_closure ?c_Store_closure ?k_Store_closure ?a_Refused ?a_Malformed ?xL_Malformed ?sa_Malformed ?ga_Malformed ?gg_Malformed ?kC_Malformed ?eC_Malformed ?tC_Malformed ?hC_Malformed ?iC_Malformed ?sC_Malformed ?hk_Malformed ?hm_Malformed ?na_Malformed_line ?a_Malformed___init__ ?t_Malformed___init__ ?l_Malformed___init__ ?c_Malformed___init__ ?k_Malformed___init__ ?hn_obj ?ht_obj ?a__wall ?l__wall ?c__wall ?k__wall ?a_address_of ?l_address_of ?c_address_of ?k_address_of ?a_is_address ?l_is_address ?c_is_address ?k_is_address ?a_image_text ?l_image_text ?c_image_text ?k_image_text ?a_bundle_text ?l_bundle_text ?c_bundle_text ?k_bundle_text ?a_lines_of ?l_lines_of ?c_lines_of ?k_lines_of ?a_read_image ?l_read_image ?c_read_image ?k_read_image ?a_is_platform ?l_is_platform ?c_is_platform ?k_is_platform ?a_read_bundle ?l_read_bundle ?c_read_bundle ?k_read_bundle ?a_references ?l_references ?c_references ?k_references ?a__law_state ?l__law_state ?c__law_state ?k__law_state ?a__law_take ?l__law_take ?c__law_take ?k__law_take ?a__law_text ?l__law_text ?c__law_text ?k__law_text ?a__law_some ?l__law_some ?c__law_some ?k__law_some ?a__law_fill ?l__law_fill ?c__law_fill ?k__law_fill ?a__law_closure ?l__law_closure ?c__law_closure ?k__law_closure ?a__law_is_whole ?l__law_is_whole ?c__law_is_whole ?k__law_is_whole ?a__law_step ?l__law_step ?c__law_step ?k__law_step ?a_law ?l_law ?c_law ?k_law ?z_abs ?z_int ?z_len ?z_list ?z_ord ?z_range ?z_set ?z_sorted ?v_DIGITS ?v_LETTERS ?v_MAX_LINES ?v_PRIME ?v_KINDS ?at_KINDS ?vl_KINDS ?sz_KINDS
    (case a_Collector => k_is)
    (case pg_Collector => k_is)
    (case hd_Collector => k_is)
    (case po_Collector => k_is)
    (case sa_Collector => k_is)
    (case mk_Collector => k_is)
    (case kc_Collector => k_is)
    (case na_Collector_store => k_is)
    (case na_Collector_phase => k_is)
    (case na_Collector_marked => k_is)
    (case na_Collector_todo => k_is)
    (case na_Collector_doomed => k_is)
    (case a_Collector___init__ => k_is)
    (case i_Collector___init__ => k_is)
    (case l_Collector___init__ => k_is)
    (case c_Collector___init__ => k_is)
    (case k_Collector___init__ => k_is)
    (case a_Collector_stop => k_is)
    (case i_Collector_stop => k_is)
    (case l_Collector_stop => k_is)
    (case c_Collector_stop => k_is)
    (case k_Collector_stop => k_is)
    (case a_Collector_shade => k_is)
    (case i_Collector_shade => k_is)
    (case l_Collector_shade => k_is)
    (case c_Collector_shade => k_is)
    (case k_Collector_shade => k_is)
    (case a_Collector_step => k_is)
    (case i_Collector_step => k_is)
    (case l_Collector_step => k_is)
    (case c_Collector_step => k_is)
    (case k_Collector_step => k_is)
    (case a_Collector_mark_one => k_is)
    (case i_Collector_mark_one => k_is)
    (case l_Collector_mark_one => k_is)
    (case c_Collector_mark_one => k_is)
    (case k_Collector_mark_one => k_is)
    (case a_Collector_sweep_one => k_is)
    (case i_Collector_sweep_one => k_is)
    (case l_Collector_sweep_one => k_is)
    (case c_Collector_sweep_one => k_is)
    (case k_Collector_sweep_one => k_is)
    (case a_Store => k_is)
    (case pg_Store => k_is)
    (case hd_Store => k_is)
    (case po_Store => k_is)
    (case sa_Store => k_is)
    (case mk_Store => k_is)
    (case kc_Store => k_is)
    (case na_Store_blobs => k_is)
    (case a_Store___init__ => k_is)
    (case i_Store___init__ => k_is)
    (case l_Store___init__ => k_is)
    (case c_Store___init__ => k_is)
    (case k_Store___init__ => k_is)
    (case a_Store_keep => k_is)
    (case i_Store_keep => k_is)
    (case l_Store_keep => k_is)
    (case c_Store_keep => k_is)
    (case k_Store_keep => k_is)
    (case a_Store_remove_blob => k_is)
    (case i_Store_remove_blob => k_is)
    (case l_Store_remove_blob => k_is)
    (case c_Store_remove_blob => k_is)
    (case k_Store_remove_blob => k_is)
    (case a_Store_addresses => k_is)
    (case i_Store_addresses => k_is)
    (case l_Store_addresses => k_is)
    (case c_Store_addresses => k_is)
    (case k_Store_addresses => k_is)
    (case a_Store_below => k_is)
    (case i_Store_below => k_is)
    (case l_Store_below => k_is)
    (case c_Store_below => k_is)
    (case k_Store_below => k_is)
    (case a_Store_closure => k_is)
    (case i_Store_closure => k_is)
    (case l_Store_closure => k_is)
    (case c_Store_closure => k_is)
    (case k_Store_closure => k_is)
    (case a_Refused => k_is)
    (case a_Malformed => k_is)
    (case xL_Malformed => k_is)
    (case sa_Malformed => k_is)
    (case ga_Malformed => k_is)
    (case gg_Malformed => k_is)
    (case kC_Malformed => k_is)
    (case eC_Malformed => k_is)
    (case tC_Malformed => k_is)
    (case hC_Malformed => k_is)
    (case iC_Malformed => k_is)
    (case sC_Malformed => first | rfl | k_is)
    (case hk_Malformed => k_is)
    (case hm_Malformed => k_is)
    (case na_Malformed_line => k_is)
    (case a_Malformed___init__ => k_is)
    (case t_Malformed___init__ => k_is)
    (case l_Malformed___init__ => k_is)
    (case c_Malformed___init__ => k_is)
    (case k_Malformed___init__ => k_is)
    (case hn_obj => k_is)
    (case ht_obj => k_is)
    (case a__wall => k_is)
    (case l__wall => k_is)
    (case c__wall => k_is)
    (case k__wall => k_is)
    (case a_address_of => k_is)
    (case l_address_of => k_is)
    (case c_address_of => k_is)
    (case k_address_of => k_is)
    (case a_is_address => k_is)
    (case l_is_address => k_is)
    (case c_is_address => k_is)
    (case k_is_address => k_is)
    (case a_image_text => k_is)
    (case l_image_text => k_is)
    (case c_image_text => k_is)
    (case k_image_text => k_is)
    (case a_bundle_text => k_is)
    (case l_bundle_text => k_is)
    (case c_bundle_text => k_is)
    (case k_bundle_text => k_is)
    (case a_lines_of => k_is)
    (case l_lines_of => k_is)
    (case c_lines_of => k_is)
    (case k_lines_of => k_is)
    (case a_read_image => k_is)
    (case l_read_image => k_is)
    (case c_read_image => k_is)
    (case k_read_image => k_is)
    (case a_is_platform => k_is)
    (case l_is_platform => k_is)
    (case c_is_platform => k_is)
    (case k_is_platform => k_is)
    (case a_read_bundle => k_is)
    (case l_read_bundle => k_is)
    (case c_read_bundle => k_is)
    (case k_read_bundle => k_is)
    (case a_references => k_is)
    (case l_references => k_is)
    (case c_references => k_is)
    (case k_references => k_is)
    (case a__law_state => k_is)
    (case l__law_state => k_is)
    (case c__law_state => k_is)
    (case k__law_state => k_is)
    (case a__law_take => k_is)
    (case l__law_take => k_is)
    (case c__law_take => k_is)
    (case k__law_take => k_is)
    (case a__law_text => k_is)
    (case l__law_text => k_is)
    (case c__law_text => k_is)
    (case k__law_text => k_is)
    (case a__law_some => k_is)
    (case l__law_some => k_is)
    (case c__law_some => k_is)
    (case k__law_some => k_is)
    (case a__law_fill => k_is)
    (case l__law_fill => k_is)
    (case c__law_fill => k_is)
    (case k__law_fill => k_is)
    (case a__law_closure => k_is)
    (case l__law_closure => k_is)
    (case c__law_closure => k_is)
    (case k__law_closure => k_is)
    (case a__law_is_whole => k_is)
    (case l__law_is_whole => k_is)
    (case c__law_is_whole => k_is)
    (case k__law_is_whole => k_is)
    (case a__law_step => k_is)
    (case l__law_step => k_is)
    (case c__law_step => k_is)
    (case k__law_step => k_is)
    (case a_law => k_is)
    (case l_law => k_is)
    (case c_law => k_is)
    (case k_law => k_is)
    (case z_abs => k_is)
    (case z_int => k_is)
    (case z_len => k_is)
    (case z_list => k_is)
    (case z_ord => k_is)
    (case z_range => k_is)
    (case z_set => k_is)
    (case z_sorted => k_is)
    (case v_DIGITS => k_is)
    (case v_LETTERS => k_is)
    (case v_MAX_LINES => k_is)
    (case v_PRIME => k_is)
    (case v_KINDS => k_is)
    (case at_KINDS => k_is)
    (case vl_KINDS => exact .cons ⟨_, rfl⟩ (.cons ⟨_, rfl⟩ (.cons ⟨_, rfl⟩ .nil)))
    (case sz_KINDS => (show 3 ≤ sizeLine); decide)
