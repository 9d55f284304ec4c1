import PyProof.Rows.All
import Wide.All
import OpenK.AllK
import Wide.FinOn
import HandS.ForMost
import HandS.TupAny
import HandS.More
import HandS.Style
import HandS.Conv
import HandS.Codes
import HandS.FStr
import HandS.IsInst
import HandS.Strs
import HandS.Replace
import HandS.Walk
import HandS.Dict
import HandS.Flow
import HandS.Iter
import HandS.MakeKwOnly
import HandS.Exc
import HandS.ExcOwn
import HandS.ExcInit
import HandS.ExcField
import HandS.ExcIs
import HandS.WordsExc
import HandS.TryOnly
import KE.KExcIs
import PyProof.Rows.StrIntSpec
import HandS.Set
import HandS.SetKeys
import HandS.TupSets
import HandS.ForDict
import HandS.DictComp
import PyProof.Rows.SortShellAny
import PySem.Challenge.RW_layerwharf_k07_roots_stay_whole
set_option Elab.async false
set_option maxRecDepth 100000
set_option maxHeartbeats 4000000
set_option linter.all false
/-! ## words of our own, for every law -/
namespace Lw
open PySem L2
open PyProof.Rows (envOfC)

/-! ### what calls what -/
structure Cal (P : Program) (w : World) (K : PySem.W.Frag) (mg : Str → Option Value) (base : Heap) (k : Nat) (x : Str) (sp : Sp) : Prop where
  ex : ∃ (f : Addr) (fd : FuncData) (ps : List Str), FnOk P w K mg base CX0 k f fd ps sp ∧ mg x = some (.ref f) ∧ PySem.W.keepIn K (.ref f) = true ∧ Binds K fd ps []
structure Met (P : Program) (w : World) (K : PySem.W.Frag) (mg : Str → Option Value) (base : Heap) (k : Nat) (C : Addr) (m : Str) (sp : Sp) : Prop where
  ex : ∃ (f : Addr) (fd : FuncData) (ps : List Str), Cls K C ∧ Meth K C m f ∧ FnOk P w K mg base CX0 k f fd ps sp ∧ Binds K fd ps []
structure Mak (P : Program) (w : World) (K : PySem.W.Frag) (mg : Str → Option Value) (base : Heap) (k : Nat) (x : Str) (C : Addr) (sp : Sp) : Prop where
  ex : ∃ (f : Addr) (fd : FuncData) (ps : List Str), Mk K C f ∧ FnOk P w K mg base CX0 k f fd ps sp ∧ mg x = some (.ref C) ∧ Binds K fd ps []
/-- a def of the module -/
structure DefAt (K : PySem.W.Frag) (mg : Str → Option Value) (x : Str) (st : Stmt) (ps : List Str) : Prop where
  ex : ∃ (f : Addr) (fd : FuncData), Fun K x x st f fd ∧ mg x = some (.ref f) ∧ Binds K fd ps []
/-- a method of a class -/
structure MetAt (K : PySem.W.Frag) (C : Addr) (m qual : Str) (st : Stmt) (ps : List Str) : Prop where
  ex : ∃ (f : Addr) (fd : FuncData), Fun K m qual st f fd ∧ Meth K C m f ∧ Binds K fd ps []
/-- a class's __init__ -/
structure IniAt (K : PySem.W.Frag) (mg : Str → Option Value) (x : Str) (C : Addr) (qual : Str) (st : Stmt) (ps : List Str) : Prop where
  ex : ∃ (f : Addr) (fd : FuncData), Fun K "__init__" qual st f fd ∧ Mk K C f ∧ mg x = some (.ref C) ∧ Binds K fd ps []
/-- .. with keyword-only parameters ks, n other ones -/
structure IniKw (K : PySem.W.Frag) (mg : Str → Option Value) (x : Str) (C : Addr) (qual : Str) (st : Stmt) (ps : List Str) (n : Nat) (ks : List Str) : Prop where
  ex : ∃ (f : Addr) (fd : FuncData), Fun K "__init__" qual st f fd ∧ Mk K C f ∧ mg x = some (.ref C) ∧ KBn K fd ps n ks (fun us ws => us ++ ws) (fun vs zs => vs ++ zs)
structure MakK (P : Program) (w : World) (K : PySem.W.Frag) (mg : Str → Option Value) (base : Heap) (k : Nat) (x : Str) (C : Addr) (n : Nat) (ks : List Str) (sp : Sp) : Prop where
  ex : ∃ (f : Addr) (fd : FuncData) (ps : List Str), Mk K C f ∧ FnOk P w K mg base CX0 k f fd ps sp ∧ mg x = some (.ref C) ∧ KBn K fd ps (n + 1) ks (fun us ws => us ++ ws) (fun vs zs => vs ++ zs)
section
variable {P : Program} {w : World} {K : PySem.W.Frag} {mg : Str → Option Value} {base : Heap}
theorem makK_mk {x qual : Str} {C : Addr} {st : Stmt} {N ps ks : List Str} {n k : Nat} {sp : Sp} (D : IniKw K mg x C qual st ps (n + 1) ks) (S : FnScope N ps (defScope st)) (len : ∀ vs H Q E, sp vs H Q E → vs.length = ps.length)
    (hbody : ∀ (f : Addr) (cdv : Value) (A : Around) (outer : List Env) (s : Shared) (H : Hp) (vs : List V) (Q : VK) (E : XK), Room k (A.deeper (envOfC qual (defScope st) s.heap.objs.size f cdv)) → sp vs H Q E →
      ∃ t, PSs (cxOf CX0 P w K mg base N qual (defScope st) f cdv A outer s H E).nox (defBody st) t ∧ t { nx := fun _ H' => Q .non H', rt := Q } (start N vs) H) : MakK P w K mg base (k + 1) x C n ks sp := by
  obtain ⟨f, fd, F, M, hm, hb⟩ := D.ex
  exact ⟨f, fd, ps, M, F.ok S len fun cdv A outer s H vs Q E hr h => hbody f cdv A outer s H vs Q E hr h, hm, hb⟩
theorem cal_mk {x : Str} {st : Stmt} {N ps : List Str} {k : Nat} {sp : Sp} (D : DefAt K mg x st ps) (S : FnScope N ps (defScope st)) (len : ∀ vs H Q E, sp vs H Q E → vs.length = ps.length)
    (hbody : ∀ (f : Addr) (cdv : Value) (A : Around) (outer : List Env) (s : Shared) (H : Hp) (vs : List V) (Q : VK) (E : XK), Room k (A.deeper (envOfC x (defScope st) s.heap.objs.size f cdv)) → sp vs H Q E →
      ∃ t, PSs (cxOf CX0 P w K mg base N x (defScope st) f cdv A outer s H E).nox (defBody st) t ∧ t { nx := fun _ H' => Q .non H', rt := Q } (start N vs) H) : Cal P w K mg base (k + 1) x sp := by
  obtain ⟨f, fd, F, hm, hb⟩ := D.ex
  exact ⟨f, fd, ps, F.ok S len fun cdv A outer s H vs Q E hr h => hbody f cdv A outer s H vs Q E hr h, hm, F.kp, hb⟩
theorem met_mk {m qual : Str} {C : Addr} {st : Stmt} {N ps : List Str} {k : Nat} {sp : Sp} (c : Cls K C) (D : MetAt K C m qual st ps) (S : FnScope N ps (defScope st)) (len : ∀ vs H Q E, sp vs H Q E → vs.length = ps.length)
    (hbody : ∀ (f : Addr) (cdv : Value) (A : Around) (outer : List Env) (s : Shared) (H : Hp) (vs : List V) (Q : VK) (E : XK), Room k (A.deeper (envOfC qual (defScope st) s.heap.objs.size f cdv)) → sp vs H Q E →
      ∃ t, PSs (cxOf CX0 P w K mg base N qual (defScope st) f cdv A outer s H E).nox (defBody st) t ∧ t { nx := fun _ H' => Q .non H', rt := Q } (start N vs) H) : Met P w K mg base (k + 1) C m sp := by
  obtain ⟨f, fd, F, hm, hb⟩ := D.ex
  exact ⟨f, fd, ps, c, hm, F.ok S len fun cdv A outer s H vs Q E hr h => hbody f cdv A outer s H vs Q E hr h, hb⟩
theorem mak_mk {x qual : Str} {C : Addr} {st : Stmt} {N ps : List Str} {k : Nat} {sp : Sp} (D : IniAt K mg x C qual st ps) (S : FnScope N ps (defScope st)) (len : ∀ vs H Q E, sp vs H Q E → vs.length = ps.length)
    (hbody : ∀ (f : Addr) (cdv : Value) (A : Around) (outer : List Env) (s : Shared) (H : Hp) (vs : List V) (Q : VK) (E : XK), Room k (A.deeper (envOfC qual (defScope st) s.heap.objs.size f cdv)) → sp vs H Q E →
      ∃ t, PSs (cxOf CX0 P w K mg base N qual (defScope st) f cdv A outer s H E).nox (defBody st) t ∧ t { nx := fun _ H' => Q .non H', rt := Q } (start N vs) H) : Mak P w K mg base (k + 1) x C sp := by
  obtain ⟨f, fd, F, M, hm, hb⟩ := D.ex
  exact ⟨f, fd, ps, M, F.ok S len fun cdv A outer s H vs Q E hr h => hbody f cdv A outer s H vs Q E hr h, hm, hb⟩
end
section
variable {X : Cx} {x m : Str} {C : Addr} {sp : Sp} {k j : Nat} {e o : Expr} {es : List Expr} {p pos apos : Pos} {ta : TE} {t : TA}
theorem pe_c (c : Cal X.prog X.w X.K X.mg X.base k x sp) (hr : Room j X.A) (hk : k ≤ j) (hg : Gl X x) (ha : PA X (e :: es) t)
    (hdb : (x == ("__debug__" : Str)) = false := by decide) (he : starEach (e :: es) X.env = (false, eval e X.env) :: starEach es X.env := by rfl) (hpl : (backTo pos (starEach es X.env)).any (·.1) = false := by rfl) :
    PE X (.Call (.Name x p) (e :: es) [] pos) (tCall sp [] E0 t) := by
  obtain ⟨f, fd, ps, F, hm, kp, b⟩ := c.ex
  exact pe_call F (hr.mono hk) hg hm kp b .nil pass0 ha hdb he hpl
theorem pe_mk (c : Mak X.prog X.w X.K X.mg X.base k x C sp) (hr : Room j X.A) (hk : k + 1 ≤ j) (hg : Gl X x) (ha : PA X (e :: es) t)
    (hdb : (x == ("__debug__" : Str)) = false := by decide) (he : starEach (e :: es) X.env = (false, eval e X.env) :: starEach es X.env := by rfl) (hpl : (backTo pos (starEach es X.env)).any (·.1) = false := by rfl) :
    PE X (.Call (.Name x p) (e :: es) [] pos) (tMake C sp [] E0 t) := by
  obtain ⟨f, fd, ps, M, F, hm, b⟩ := c.ex
  exact pe_make M F (hr.mono hk) hg hm b .nil pass0 ha hdb he hpl
theorem pe_mk0 (c : Mak X.prog X.w X.K X.mg X.base k x C sp) (hr : Room j X.A) (hk : k + 1 ≤ j) (hg : Gl X x) (hdb : (x == ("__debug__" : Str)) = false := by decide) :
    PE X (.Call (.Name x p) [] [] pos) (tMake C sp [] E0 tNil) := by
  obtain ⟨f, fd, ps, M, F, hm, b⟩ := c.ex
  exact pe_make0 M F (hr.mono hk) hg hm b .nil pass0 hdb
theorem pe_mkK {n : Nat} {ks : List Str} {kws : List Keyword} {tk : TA} (c : MakK X.prog X.w X.K X.mg X.base k x C n ks sp) (hr : Room j X.A) (hk : k + 1 ≤ j) (hg : Gl X x) (ha : PA X (e :: es) t) (hkw : PK X kws tk)
    (hall : (backToKw pos (keywordEach kws X.env)).all (·.1.isSome) = true := by rfl) (hks : (backToKw pos (keywordEach kws X.env)).filterMap (·.1) = ks := by rfl) (hdb : (x == ("__debug__" : Str)) = false := by decide)
    (he : starEach (e :: es) X.env = (false, eval e X.env) :: starEach es X.env := by rfl) (hpl : ((backTo pos (starEach (e :: es) X.env)).any (·.1) || (backToKw pos (keywordEach kws X.env)).any (·.1.isNone)) = false := by rfl) :
    PE X (.Call (.Name x p) (e :: es) kws pos) (tMakeK C n ks.length sp (fun vs zs => vs ++ zs) E0 t tk) := by
  obtain ⟨f, fd, ps, M, F, hm, b⟩ := c.ex
  exact pe_makeK M F (hr.mono hk) hg hm b pass0 ha hkw hall hks hdb he hpl
theorem pe_mt {pl : Sem Bool} (c : Met X.prog X.w X.K X.mg X.base k C m sp) (hr : Room j X.A) (hk : k ≤ j) (he : PE X o ta) (ha : PA X (e :: es) t)
    (hst : starEach (e :: es) X.env = (false, eval e X.env) :: starEach es X.env := by rfl) (hpl : (backTo pos (starEach es X.env)).any (·.1) = false := by rfl)
    (ht : eval (.Call (.Attribute o m apos) (e :: es) [] pos) X.env = (do
      let ov ← eval o X.env
      standAt apos.atName
      let (f, first) ← holding [ov] (getMethod ov m pl)
      callWith pos f first (backTo pos (starEach (e :: es) X.env)) (backToKw pos (keywordEach [] X.env))) := by rfl) :
    PE X (.Call (.Attribute o m apos) (e :: es) [] pos) (tMeth C m sp [] E0 ta t) := by
  obtain ⟨f, fd, ps, hc, hm, F, b⟩ := c.ex
  exact pe_meth (pl := pl) he hc hm F (hr.mono hk) b .nil pass0 ha hst hpl ht
theorem pe_mt0 {pl : Sem Bool} (c : Met X.prog X.w X.K X.mg X.base k C m sp) (hr : Room j X.A) (hk : k ≤ j) (he : PE X o ta)
    (ht : eval (.Call (.Attribute o m apos) [] [] pos) X.env = (do
      let ov ← eval o X.env
      standAt apos.atName
      let (f, first) ← holding [ov] (getMethod ov m pl)
      callWith pos f first (backTo pos (starEach [] X.env)) (backToKw pos (keywordEach [] X.env))) := by rfl) :
    PE X (.Call (.Attribute o m apos) [] [] pos) (tMeth C m sp [] E0 ta tNil) := by
  obtain ⟨f, fd, ps, hc, hm, F, b⟩ := c.ex
  exact pe_meth0 (pl := pl) he hc hm F (hr.mono hk) b .nil pass0 ht
theorem pe_fldK {f : Str} (K : PySem.W.Frag) (h : X.K = K) (he : PE X e ta) (hb : attributeBase e f X.env (eval e X.env) = eval e X.env) : PE X (.Attribute e f pos) (tFld K ta f) := by subst h; exact pe_fld he hb
theorem pe_gc {v : V} (hg : Gl X x) (h : ∃ u, X.mg x = some u ∧ RelV v u) (hd : (x == ("__debug__" : Str)) = false := by decide) : PE X (.Name x pos) (tC v) := by
  obtain ⟨u, hm, r⟩ := h
  exact pe_glob hg hm r hd
end

theorem _root_.L2.Same.new {H : Hp} {p : Addr} {o : HO} (h : H p = none) : Same H (upd H p o) := fun b u e => by rw [upd_ne (ne_of_none e h)]; exact e
theorem _root_.L2.Same.seqT {K : PySem.W.Frag} {H H' : Hp} {a : Addr} {xs : List V} (e : Same H H') (h : SqT K H a xs) : SqT K H' a xs := by
  rcases h with (h | ⟨o, h⟩) | h
  · exact .inl (.inl (e _ _ h))
  · exact .inl (.inr ⟨o, e _ _ h⟩)
  · exact .inr h
theorem _root_.L2.Same.thenNew {H H' : Hp} {p : Addr} {o : HO} (s : Same H H') (h : H' p = none) : Same H (upd H' p o) := s.trans (Same.new h)
/-- a list that a def made for itself grows -/
theorem _root_.L2.Same.grow {H H' : Hp} {p : Addr} {o : HO} (s : Same H H') (h : H p = none) : Same H (upd H' p o) := fun b u e => by
  rw [upd_ne (ne_of_none e h)]
  exact s b u e

theorem ix_tupK {X : Cx} (K : PySem.W.Frag) (h : X.K = K) : IxR X (rIxT K) := by subst h; exact ix_tup
theorem ix_listK {X : Cx} (K : PySem.W.Frag) (h : X.K = K) : IxR X (rIxL K) := by subst h; exact ix_list
/-! ### steps through a reading -/
def rStr (x : V) (A : Prop) : Prop := (∃ a, x = .str a) ∧ A
def rCatS : R2 := fun x y H Q => ∃ i j, x = .str i ∧ y = .str j ∧ i.length + j.length ≤ sizeLine ∧ Q (.str (i ++ j)) H
theorem op_cat_str {X : Cx} : OpR X (binaryOp .Add) rCatS := op_add_str
def rInt1 : List V → Hp → VK → Prop := fun xs H Q => (∃ i, xs = [.int i] ∧ Q (.int i) H) ∨ ∃ k, xs = [.bl k] ∧ Q (.int (if k then 1 else 0)) H
theorem call_int1' {X : Cx} : CallR X (.type "int") rInt1 := call_int1
def rLenQ (K : PySem.W.Frag) : List V → Hp → VK → Prop := fun xs H Q => ∃ p ys, xs = [.ref p] ∧ (SqL K H p ys ∨ SqT K H p ys) ∧ Q (.int ys.length) H
theorem call_len_seq' {X : Cx} : CallR X (.builtin "len") (rLenQ X.K) := call_len_seq
def rLenT : List V → Hp → VK → Prop := fun xs H Q => ∃ z, xs = [.str z] ∧ z.length ≤ sizeLine ∧ Q (.int z.length) H
theorem call_len_str' {X : Cx} : CallR X (.builtin "len") rLenT := call_len_str
def rLenD : List V → Hp → VK → Prop := fun xs H Q => ∃ a kvs, xs = [V.ref a] ∧ H a = some (.dK kvs) ∧ Q (.int kvs.length) H
theorem call_lenD' {X : Cx} : CallR X (.builtin "len") rLenD := call_lenD
def rReprB : List V → Hp → VK → Prop := fun xs H Q => ∃ b, xs = [.bl b] ∧ Q (.str (if b then "True" else "False")) H
theorem call_repr_bool {X : Cx} : CallR X (.builtin "repr") rReprB := by
  intro pins s σ H xs us Q I r h
  obtain ⟨b, rfl, q⟩ := h
  obtain ⟨u, rfl, rx⟩ := vals1 r
  cases rx
  exact PySem.P.repr_of_bool ⟨.str _, H, I.tok _, ⟨_, rfl⟩, q⟩
def rInSg : R2 := fun x y H Q => ∃ (c : Nat) (z : Str), x = .str (SX.S [c]) ∧ y = .str z ∧ Q (.bl (decide (c ∈ z.cps.toList))) H
def rNotInSg : R2 := fun x y H Q => ∃ (c : Nat) (z : Str), x = .str (SX.S [c]) ∧ y = .str z ∧ Q (.bl (!decide (c ∈ z.cps.toList))) H
theorem op_inSg {X : Cx} : OpR X (compareOp .In) rInSg := op_in_sign
theorem op_notInSg {X : Cx} : OpR X (compareOp .NotIn) rNotInSg := op_notIn_sign
def rOrd : List V → Hp → VK → Prop := fun xs H Q => ∃ x, xs = [.str x] ∧ x.length = 1 ∧ Q (.int (x.cps.getD 0 0 : Nat)) H
theorem call_ord' {X : Cx} : CallR X (.builtin "ord") rOrd := call_ord
def rIsN : R2 := fun x y H Q => y = .non ∧ Q (.bl (decide (x = .non))) H
def rNotN : R2 := fun x y H Q => y = .non ∧ Q (.bl (!decide (x = .non))) H
theorem op_isN' {X : Cx} : OpR X (compareOp .Is) rIsN := op_isN
theorem op_notN' {X : Cx} : OpR X (compareOp .IsNot) rNotN := op_notN
section
variable {σ : St} {H : Hp} {Q : VK} {K : PySem.W.Frag} {D : Ends} {ta tb te : TE} {tl : TA} {t u : TS} {c d : TT} {i : Nat} {v : V} {g : TG} {r : R2} {b : Bool}
theorem g_var (h : σ[i]? = some (some v)) (k : Q v H) : tVar i σ H Q := ⟨v, h, k⟩
theorem g_c (k : Q v H) : tC v σ H Q := k
theorem g_op (k : ta σ H fun x H1 => tb σ H1 fun y H2 => r x y H2 Q) : tOp r ta tb σ H Q := k
theorem g_I0 {f : Int → Int → V} {a b : Int} (k : Q (f a b) H) : rI0 f (.int a) (.int b) H Q := ⟨a, b, rfl, rfl, k⟩
theorem g_I {C : Int → Int → Prop} {f : Int → Int → V} {a b : Int} (h : C a b) (k : Q (f a b) H) : rI C f (.int a) (.int b) H Q := ⟨a, b, rfl, rfl, h, k⟩
theorem g_eq {x y : V} (h : scal x y = true) (k : Q (.bl (decide (x = y))) H) : rEq x y H Q := ⟨h, k⟩
theorem g_ne {x y : V} (h : scal x y = true) (k : Q (.bl (!decide (x = y))) H) : rNe x y H Q := ⟨h, k⟩
theorem g_nil {Q : List V → Hp → Prop} (k : Q [] H) : tNil σ H Q := k
theorem g_cons {Q : List V → Hp → Prop} (k : ta σ H fun x H1 => tl σ H1 fun xs H2 => Q (x :: xs) H2) : tCons ta tl σ H Q := k
theorem g_cb {r : List V → Hp → VK → Prop} (k : tl σ H fun vs H1 => r vs H1 Q) : tCB r tl σ H Q := k
theorem g_call {sp : Sp} {dvs : List V} {E : XK} (k : tl σ H fun vs H1 => sp (vs ++ dvs) H1 Q E) : tCall sp dvs E tl σ H Q := k
theorem g_test {Q : Bool → Hp → Prop} (k : te σ H fun x H1 => ∃ z, x = .bl z ∧ Q z H1) : tTest te σ H Q := k
theorem g_B {Q : Bool → Hp → Prop} (k : te σ H fun x H1 => ∃ z, x = .bl z ∧ Q z H1) : tB te σ H Q := k
theorem g_exb {Q : Bool → Prop} (k : Q b) : ∃ z, V.bl b = .bl z ∧ Q z := ⟨b, rfl, k⟩
theorem g_not {Q : Bool → Hp → Prop} (k : c σ H fun b H1 => Q (!b) H1) : tNot c σ H Q := k
theorem g_and {Q : Bool → Hp → Prop} (k : c σ H fun b H1 => if b = true then d σ H1 Q else Q false H1) : tAnd c d σ H Q := k
theorem g_or {Q : Bool → Hp → Prop} (k : c σ H fun b H1 => if b = true then Q true H1 else d σ H1 Q) : tOr c d σ H Q := k
/-- what follows holds of any new place with o -/
def New (o : HO) (H : Hp) (Q : Addr → Hp → Prop) : Prop := ∀ p H', H p = none → Same H H' → H' p = some o → Q p H'
theorem New.to {o : HO} {Q : Addr → Hp → Prop} (k : New o H Q) : ∀ p, H p = none → Q p (upd H p o) := fun p hp => k p _ hp (fun b u e => by rw [upd_ne (ne_of_none e hp)]; exact e) upd_same
theorem small100 {n : Nat} (h : n ≤ 100) : n ≤ sizeLine := Nat.le_trans h (by decide)
def kTup (Q : VK) (xs : List V) (H1 : Hp) : Prop := xs.length ≤ sizeLine ∧ ∀ p, H1 p = none → Q (.ref p) (upd H1 p (.tup xs))
def kLst (Q : VK) (xs : List V) (H1 : Hp) : Prop := xs.length ≤ sizeLine ∧ ∀ p, H1 p = none → Q (.ref p) (upd H1 p (.lst xs))
theorem g_tup (k : tl σ H (kTup Q)) : tTup tl σ H Q := k
theorem g_lst (k : tl σ H (kLst Q)) : tLst tl σ H Q := k
/-- behind the items of a display -/
theorem g_ktup {xs : List V} (h : xs.length ≤ 100) (k : ∀ p H', H p = none → Same H H' → H' p = some (.tup xs) → Q (.ref p) H') : kTup Q xs H := ⟨small100 h, New.to (Q := fun p H' => Q (.ref p) H') k⟩
theorem g_klst {xs : List V} (h : xs.length ≤ 100) (k : ∀ p H', H p = none → Same H H' → H' p = some (.lst xs) → Q (.ref p) H') : kLst Q xs H := ⟨small100 h, New.to (Q := fun p H' => Q (.ref p) H') k⟩
theorem g_gcons {u : TGs} {v : V} {r : List V} {Q : St → Hp → Prop} (k : g v σ H fun σ' H' => u r σ' H' Q) : gCons g u (v :: r) σ H Q := ⟨v, r, rfl, k⟩
theorem g_gnil {Q : St → Hp → Prop} (k : Q σ H) : gNil [] σ H Q := ⟨rfl, k⟩
theorem g_gtup {K : PySem.W.Frag} {a : Addr} {xs : List V} {n : Nat} {u : TGs} {Q : St → Hp → Prop} (h : SqT K H a xs) (hn : xs.length = n) (k : u xs σ H Q) : gTup K n u (.ref a) σ H Q := ⟨a, xs, rfl, h, hn, k⟩
theorem _root_.L2.Same.at {H H' : Hp} {a : Addr} {o : HO} (s : Same H H') (h : H a = some o) : H' a = some o := s _ _ h
/-- x in (..), a display of flat values -/
theorem g_kinT {K : PySem.W.Frag} {x : V} {xs : List V} {b : Bool} (hl : xs.length ≤ 100) (hx : flatV x = true) (hs : xs.all flatV = true) (hb : inV x xs = b) (k : ∀ H', Same H H' → Q (.bl b) H') : kTup (fun y H2 => rIn K false x y H2 Q) xs H :=
  g_ktup hl fun p H' _ s h => ⟨p, xs, rfl, .inr (SqT.of h), hx, hs, by rw [hb]; exact k H' s⟩
theorem g_kninT {K : PySem.W.Frag} {x : V} {xs : List V} {b : Bool} (hl : xs.length ≤ 100) (hx : flatV x = true) (hs : xs.all flatV = true) (hb : inV x xs = b) (k : ∀ H', Same H H' → Q (.bl (!b)) H') : kTup (fun y H2 => rIn K true x y H2 Q) xs H :=
  g_ktup hl fun p H' _ s h => ⟨p, xs, rfl, .inr (SqT.of h), hx, hs, by rw [hb]; exact k H' s⟩
theorem g_kinL {K : PySem.W.Frag} {x : V} {xs : List V} {b : Bool} (hl : xs.length ≤ 100) (hx : flatV x = true) (hs : xs.all flatV = true) (hb : inV x xs = b) (k : ∀ H', Same H H' → Q (.bl b) H') : kLst (fun y H2 => rIn K false x y H2 Q) xs H :=
  g_klst hl fun p H' _ s h => ⟨p, xs, rfl, .inl (SqL.of h), hx, hs, by rw [hb]; exact k H' s⟩
theorem g_kninL {K : PySem.W.Frag} {x : V} {xs : List V} {b : Bool} (hl : xs.length ≤ 100) (hx : flatV x = true) (hs : xs.all flatV = true) (hb : inV x xs = b) (k : ∀ H', Same H H' → Q (.bl (!b)) H') : kLst (fun y H2 => rIn K true x y H2 Q) xs H :=
  g_klst hl fun p H' _ s h => ⟨p, xs, rfl, .inl (SqL.of h), hx, hs, by rw [hb]; exact k H' s⟩
theorem ifT {b : Bool} {A B : Prop} (h : b = true) (k : A) : if b = true then A else B := by rw [if_pos h]; exact k
theorem ifF {b : Bool} {A B : Prop} (h : b = false) (k : B) : if b = true then A else B := by subst h; exact iteF k
theorem g_catA {a b : Addr} {xs ys : List V} (ha : H a = some (.tup xs)) (hb : H b = some (.tup ys)) (h0 : xs ≠ []) (hl : xs.length + ys.length ≤ 100) (k : ∀ p H', Same H H' → H' p = some (.tup (xs ++ ys)) → Q (.ref p) H') : rCatA K (.ref a) (.ref b) H Q :=
  ⟨a, b, xs, ys, rfl, rfl, SqT.of ha, SqT.of hb, small100 hl, fun z => absurd z h0, fun _ z => k a H (Same.refl H) (by subst z; rw [List.append_nil]; exact ha), fun _ _ p hp => k p _ (fun b u e => by rw [upd_ne (ne_of_none e hp)]; exact e) upd_same⟩
theorem g_slA {a : Addr} {xs : List V} {lo hi : Option Int} (ha : H a = some (.tup xs)) (k : ∀ p H', Same H H' → H' p = some (.tup (cutV xs lo hi)) → Q (.ref p) H') : rSlA K (.ref a) lo hi H Q := by
  refine ⟨a, xs, rfl, SqT.of ha, fun z => k a H (Same.refl H) ?_, fun _ p hp => k p _ (fun b u e => by rw [upd_ne (ne_of_none e hp)]; exact e) upd_same⟩
  have e : cutV xs lo hi = xs := by
    unfold cutV
    rw [z.1, z.2, List.drop_zero, Nat.sub_zero, List.take_length]
  rw [e]; exact ha
theorem g_rslS {x : Str} {lo hi : Option Int} (h : x.length ≤ sizeLine) (k : Q (.str (Txt.slice x lo hi)) H) : C8.rSlX (.str x) lo hi H Q := ⟨x, rfl, h, k⟩
theorem g_ifx (k : c σ H fun b H1 => if b = true then ta σ H1 Q else tb σ H1 Q) : tIf c ta tb σ H Q := k
/-- a field read -/
def rFld (K : PySem.W.Frag) (f : Str) (x : V) (H : Hp) (Q : VK) : Prop := ∃ a C dx fs v, x = .ref a ∧ H a = some (.ins C dx fs) ∧ Cls K C ∧ NoAttr K C f ∧ fs.lookup f = some v ∧ Q v H
theorem g_fld {f : Str} (k : ta σ H fun x H1 => rFld K f x H1 Q) : tFld K ta f σ H Q := k
theorem g_rfld {f : Str} {a C dx : Addr} {fs : List (Str × V)} (h : H a = some (.ins C dx fs)) (hc : Cls K C) (hn : NoAttr K C f) (hl : fs.lookup f = some v) (k : Q v H) : rFld K f (.ref a) H Q := ⟨a, C, dx, fs, v, rfl, h, hc, hn, hl, k⟩
/-- a method called -/
def rMeth (C : Addr) (m : Str) (sp : Sp) (x : V) (tl : TA) (σ : St) (H : Hp) (Q : VK) : Prop := ∃ a dx fs, x = .ref a ∧ H a = some (.ins C dx fs) ∧ fs.lookup m = none ∧ tl σ H fun vs H2 => sp (x :: (vs ++ [])) H2 Q E0
def rSFld (K : PySem.W.Frag) (f : Str) (y x : V) (H : Hp) (Q : Hp → Prop) : Prop := ∃ a C dx fs, x = .ref a ∧ H a = some (.ins C dx fs) ∧ Cls K C ∧ NoAttr K C f ∧ fs.length < 1000 ∧ Q (upd H a (.ins C dx (putF f y fs)))
theorem g_sfld {f : Str} (k : tb σ H fun y H1 => ta σ H1 fun x H2 => rSFld K f y x H2 fun H3 => D.nx σ H3) : sFld K ta tb f D σ H := k
theorem g_rsfld {f : Str} {y : V} {a C dx : Addr} {fs : List (Str × V)} {Q : Hp → Prop} (h : H a = some (.ins C dx fs)) (hc : Cls K C) (hn : NoAttr K C f) (hl : fs.length < 1000) (k : ∀ H', H' a = some (.ins C dx (putF f y fs)) → (∀ b, b ≠ a → H' b = H b) → Q H') : rSFld K f y (.ref a) H Q :=
  ⟨a, C, dx, fs, rfl, h, hc, hn, hl, k _ upd_same fun b hb => upd_ne hb⟩
theorem g_meth {C : Addr} {m : Str} {sp : Sp} (k : ta σ H fun x H1 => rMeth C m sp x tl σ H1 Q) : tMeth C m sp [] E0 ta tl σ H Q := k
theorem g_rmeth {C a dx : Addr} {m : Str} {sp : Sp} {fs : List (Str × V)} (h : H a = some (.ins C dx fs)) (hl : fs.lookup m = none) (k : tl σ H fun vs H2 => sp (.ref a :: (vs ++ [])) H2 Q E0) : rMeth C m sp (.ref a) tl σ H Q := ⟨a, dx, fs, rfl, h, hl, k⟩
def rMake (C : Addr) (sp : Sp) (vs : List V) (H1 : Hp) (Q : VK) : Prop := ∀ x dx, H1 x = none → H1 dx = none → dx ≠ x → sp (.ref x :: (vs ++ [])) (upd (upd H1 dx (.own x)) x (.ins C dx [])) (fun v H2 => v = .non ∧ Q (.ref x) H2) E0
theorem g_make {C : Addr} {sp : Sp} (k : tl σ H fun vs H1 => rMake C sp vs H1 Q) : tMake C sp [] E0 tl σ H Q := k
/-- a list that is changed in its place -/
theorem g_append {l : Addr} {xs : List V} {y : V} (h : H l = some (.lst xs)) (hz : xs.length < 100000) (k : ∀ H', H' l = some (.lst (xs ++ [y])) → (∀ b, b ≠ l → H' b = H b) → Q .non H') : rAppend (.ref l) [y] H Q :=
  ⟨l, xs, y, rfl, rfl, h, Nat.lt_of_lt_of_le hz (by decide), k _ upd_same fun b hb => upd_ne hb⟩
theorem g_tyL {p : Addr} {xs : List V} {A : Prop} (h : H p = some (.lst xs)) (k : A) : tyV K "list" (.ref p) H ∧ A := ⟨.inl ⟨rfl, _, SqL.of h⟩, k⟩
theorem g_tyS {x : Str} {A : Prop} (k : A) : tyV K "str" (.str x) H ∧ A := ⟨rfl, k⟩
theorem g_tyA {p : Addr} {o : Obj} {A : Prop} (h : K.lookup p = some o) (h1 : o.cls = .type "tuple") (h2 : o.dict = none) (k : A) : tyV K "tuple" (.ref p) H ∧ A := ⟨Or.inr (Or.inl ⟨rfl, o, h, h1, h2⟩), k⟩
theorem g_popAt {l : Addr} {xs : List V} {i : Nat} {y : V} (h : H l = some (.lst xs)) (hi : xs[i]? = some y) (hz : xs.length < 100000) (k : ∀ H', H' l = some (.lst (xs.eraseIdx i)) → (∀ b, b ≠ l → H' b = H b) → Q y H') : rPopAt (.ref l) [.int (i : Int)] H Q := by
  have hl := (List.getElem?_eq_some_iff.mp hi).1
  refine ⟨l, xs, (i : Int), i, y, rfl, rfl, h, by omega, by omega, ?_, hi, k _ upd_same fun b hb => upd_ne hb⟩
  exact (ixN_seq (n := xs.length) (i := (i : Int)) (j := i) (by unfold ixN; rw [if_pos (by omega), if_pos (by omega), Int.toNat_natCast])).1
theorem g_rix {p : Addr} {xs : List V} {j : Int} (h : SqL K H p xs) (ha : atI xs j = some v) (k : Q v H) : rIxL K (.ref p) (.int j) H Q := ⟨p, xs, j, v, rfl, rfl, h, ha, k⟩
theorem g_rixT {p : Addr} {xs : List V} {j : Int} (h : SqT K H p xs) (ha : atI xs j = some v) (k : Q v H) : rIxT K (.ref p) (.int j) H Q := ⟨p, xs, j, v, rfl, rfl, h, ha, k⟩
theorem g_sl {r : V → Option Int → Option Int → Hp → VK → Prop} {tl th : TO} (k : te σ H fun x H1 => tl σ H1 fun l H2 => th σ H2 fun u H3 => r x l u H3 Q) : tSl r te tl th σ H Q := k
theorem g_nopart {Q : Option Int → Hp → Prop} (k : Q none H) : tNoPart σ H Q := k
def rPart (x : V) (H : Hp) (Q : Option Int → Hp → Prop) : Prop := ∃ i, x = .int i ∧ Q (some i) H
theorem g_part {Q : Option Int → Hp → Prop} (k : te σ H fun x H1 => rPart x H1 Q) : tPart te σ H Q := k
theorem g_rpart {Q : Option Int → Hp → Prop} {a : Int} (k : Q (some a) H) : rPart (.int a) H Q := ⟨a, rfl, k⟩
theorem g_m1 {r : V → List V → Hp → VK → Prop} {to : TE} (k : to σ H fun x H1 => rStr x (te σ H1 fun y H2 => r x [y] H2 Q)) : tM1 r to te σ H Q := k
theorem g_m0 {r : V → List V → Hp → VK → Prop} {to : TE} (k : to σ H fun x H1 => rStr x (r x [] H1 Q)) : tM0 r to σ H Q := k
theorem g_rstr {x : Str} {A : Prop} (k : A) : rStr (.str x) A := ⟨⟨x, rfl⟩, k⟩
theorem g_bm0 {T : String} {r : V → List V → Hp → VK → Prop} {to : TE} (k : to σ H fun x H1 => tyV K T x H1 ∧ r x [] H1 Q) : tBM0 K T r to σ H Q := k
theorem g_bm {T : String} {r : V → List V → Hp → VK → Prop} {to : TE} {t : TA} (k : to σ H fun x H1 => tyV K T x H1 ∧ t σ H1 fun xs H2 => r x xs H2 Q) : tBM K T r to t σ H Q := k
theorem g_isB {a b : Bool} (k : Q (.bl (decide (a = b))) H) : rIsB (.bl a) (.bl b) H Q := ⟨a, b, rfl, rfl, k⟩
theorem g_notB {a b : Bool} (k : Q (.bl (!decide (a = b))) H) : rNotB (.bl a) (.bl b) H Q := ⟨a, b, rfl, rfl, k⟩
theorem g_andV (k : ta σ H fun x H1 => ∃ c, x = .bl c ∧ if c = true then tb σ H1 Q else Q (.bl false) H1) : tAndV ta tb σ H Q := k
theorem g_orV (k : ta σ H fun x H1 => ∃ c, x = .bl c ∧ if c = true then Q (.bl true) H1 else tb σ H1 Q) : tOrV ta tb σ H Q := k
theorem g_notV (k : ta σ H fun x H1 => ∃ c, x = .bl c ∧ Q (.bl (!c)) H1) : tNotV ta σ H Q := k
theorem g_isN {x : V} (k : Q (.bl (decide (x = .non))) H) : rIsN x .non H Q := ⟨rfl, k⟩
theorem g_notN {x : V} (k : Q (.bl (!decide (x = .non))) H) : rNotN x .non H Q := ⟨rfl, k⟩
theorem g_cat_str {a b : Str} (h : a.length + b.length ≤ sizeLine) (k : Q (.str (a ++ b)) H) : rCatS (.str a) (.str b) H Q := ⟨a, b, rfl, rfl, h, k⟩
theorem g_int1 {a : Int} (k : Q (.int a) H) : rInt1 [.int a] H Q := .inl ⟨a, rfl, k⟩
theorem g_int1b {b : Bool} (k : Q (.int (if b then 1 else 0)) H) : rInt1 [.bl b] H Q := .inr ⟨b, rfl, k⟩
theorem g_reprB {b : Bool} (k : Q (.str (if b then "True" else "False")) H) : rReprB [.bl b] H Q := ⟨b, rfl, k⟩
theorem g_cat {a b : Addr} {xs ys : List V} (ha : H a = some (.lst xs)) (hb : H b = some (.lst ys)) (hl : xs.length + ys.length ≤ 100000) (k : ∀ p H', H p = none → Same H H' → H' p = some (.lst (xs ++ ys)) → Q (.ref p) H') : rCat (.ref a) (.ref b) H Q :=
  ⟨a, b, xs, ys, rfl, rfl, ha, hb, Nat.le_trans hl (by decide), New.to (Q := fun p H' => Q (.ref p) H') k⟩
theorem g_slL {a : Addr} {xs : List V} {lo hi : Option Int} (h : SqL K H a xs) (k : ∀ p H', H p = none → Same H H' → H' p = some (.lst (cutV xs lo hi)) → Q (.ref p) H') : rSlL K (.ref a) lo hi H Q :=
  ⟨a, xs, rfl, h, New.to (Q := fun p H' => Q (.ref p) H') k⟩
theorem g_inSg {ch : Nat} {z : Str} (k : Q (.bl (decide (ch ∈ z.cps.toList))) H) : rInSg (.str (SX.S [ch])) (.str z) H Q := ⟨ch, z, rfl, rfl, k⟩
theorem g_notInSg {ch : Nat} {z : Str} (k : Q (.bl (!decide (ch ∈ z.cps.toList))) H) : rNotInSg (.str (SX.S [ch])) (.str z) H Q := ⟨ch, z, rfl, rfl, k⟩
theorem g_ord {ch : Nat} (k : Q (.int (ch : Int)) H) : rOrd [.str (SX.S [ch])] H Q := ⟨_, rfl, rfl, k⟩
theorem g_lenL {p : Addr} {ys : List V} (h : SqL K H p ys) (k : Q (.int ys.length) H) : rLenQ K [.ref p] H Q := ⟨p, ys, rfl, .inl h, k⟩
theorem g_lenU {p : Addr} {ys : List V} (h : SqT K H p ys) (k : Q (.int ys.length) H) : rLenQ K [.ref p] H Q := ⟨p, ys, rfl, .inr h, k⟩
theorem g_lenT {z : Str} (h : z.length ≤ sizeLine) (k : Q (.int z.length) H) : rLenT [.str z] H Q := ⟨z, rfl, h, k⟩
theorem g_lenD {a : Addr} {kvs : List (Key × V)} (h : H a = some (.dK kvs)) (k : Q (.int kvs.length) H) : rLenD [.ref a] H Q := ⟨a, kvs, rfl, h, k⟩
theorem g_setL {p : Addr} {xs : List V} {j : Int} {n : Nat} {Q : Hp → Prop} (h : H p = some (.lst xs)) (hj : ixN xs.length j = some n) (k : Q (upd H p (.lst (xs.set n v)))) : rSetL (.ref p) (.int j) v H Q := ⟨p, xs, j, n, rfl, rfl, h, hj, k⟩
theorem g_sub {ti : TE} {t : TSet} {Q : St → Hp → Prop} (k : te σ H fun o H1 => ti σ H1 fun i H2 => t o i v H2 fun H3 => Q σ H3) : gSub te ti t v σ H Q := k
theorem g_dget2 {tx : TE} (k : ta σ H fun x H1 => ∃ a, x = .ref a ∧ IsD H1 a ∧ tb σ H1 fun y H2 => tx σ H2 fun z H3 => ∃ o, DGet H3 a y o ∧ Q (o.getD z) H3) : tDGet2 ta tb tx σ H Q := k
theorem g_orD {b1 b2 : Bool} {Q : Bool → Hp → Prop} (h1 : ∀ Q : Bool → Hp → Prop, Q b1 H → c σ H Q) (h2 : ∀ Q : Bool → Hp → Prop, Q b2 H → d σ H Q) (k : Q (b1 || b2) H) : tOr c d σ H Q := by
  refine h1 _ ?_
  cases b1
  · exact h2 _ k
  · exact k
theorem g_andD {b1 b2 : Bool} {Q : Bool → Hp → Prop} (h1 : ∀ Q : Bool → Hp → Prop, Q b1 H → c σ H Q) (h2 : ∀ Q : Bool → Hp → Prop, Q b2 H → d σ H Q) (k : Q (b1 && b2) H) : tAnd c d σ H Q := by
  refine h1 _ ?_
  cases b1
  · exact k
  · exact h2 _ k
theorem g_rixS {x : Str} {j : Int} {ch : Nat} (h : x.length ≤ sizeLine) (ha : atI x.cps.toList j = some ch) (k : Q (.str (SX.S [ch])) H) : rIxS (.str x) (.int j) H Q := ⟨x, j, ch, rfl, rfl, h, ha, k⟩
/-- for .. in range(r) -/
def kFor1 (g : TG) (tb : TS) (D : Ends) (σ : St) (vs : List V) (H : Hp) : Prop := ∃ j : Int, vs = [.int j] ∧ -(2 ^ 62) ≤ j ∧ j < 2 ^ 62 ∧ ∃ W : Nat → Nat → St → Hp → Prop, (∃ m, W 0 m σ H) ∧ ∀ i m σ H, W i m σ H →
  ((Itr 0 j.toNat).stop i H ∧ D.nx σ H) ∨ ((Itr 0 j.toNat).go i H ∧ ∃ N : St → Hp → Prop, (∀ σ' H', N σ' H' → ∃ m', m' < m ∧ W (i + 1) m' σ' H') ∧ ∀ x H', (Itr 0 j.toNat).yld i H x H' → g x σ H' fun σ2 H2 => tb { D with nx := N, ct := N, bk := D.nx } σ2 H2)
theorem g_forR {tb : TS} (k : tl σ H (kFor1 g tb D σ)) : tFor (iRng1 tl) g tb D σ H := k
theorem g_for1 {tb : TS} {r : Int} (h0 : 0 ≤ r) (h1 : r ≤ 100000) (Pv : Nat → St → Hp → Prop) (hi : Pv 0 σ H) (hs : ∀ (i : Nat) σ H, i < r.toNat → Pv i σ H → g (.int (i : Int)) σ H fun σ2 H2 => tb { D with nx := Pv (i + 1), ct := Pv (i + 1), bk := D.nx } σ2 H2)
    (hd : ∀ σ H, Pv r.toNat σ H → D.nx σ H) : kFor1 g tb D σ [.int r] H :=
  ⟨r, rfl, by omega, by omega, for_range (lo := 0) (n := r.toNat) Pv hi (fun i σ H hi h => by rw [Int.zero_add]; exact hs i σ H hi h) hd⟩
/-! walks -/
def kFor (g : TG) (tb : TS) (D : Ends) (σ : St) (J : It) (H : Hp) : Prop := ∃ W : Nat → Nat → St → Hp → Prop, (∃ m, W 0 m σ H) ∧ ∀ i m σ H, W i m σ H →
  (J.stop i H ∧ D.nx σ H) ∨ (J.go i H ∧ ∃ N : St → Hp → Prop, (∀ σ' H', N σ' H' → ∃ m', m' < m ∧ W (i + 1) m' σ' H') ∧ ∀ x H', J.yld i H x H' → g x σ H' fun σ2 H2 => tb { D with nx := N, ct := N, bk := D.nx } σ2 H2)
theorem g_for {wi : TI} {tb : TS} (k : wi σ H (kFor g tb D σ)) : tFor wi g tb D σ H := k
def rItS (v : V) (H : Hp) (R : It → Hp → Prop) : Prop := ∃ x, v = .str x ∧ R (Its x) H
theorem g_iStr {R : It → Hp → Prop} (k : te σ H fun v H1 => rItS v H1 R) : iStr te σ H R := k
theorem g_ritS {x : Str} {R : It → Hp → Prop} (k : R (Its x) H) : rItS (.str x) H R := ⟨x, rfl, k⟩
def rItL (K : PySem.W.Frag) (v : V) (H : Hp) (R : It → Hp → Prop) : Prop := ∃ a, v = .ref a ∧ (∃ xs, SqL K H a xs) ∧ R (Itl K a) H
theorem g_iList {R : It → Hp → Prop} (k : te σ H fun v H1 => rItL K v H1 R) : iList K te σ H R := k
theorem g_ritL {a : Addr} {xs : List V} {R : It → Hp → Prop} (h : SqL K H a xs) (k : R (Itl K a) H) : rItL K (.ref a) H R := ⟨a, rfl, ⟨xs, h⟩, k⟩
def rItU (K : PySem.W.Frag) (v : V) (H : Hp) (R : It → Hp → Prop) : Prop := ∃ a, v = .ref a ∧ (∃ xs, SqT K H a xs) ∧ R (Itt K a) H
theorem g_iTup {R : It → Hp → Prop} (k : te σ H fun v H1 => rItU K v H1 R) : iTup K te σ H R := k
theorem g_ritU {a : Addr} {xs : List V} {R : It → Hp → Prop} (h : SqT K H a xs) (k : R (Itt K a) H) : rItU K (.ref a) H R := ⟨a, rfl, ⟨xs, h⟩, k⟩
def rItR (vs : List V) (H : Hp) (R : It → Hp → Prop) : Prop := ∃ j : Int, vs = [.int j] ∧ -(2 ^ 62) ≤ j ∧ j < 2 ^ 62 ∧ R (Itr 0 j.toNat) H
theorem g_iRng {R : It → Hp → Prop} (k : tl σ H fun vs H1 => rItR vs H1 R) : iRng1 tl σ H R := k
theorem g_ritR {r : Int} {R : It → Hp → Prop} (h0 : 0 ≤ r) (h1 : r ≤ 100000) (k : R (Itr 0 r.toNat) H) : rItR [.int r] H R := ⟨r, rfl, by omega, by omega, k⟩
/-- the signs of a text, each a text -/
def sgs (l : List Nat) : List V := l.map fun c => V.str (SX.S [c])
theorem walk_sgs {l : List Nat} : Walk (Its (SX.S l)) (sgs l).length (fun _ => True) (YAt (sgs l)) := by
  have e : (sgs l).length = (SX.S l).cps.size := by unfold sgs; simp
  rw [e]
  refine walk_str.mono (fun _ h => h) fun i H x H' hi _ h => ?_
  obtain ⟨h1, c, h2, h3⟩ := h
  refine ⟨h1, ?_⟩
  have h4 : l[i]? = some c := by simpa using h2
  unfold sgs
  rw [List.getElem?_map, h4, h3]
  rfl
theorem sgs_at {l : List Nat} {i : Nat} {x : V} (h : (sgs l)[i]? = some x) : ∃ c, l[i]? = some c ∧ V.str (SX.S [c]) = x := by
  unfold sgs at h
  rw [List.getElem?_map] at h
  cases e : l[i]? with
  | none => rw [e] at h; cases h
  | some c => rw [e] at h; exact ⟨c, rfl, Option.some.inj h⟩
theorem map_at {α : Type} {F : α → V} {l : List α} {i : Nat} {x : V} (h : (l.map F)[i]? = some x) : ∃ c, l[i]? = some c ∧ F c = x := by
  rw [List.getElem?_map] at h
  cases e : l[i]? with
  | none => rw [e] at h; cases h
  | some c => rw [e] at h; exact ⟨c, rfl, Option.some.inj h⟩
theorem sgs_len {l : List Nat} : (sgs l).length = l.length := by unfold sgs; rw [List.length_map]
theorem walk_rng {n : Nat} : Walk (Itr 0 n) ((List.range n).map fun (i : Nat) => V.int (i : Int)).length (fun _ => True) (YAt ((List.range n).map fun (i : Nat) => V.int (i : Int))) := by
  rw [List.length_map, List.length_range]
  refine walk_range.mono (fun _ h => h) fun i H x H' hi _ h => ?_
  obtain ⟨h1, h2⟩ := h
  refine ⟨h1, ?_⟩
  rw [List.getElem?_map, List.getElem?_range hi, h2]
  show some (V.int (i : Int)) = some (V.int (0 + (i : Int)))
  rw [Int.zero_add]
/-- a for over xs -/
theorem for_at {J : It} {xs : List V} {G : Hp → Prop} {tb : TS} (w : Walk J xs.length G (YAt xs)) (Pv : Nat → St → Hp → Prop) (h0 : Pv 0 σ H) (hG : ∀ i σ H, Pv i σ H → G H)
    (hs : ∀ i x σ H, xs[i]? = some x → Pv i σ H → g x σ H fun σ2 H2 => tb { D with nx := Pv (i + 1), ct := Pv (i + 1), bk := D.nx } σ2 H2) (hd : ∀ σ H, Pv xs.length σ H → D.nx σ H) : kFor g tb D σ J H :=
  for_it w Pv h0 (fun i σ H _ h => hG i σ H h) (fun i x σ H H' _ h y => by obtain ⟨e, hx⟩ := y; subst e; exact hs i x σ H' hx h) hd
/-- a comprehension -/
def kLc (g : TG) (tt : TT) (te : TE) (vs : List Nat) (σ : St) (Q : VK) (J : It) (H1 : Hp) : Prop := ∀ D, H1 D = none → ∃ W : Nat → Nat → Hp → Prop, (∃ m, W 0 m (upd H1 D (.lst []))) ∧ ∀ i m H, W i m H →
  (J.stop i H ∧ Q (.ref D) H) ∨ (J.go i H ∧ ∃ Nx : Hp → Prop, (∀ H', Nx H' → ∃ m', m' < m ∧ W (i + 1) m' H') ∧ ∀ x H', J.yld i H x H' → g x (wipe σ vs) H' fun σ2 H2 => wipe σ2 vs = wipe σ vs ∧ tt σ2 H2 fun b H3 =>
    if b = true then te σ2 H3 fun y H4 => ∃ acc, H4 D = some (.lst acc) ∧ acc.length < sizeLine ∧ Nx (upd H4 D (.lst (acc ++ [y]))) else Nx H3)
theorem g_lc {wi : TI} {tt : TT} {vs : List Nat} (k : wi σ H (kLc g tt te vs σ Q)) : tLc wi g tt te vs σ H Q := k
theorem take_ok {α : Type} {xs : List α} {i : Nat} {x : α} (h : xs[i]? = some x) : xs.take (i + 1) = xs.take i ++ [x] := by
  rw [List.take_add_one, h]
  rfl
/-- .. whose items hang on the item alone: xs filtered and mapped; the heap may grow meanwhile -/
theorem lc_map {J : It} {xs : List V} {G : Hp → Prop} {tt : TT} {vs : List Nat} (w : Walk J xs.length G (YAt xs)) (hG : ∀ H', Same H H' → G H') (hz : xs.length ≤ 100000) (p : V → Bool) (f : V → V)
    (hg : ∀ x ∈ xs, ∀ H' (R : St → Hp → Prop), Same H H' → (∀ σ2, wipe σ2 vs = wipe σ vs → (∀ H'' (R : Bool → Hp → Prop), Same H H'' → R (p x) H'' → tt σ2 H'' R) →
      (p x = true → ∀ H'' (R : VK), Same H H'' → (∀ H3, Same H'' H3 → R (f x) H3) → te σ2 H'' R) → R σ2 H') → g x (wipe σ vs) H' R)
    (k : ∀ q H', H q = none → Same H H' → H' q = some (.lst ((xs.filter p).map f)) → Q (.ref q) H') : kLc g tt te vs σ Q J H := by
  intro D hD
  refine lc_it w (fun i H2 => Same H H2 ∧ H2 D = some (.lst (((xs.take i).filter p).map f))) ⟨Same.new hD, upd_same⟩ (fun i H2 _ h => hG H2 h.1) (fun i x H2 H2' hi h y => ?_) (fun H2 h => ?_)
  · obtain ⟨e, hx⟩ := y
    subst e
    refine hg x (List.mem_of_getElem? hx) _ _ h.1 fun σ2 hw ht he => ⟨hw, ?_⟩
    refine ht _ _ h.1 ?_
    have hl : (((xs.take i).filter p).map f).length < sizeLine := by
      rw [List.length_map]
      have h1 := List.length_filter_le p (xs.take i)
      have h2 := List.length_take_le i xs
      exact Nat.lt_of_lt_of_le (show _ < 200000 by omega) (by decide)
    cases hp : p x with
    | true =>
      refine iteT ?_
      refine he hp _ _ h.1 fun H3 s3 => ⟨_, s3 _ _ h.2, hl, (h.1.trans s3).grow hD, ?_⟩
      rw [upd_same, take_ok hx, List.filter_append, List.map_append]
      simp [hp]
    | false =>
      refine iteF ?_
      refine ⟨h.1, ?_⟩
      rw [take_ok hx, List.filter_append]
      simpa [hp] using h.2
  · rw [List.take_length] at h
    exact k D H2 hD h.1 h.2
/-- .. whose items are laid anew: R x y H tells what y is, and hangs on tuples alone -/
theorem lc_new {J : It} {xs : List V} {G : Hp → Prop} {vs : List Nat} (R : V → V → Hp → Prop) (mono : ∀ x y H1 H2, (∀ b ys, H1 b = some (.tup ys) → H2 b = some (.tup ys)) → R x y H1 → R x y H2) (w : Walk J xs.length G (YAt xs)) (hG : ∀ H', Same H H' → G H') (hz : xs.length ≤ 100000)
    (hg : ∀ x ∈ xs, ∀ H' (Rk : St → Hp → Prop), Same H H' → (∀ σ2, wipe σ2 vs = wipe σ vs → (∀ H'' (R' : VK), Same H H'' → (∀ y H3, Same H'' H3 → R x y H3 → R' y H3) → te σ2 H'' R') → Rk σ2 H') → g x (wipe σ vs) H' Rk)
    (k : ∀ (q : Addr) (ys : List V) (H' : Hp), H q = none → Same H H' → ys.length = xs.length → (∀ (i : Nat) (x y : V), xs[i]? = some x → ys[i]? = some y → R x y H') → H' q = some (.lst ys) → Q (.ref q) H') : kLc g tYes te vs σ Q J H := by
  intro D hD
  refine lc_it w (fun i H2 => Same H H2 ∧ ∃ ys : List V, ys.length = i ∧ (∀ (j : Nat) (x y : V), xs[j]? = some x → ys[j]? = some y → R x y H2) ∧ H2 D = some (.lst ys)) ⟨Same.new hD, [], rfl, (fun j x y _ h => (by cases h)), upd_same⟩ (fun i H2 _ h => hG H2 h.1) (fun i x H2 H2' hi h y => ?_) (fun H2 h => ?_)
  · obtain ⟨e, hx⟩ := y
    subst e
    obtain ⟨s1, ys, h1, h2, h3⟩ := h
    refine hg x (List.mem_of_getElem? hx) _ _ s1 fun σ2 hw he => ⟨hw, ?_⟩
    show te σ2 H2' _
    refine he _ _ s1 fun y H3 s3 r3 => ⟨_, s3 _ _ h3, ?_, (s1.trans s3).grow hD, ys ++ [y], by rw [List.length_append, h1]; rfl, fun j x' y' hx' hy' => ?_, upd_same⟩
    · rw [h1]
      exact Nat.lt_of_lt_of_le (show i < 200000 by omega) (by decide)
    · have tk : ∀ b zs, H3 b = some (.tup zs) → (upd H3 D (.lst (ys ++ [y]))) b = some (.tup zs) := fun b zs e => by
        rw [upd_ne (ne_of e (s3 _ _ h3) (by intro z; cases z))]; exact e
      by_cases hj : j < ys.length
      · rw [List.getElem?_append_left hj] at hy'
        exact mono _ _ _ _ (fun b zs e => tk b zs (s3 _ _ e)) (h2 j x' y' hx' hy')
      · rw [List.getElem?_append_right (by omega)] at hy'
        cases hz : j - ys.length with
        | zero =>
          rw [hz] at hy'
          cases hy'
          have : j = i := by omega
          subst this
          rw [hx] at hx'
          cases hx'
          exact mono _ _ _ _ tk r3
        | succ n => rw [hz] at hy'; cases hy'
  · obtain ⟨s1, ys, h1, h2, h3⟩ := h
    exact k D ys H2 hD s1 h1 h2 h3
theorem g_cut {t u : TS} (Mid : St → Hp → Prop) (h1 : t { D with nx := Mid } σ H) (h2 : ∀ σ' H', Mid σ' H' → u D σ' H') : C8.tCut t u D σ H := ⟨Mid, h1, h2⟩
/-! statements -/
theorem g_seq (k : t { D with nx := u D } σ H) : tSeq t u D σ H := k
theorem g_asg (k : te σ H fun x H1 => g x σ H1 D.nx) : tAsg te g D σ H := k
theorem g_name {Q : St → Hp → Prop} (k : Q (σ.set i (some v)) H) : gName i v σ H Q := k
theorem g_ret (k : te σ H D.rt) : tRet te D σ H := k
theorem g_drop (k : te σ H fun _ H1 => D.nx σ H1) : tDrop te D σ H := k
theorem g_next (k : D.nx σ H) : tNext D σ H := k
theorem g_ifs (k : c σ H fun b H1 => if b = true then t D σ H1 else u D σ H1) : tIfS c t u D σ H := k
theorem g_pnx {nx bk ct : St → Hp → Prop} {rt : VK} (k : nx σ H) : Ends.nx ⟨nx, rt, bk, ct⟩ σ H := k
theorem g_prt {nx bk ct : St → Hp → Prop} {rt : VK} (k : rt v H) : Ends.rt ⟨nx, rt, bk, ct⟩ v H := k
theorem g_pbk {nx bk ct : St → Hp → Prop} {rt : VK} (k : bk σ H) : Ends.bk ⟨nx, rt, bk, ct⟩ σ H := k
theorem g_pct {nx bk ct : St → Hp → Prop} {rt : VK} (k : ct σ H) : Ends.ct ⟨nx, rt, bk, ct⟩ σ H := k
/-! ways -/
theorem ifp {p A B : Prop} [Decidable p] (h : p) (k : A) : if decide p = true then A else B := by rw [if_pos (decide_eq_true h)]; exact k
theorem ifn {p A B : Prop} [Decidable p] (h : ¬ p) (k : B) : if decide p = true then A else B := by rw [if_neg (by simp [h])]; exact k
theorem if2 {p A B : Prop} [Decidable p] (h1 : p → A) (h2 : ¬ p → B) : if decide p = true then A else B := by
  by_cases h : p
  · exact ifp h (h1 h)
  · exact ifn h (h2 h)
theorem ifnp {p A B : Prop} [Decidable p] (h : p) (k : B) : if (!decide p) = true then A else B := by rw [if_neg (by simp [h])]; exact k
theorem ifnn {p A B : Prop} [Decidable p] (h : ¬ p) (k : A) : if (!decide p) = true then A else B := by rw [if_pos (by simp [h])]; exact k
theorem ifn2 {p A B : Prop} [Decidable p] (h1 : p → B) (h2 : ¬ p → A) : if (!decide p) = true then A else B := by
  by_cases h : p
  · exact ifnp h (h1 h)
  · exact ifnn h (h2 h)
theorem ifb {b : Bool} {A B : Prop} (h1 : b = true → A) (h2 : b = false → B) : if b = true then A else B := by
  cases b
  · exact iteF (h2 rfl)
  · exact iteT (h1 rfl)
theorem int_eq {a b : Int} : (V.int a = V.int b) ↔ a = b := ⟨fun h => V.int.inj h, fun h => by rw [h]⟩
theorem str_eq {a b : Str} : (V.str a = V.str b) ↔ a = b := ⟨fun h => V.str.inj h, fun h => by rw [h]⟩
theorem bl_eq {a b : Bool} : (V.bl a = V.bl b) ↔ a = b := ⟨fun h => V.bl.inj h, fun h => by rw [h]⟩
end
/-! one step of a reading: the keys are ours -/

/-! ### steps of the heap: whose objects changed (c tells each object's owner) -/
structure Stp (I : Nat → Prop) (c c' : Addr → Nat) (H H' : Hp) : Prop where
  keep : ∀ b o, H b = some o → ¬ I (c b) → H' b = some o
  col : ∀ b o, H b = some o → c' b = c b
  tup : ∀ b xs, H b = some (.tup xs) → H' b = some (.tup xs)
  fre : ∀ b, H' b = none → H b = none
namespace Stp
variable {I J : Nat → Prop} {c c' c'' : Addr → Nat} {H H' H'' : Hp}
theorem refl : Stp I c c H H := ⟨fun _ _ h _ => h, fun _ _ _ => rfl, fun _ _ h => h, fun _ h => h⟩
theorem some' (s : Stp I c c' H H') {b : Addr} {o : HO} (h : H b = some o) : ∃ o', H' b = some o' := by
  cases e : H' b with
  | none => rw [s.fre b e] at h; cases h
  | some o' => exact ⟨o', rfl⟩
theorem trans (a : Stp I c c' H H') (b : Stp I c' c'' H' H'') : Stp I c c'' H H'' := by
  refine ⟨fun x o h n => b.keep x o (a.keep x o h n) (by rw [a.col x o h]; exact n), fun x o h => ?_, fun x xs h => b.tup x xs (a.tup x xs h), fun x h => a.fre x (b.fre x h)⟩
  obtain ⟨o', h'⟩ := a.some' h
  rw [b.col x o' h', a.col x o h]
theorem mono (a : Stp I c c' H H') (h : ∀ i, I i → J i) : Stp J c c' H H' := ⟨fun x o e n => a.keep x o e fun z => n (h _ z), a.col, a.tup, a.fre⟩
theorem same (h : Same H H') : Stp I c c H H' := ⟨fun x o e _ => h x o e, fun _ _ _ => rfl, fun x xs e => h x _ e, fun _ e => h.free e⟩
theorem own {b : Addr} {o o' : HO} (h : H b = some o) (hi : I (c b)) (ht : ∀ xs, o ≠ .tup xs) : Stp I c c H (upd H b o') := by
  refine ⟨fun x u e n => ?_, fun _ _ _ => rfl, fun x xs e => ?_, fun x e => ?_⟩
  · rw [upd_ne (fun z => n (by rw [z]; exact hi))]; exact e
  · rw [upd_ne (fun z => ht xs (by subst z; rw [h] at e; exact Option.some.inj e))]; exact e
  · by_cases z : x = b
    · subst z; rw [upd_same] at e; cases e
    · rw [upd_ne z] at e; exact e
/-- one own object changed -/
theorem ch {b : Addr} {o o' : HO} (h : H b = some o) (hi : I (c b)) (ht : ∀ xs, o ≠ .tup xs) (h' : H' b = some o') (k : ∀ x, x ≠ b → H' x = H x) : Stp I c c H H' := by
  refine ⟨fun x u e n => ?_, fun _ _ _ => rfl, fun x xs e => ?_, fun x e => ?_⟩
  · rw [k x (fun z => n (by rw [z]; exact hi))]; exact e
  · rw [k x (fun z => ht xs (by subst z; rw [h] at e; exact Option.some.inj e))]; exact e
  · by_cases z : x = b
    · subst z; rw [h'] at e; cases e
    · rw [k x z] at e; exact e
theorem sameC (h : Same H H') (hc : ∀ b o, H b = some o → c' b = c b) : Stp I c c' H H' := ⟨fun x o e _ => h x o e, hc, fun x xs e => h x _ e, fun _ e => h.free e⟩
theorem new {p : Addr} {o : HO} (h : H p = none) : Stp I c c H (upd H p o) := same fun b u e => by rw [upd_ne (ne_of_none e h)]; exact e
/-- a new object gets its owner -/
def paint (c : Addr → Nat) (p : Addr) (i : Nat) : Addr → Nat := fun b => if b = p then i else c b
theorem paint_same {p : Addr} {i : Nat} : paint c p i p = i := by unfold paint; rw [if_pos rfl]
theorem paint_ne {p b : Addr} {i : Nat} (h : b ≠ p) : paint c p i b = c b := by unfold paint; rw [if_neg h]
theorem newc {p : Addr} {o : HO} {i : Nat} (h : H p = none) : Stp I c (paint c p i) H (upd H p o) :=
  ⟨fun b u e _ => by rw [upd_ne (ne_of_none e h)]; exact e, fun b u e => paint_ne (ne_of_none e h), fun b xs e => by rw [upd_ne (ne_of_none e h)]; exact e, fun b e => by
    by_cases z : b = p
    · subst z; rw [upd_same] at e; cases e
    · rw [upd_ne z] at e; exact e⟩
end Stp
end Lw
namespace Lw
open PySem L2
open PyProof.Rows (envOfC)
theorem lk_eq {k : Str} {v : V} {l : List (Str × V)} : List.lookup k ((k, v) :: l) = some v := by simp [List.lookup]
theorem lk_ne {k k' : Str} {v : V} {l : List (Str × V)} (h : (k == k') = false) : List.lookup k ((k', v) :: l) = l.lookup k := by simp [List.lookup, h]
theorem lk_no {m : Str} : ∀ {l : List (Str × V)}, (l.map (·.1)).all (fun f => !(m == f)) = true → l.lookup m = none
  | [], _ => rfl
  | (k, v) :: l, h => by
    have h : (!(m == k) && (l.map (·.1)).all (fun f => !(m == f))) = true := h
    rw [Bool.and_eq_true, Bool.not_eq_true'] at h
    rw [lk_ne h.1]
    exact lk_no h.2
theorem putF_le {f : Str} {y : V} : ∀ {fs : List (Str × V)}, (putF f y fs).length ≤ fs.length + 1
  | [] => Nat.le_refl _
  | (k, v) :: r => by
    show (if k = f then _ else _ : List (Str × V)).length ≤ _
    split
    · exact Nat.le_succ _
    · exact Nat.succ_le_succ putF_le
theorem pf_eq {k : Str} {y v : V} {l : List (Str × V)} : putF k y ((k, v) :: l) = (k, y) :: l := by
  show (if k = k then _ else _) = _
  rw [if_pos rfl]
theorem pf_ne {k k' : Str} {y v : V} {l : List (Str × V)} (h : ¬ k' = k) : putF k y ((k', v) :: l) = (k', v) :: putF k y l := by
  show (if k' = k then _ else _) = _
  rw [if_neg h]
theorem empty_S : ("" : Str) = SX.S [] := by decide +kernel
theorem join_empty (l : List Nat) : Txt.join ("" : Str) (l.map fun c => SX.S [c]) = SX.S l := by
  have e : (l.map fun c => SX.S [c]) = (l.map fun c => [c]).map SX.S := by rw [List.map_map]; rfl
  rw [empty_S, e, SX.join_S]
  have h : ∀ l : List Nat, TL.joinL [] (l.map fun c => [c]) = l := by
    intro l
    induction l with
    | nil => rfl
    | cons a r ih =>
      cases r with
      | nil => rfl
      | cons b r => 
        show [a] ++ ([] ++ TL.joinL [] ((b :: r).map fun c => [c])) = a :: b :: r
        rw [ih]
        rfl
  rw [h]
theorem sum_ones (l : List Nat) : ((l.map fun c => SX.S [c]).map (·.length)).sum = l.length := by
  induction l with
  | nil => rfl
  | cons a r ih =>
    rw [List.map_cons, List.map_cons, List.sum_cons, ih, SX.S_len, List.length_cons]
    simp only [List.length_cons, List.length_nil]
    omega
theorem join_flat (l : List (List Nat)) : Txt.join ("" : Str) (l.map SX.S) = SX.S l.flatten := by
  rw [empty_S, SX.join_S]
  have h : ∀ l : List (List Nat), TL.joinL [] l = l.flatten := by
    intro l
    induction l with
    | nil => rfl
    | cons a r ih =>
      cases r with
      | nil => show a = a ++ []; rw [List.append_nil]
      | cons b r =>
        show a ++ ([] ++ TL.joinL [] (b :: r)) = _
        rw [ih]
        rfl
  rw [h]
theorem sum_flat (l : List (List Nat)) : ((l.map SX.S).map (·.length)).sum = l.flatten.length := by
  rw [SX.lens, List.length_flatten]
theorem L2x_sameN {I : Nat → Prop} {c : Addr → Nat} {H H' : Hp} {p : Addr} {i : Nat} (s : Same H H') (n : H p = none) : Stp I c (Stp.paint c p i) H H' := Stp.sameC s fun b o e => Stp.paint_ne (ne_of_none e n)
end Lw
local macro_rules | `(tactic| walk_at "lw side") => `(tactic| first | assumption | decide | omega | exact Or.inr ⟨by decide, by decide⟩ | exact Or.inl ⟨by decide, by decide⟩ | exact ⟨by decide, by decide⟩ | exact ⟨by omega, by omega⟩)
local macro_rules | `(tactic| walk_at "lw ne") => `(tactic| first | assumption | exact Ne.symm (by assumption) | exact L2.ne_of_none (by assumption) (by assumption) | exact Ne.symm (L2.ne_of_none (by assumption) (by assumption)))
local macro_rules | `(tactic| walk_at "lw hp") => `(tactic| first | assumption | exact L2.upd_same | (refine Eq.trans (L2.upd_ne (by walk_at "lw ne")) ?_; walk_at "lw hp"))
local macro_rules | `(tactic| walk_at "lw sq") => `(tactic| first | assumption | exact L2.SqL.of (by walk_at "lw hp") | exact L2.SqT.of (by walk_at "lw hp"))
local macro_rules | `(tactic| walk_at "lw go") => `(tactic| first
  | (with_reducible refine Lw.g_seq ?_)
  | ((with_reducible refine' Lw.g_var ?h1 ?k1); (case h1 => rfl))
  | (with_reducible refine Lw.g_c ?_)
  | (with_reducible refine Lw.g_op ?_)
  | (with_reducible refine Lw.g_I0 ?_)
  | ((with_reducible refine' Lw.g_I ?h1 ?k1); (case h1 => walk_at "lw side"))
  | ((with_reducible refine' Lw.g_eq ?h1 ?k1); (case h1 => rfl))
  | ((with_reducible refine' Lw.g_ne ?h1 ?k1); (case h1 => rfl))
  | (with_reducible refine Lw.g_nil ?_)
  | (with_reducible refine Lw.g_cons ?_)
  | (with_reducible refine Lw.g_cb ?_)
  | (with_reducible refine Lw.g_call ?_)
  | (with_reducible refine Lw.g_test ?_)
  | (with_reducible refine Lw.g_B ?_)
  | (with_reducible refine Lw.g_exb ?_)
  | (with_reducible refine Lw.g_not ?_)
  | (with_reducible refine Lw.g_and ?_)
  | (with_reducible refine Lw.g_or ?_)
  | (with_reducible refine Lw.g_tup ?_)
  | (with_reducible refine Lw.g_lst ?_)
  | (with_reducible refine Lw.g_ifx ?_)
  | (with_reducible refine Lw.g_fld ?_)
  | (with_reducible refine Lw.g_asg ?_)
  | (with_reducible refine Lw.g_name ?_)
  | (with_reducible refine Lw.g_ret ?_)
  | (with_reducible refine Lw.g_drop ?_)
  | (with_reducible refine Lw.g_next ?_)
  | (with_reducible refine Lw.g_ifs ?_)
  | (with_reducible refine Lw.g_pnx ?_)
  | (with_reducible refine Lw.g_prt ?_)
  | (with_reducible refine Lw.g_pbk ?_)
  | (with_reducible refine Lw.g_pct ?_)
  | (with_reducible refine Lw.g_sl ?_)
  | (with_reducible refine Lw.g_nopart ?_)
  | (with_reducible refine Lw.g_part ?_)
  | (with_reducible refine Lw.g_rpart ?_)
  | (with_reducible refine Lw.g_m1 ?_)
  | (with_reducible refine Lw.g_m0 ?_)
  | (with_reducible refine Lw.g_rstr ?_)
  | (with_reducible refine Lw.g_bm0 ?_)
  | (with_reducible refine Lw.g_bm ?_)
  | (with_reducible refine Lw.g_isN ?_)
  | (with_reducible refine Lw.g_isB ?_)
  | (with_reducible refine Lw.g_notB ?_)
  | (with_reducible refine Lw.g_andV ?_)
  | (with_reducible refine Lw.g_orV ?_)
  | (with_reducible refine Lw.g_notV ?_)
  | (with_reducible refine Lw.g_notN ?_)
  | (with_reducible refine L2.iteT ?_)
  | (with_reducible refine L2.iteF ?_)
  | (with_reducible refine Lw.g_int1 ?_)
  | (with_reducible refine Lw.g_int1b ?_)
  | (with_reducible refine Lw.g_sub ?_)
  | (with_reducible refine Lw.g_forR ?_)
  | (with_reducible refine Lw.g_for ?_)
  | (with_reducible refine Lw.g_lc ?_)
  | (with_reducible refine Lw.g_iStr ?_)
  | (with_reducible refine Lw.g_ritS ?_)
  | (with_reducible refine Lw.g_tyS ?_)
  | (with_reducible refine Lw.g_iList ?_)
  | (with_reducible refine Lw.g_iTup ?_)
  | (with_reducible refine Lw.g_iRng ?_)
  | (with_reducible refine Lw.g_inSg ?_)
  | (with_reducible refine Lw.g_notInSg ?_)
  | (with_reducible refine Lw.g_ord ?_)
  | (with_reducible refine Lw.g_reprB ?_)
  | (with_reducible refine Lw.g_sfld ?_)
  | (with_reducible refine Lw.g_meth ?_)
  | (with_reducible refine Lw.g_make ?_)
  | (with_reducible refine Lw.g_dget ?_)
  | (with_reducible refine Lw.g_din ?_)
  | (with_reducible refine Lw.g_dnotin ?_)
  | (with_reducible refine Lw.g_dput ?_)
  | (with_reducible refine Lw.g_ddel ?_)
  | (with_reducible refine Lw.g_dpop1 ?_)
  | (with_reducible refine Lw.g_dget1 ?_)
  | (with_reducible refine Lw.g_iKeys ?_)
  | (with_reducible refine Lw.g_fldaug ?_)
  | ((with_reducible refine' Lw.g_lenL ?h1 ?k1); (case h1 => walk_at "lw sq"))
  | ((with_reducible refine' Lw.g_lenD ?h1 ?k1); (case h1 => walk_at "lw hp")))
local macro_rules | `(tactic| walk_at "lw") => `(tactic| repeat walk_at "lw go")

/-! ## dicts: the steps -/
namespace Lw
open PySem L2 PySem.Spec
open PyProof.Rows (envOfC sortedS risingS)
/-- the key behind a value -/
def kI (i : Int) : Key := .inl i
def kS (x : Str) : Key := .inr x
section
variable {σ : L2.St} {H : Hp} {Q : VK} {K : PySem.W.Frag} {D : Ends} {ta tb te tx : TE} {tl : TA} {t u : TS} {i : Nat} {v : V} {g : TG}
def rDGet (x y : V) (H : Hp) (Q : VK) : Prop := ∃ a v, x = .ref a ∧ DGet H a y (some v) ∧ Q v H
theorem g_dget (k : ta σ H fun x H1 => tb σ H1 fun y H2 => rDGet x y H2 Q) : tDGet ta tb σ H Q := k
theorem g_rdgetI {a : Addr} {kvs : List (Key × V)} {j : Int} (h : Rd H a (.dK kvs)) (hv : valV kvs (kI j) = some v) (k : Q v H) : rDGet (.ref a) (.int j) H Q := ⟨a, v, rfl, .inl ⟨kvs, kI j, h, rfl, hv.symm⟩, k⟩
theorem g_rdgetS {a : Addr} {kvs : List (Key × V)} {z : Str} (h : Rd H a (.dK kvs)) (hv : valV kvs (kS z) = some v) (k : Q v H) : rDGet (.ref a) (.str z) H Q := ⟨a, v, rfl, .inl ⟨kvs, kS z, h, rfl, hv.symm⟩, k⟩
def rDIn (y x : V) (H : Hp) (Q : VK) : Prop := ∃ a o, x = .ref a ∧ DGet H a y o ∧ Q (.bl o.isSome) H
theorem g_din (k : ta σ H fun y H1 => tb σ H1 fun x H2 => rDIn y x H2 Q) : tDIn ta tb σ H Q := k
theorem g_rdinI {a : Addr} {kvs : List (Key × V)} {j : Int} (h : Rd H a (.dK kvs)) (k : Q (.bl (valV kvs (kI j)).isSome) H) : rDIn (.int j) (.ref a) H Q := ⟨a, _, rfl, .inl ⟨kvs, kI j, h, rfl, rfl⟩, k⟩
theorem g_rdinS {a : Addr} {kvs : List (Key × V)} {z : Str} (h : Rd H a (.dK kvs)) (k : Q (.bl (valV kvs (kS z)).isSome) H) : rDIn (.str z) (.ref a) H Q := ⟨a, _, rfl, .inl ⟨kvs, kS z, h, rfl, rfl⟩, k⟩
def rDNotIn (y x : V) (H : Hp) (Q : VK) : Prop := ∃ a o, x = .ref a ∧ DGet H a y o ∧ Q (.bl (!o.isSome)) H
theorem g_dnotin (k : ta σ H fun y H1 => tb σ H1 fun x H2 => rDNotIn y x H2 Q) : tDNotIn ta tb σ H Q := k
theorem g_rdnotinI {a : Addr} {kvs : List (Key × V)} {j : Int} (h : Rd H a (.dK kvs)) (k : Q (.bl (!(valV kvs (kI j)).isSome)) H) : rDNotIn (.int j) (.ref a) H Q := ⟨a, _, rfl, .inl ⟨kvs, kI j, h, rfl, rfl⟩, k⟩
theorem g_rdnotinS {a : Addr} {kvs : List (Key × V)} {z : Str} (h : Rd H a (.dK kvs)) (k : Q (.bl (!(valV kvs (kS z)).isSome)) H) : rDNotIn (.str z) (.ref a) H Q := ⟨a, _, rfl, .inl ⟨kvs, kS z, h, rfl, rfl⟩, k⟩
def rDPut (x y v : V) (H : Hp) (R : Hp → Prop) : Prop := ∃ a H', x = .ref a ∧ DPut H a y v H' ∧ R H'
theorem g_dput (k : te σ H fun v H1 => ta σ H1 fun x H2 => tb σ H2 fun y H3 => rDPut x y v H3 fun H4 => D.nx σ H4) : sDPut ta tb te D σ H := k
theorem g_rdputI {a : Addr} {kvs : List (Key × V)} {j : Int} {R : Hp → Prop} (h : H a = some (.dK kvs)) (hl : kvs.length < 100000) (k : ∀ H', H' a = some (.dK (putK kvs (kI j) v)) → (∀ b, b ≠ a → H' b = H b) → R H') : rDPut (.ref a) (.int j) v H R :=
  ⟨a, _, rfl, .inl ⟨kvs, kI j, h, rfl, Nat.lt_of_lt_of_le hl (by decide), rfl⟩, k _ upd_same fun b hb => upd_ne hb⟩
theorem g_rdputS {a : Addr} {kvs : List (Key × V)} {z : Str} {R : Hp → Prop} (h : H a = some (.dK kvs)) (hl : kvs.length < 100000) (k : ∀ H', H' a = some (.dK (putK kvs (kS z) v)) → (∀ b, b ≠ a → H' b = H b) → R H') : rDPut (.ref a) (.str z) v H R :=
  ⟨a, _, rfl, .inl ⟨kvs, kS z, h, rfl, Nat.lt_of_lt_of_le hl (by decide), rfl⟩, k _ upd_same fun b hb => upd_ne hb⟩
def rDDel (x y : V) (H : Hp) (R : Hp → Prop) : Prop := ∃ a kvs k, x = .ref a ∧ H a = some (.dK kvs) ∧ y = kV k ∧ (valV kvs k).isSome = true ∧ R (upd H a (.dK (dropK kvs k)))
theorem g_ddel (k : ta σ H fun x H1 => tb σ H1 fun y H2 => rDDel x y H2 fun H3 => D.nx σ H3) : sDDel ta tb D σ H := k
theorem g_rddelI {a : Addr} {kvs : List (Key × V)} {j : Int} {R : Hp → Prop} (h : H a = some (.dK kvs)) (hs : (valV kvs (kI j)).isSome = true) (k : ∀ H', H' a = some (.dK (dropK kvs (kI j))) → (∀ b, b ≠ a → H' b = H b) → R H') : rDDel (.ref a) (.int j) H R :=
  ⟨a, kvs, kI j, rfl, h, rfl, hs, k _ upd_same fun b hb => upd_ne hb⟩
theorem g_rddelS {a : Addr} {kvs : List (Key × V)} {z : Str} {R : Hp → Prop} (h : H a = some (.dK kvs)) (hs : (valV kvs (kS z)).isSome = true) (k : ∀ H', H' a = some (.dK (dropK kvs (kS z))) → (∀ b, b ≠ a → H' b = H b) → R H') : rDDel (.ref a) (.str z) H R :=
  ⟨a, kvs, kS z, rfl, h, rfl, hs, k _ upd_same fun b hb => upd_ne hb⟩
def rIsD (x : V) (H : Hp) (A : Addr → Prop) : Prop := ∃ a, x = .ref a ∧ IsD H a ∧ A a
theorem g_risd {a : Addr} {kvs : List (Key × V)} {A : Addr → Prop} (h : Rd H a (.dK kvs)) (k : A a) : rIsD (.ref a) H A := ⟨a, rfl, .inl ⟨kvs, h⟩, k⟩
def rDPop (a : Addr) (y : V) (H : Hp) (Q : VK) : Prop := ∃ kvs k v, H a = some (.dK kvs) ∧ y = kV k ∧ valV kvs k = some v ∧ Q v (upd H a (.dK (dropK kvs k)))
theorem g_dpop1 (k : ta σ H fun x H1 => rIsD x H1 fun a => tb σ H1 fun y H2 => rDPop a y H2 Q) : tDPop1 ta tb σ H Q := k
theorem g_rdpopI {a : Addr} {kvs : List (Key × V)} {j : Int} (h : H a = some (.dK kvs)) (hv : valV kvs (kI j) = some v) (k : ∀ H', H' a = some (.dK (dropK kvs (kI j))) → (∀ b, b ≠ a → H' b = H b) → Q v H') : rDPop a (.int j) H Q :=
  ⟨kvs, kI j, v, h, rfl, hv, k _ upd_same fun b hb => upd_ne hb⟩
theorem g_rdpopS {a : Addr} {kvs : List (Key × V)} {z : Str} (h : H a = some (.dK kvs)) (hv : valV kvs (kS z) = some v) (k : ∀ H', H' a = some (.dK (dropK kvs (kS z))) → (∀ b, b ≠ a → H' b = H b) → Q v H') : rDPop a (.str z) H Q :=
  ⟨kvs, kS z, v, h, rfl, hv, k _ upd_same fun b hb => upd_ne hb⟩
def rDGet1 (a : Addr) (y : V) (H : Hp) (Q : VK) : Prop := ∃ o, DGet H a y o ∧ Q (o.getD .non) H
theorem g_dget1 (k : ta σ H fun x H1 => rIsD x H1 fun a => tb σ H1 fun y H2 => rDGet1 a y H2 Q) : tDGet1 ta tb σ H Q := k
theorem g_rdget1I {a : Addr} {kvs : List (Key × V)} {j : Int} (h : Rd H a (.dK kvs)) (k : Q ((valV kvs (kI j)).getD .non) H) : rDGet1 a (.int j) H Q := ⟨_, .inl ⟨kvs, kI j, h, rfl, rfl⟩, k⟩
theorem g_rdget1S {a : Addr} {kvs : List (Key × V)} {z : Str} (h : Rd H a (.dK kvs)) (k : Q ((valV kvs (kS z)).getD .non) H) : rDGet1 a (.str z) H Q := ⟨_, .inl ⟨kvs, kS z, h, rfl, rfl⟩, k⟩
theorem g_dnew (k : ∀ p H', H p = none → Same H H' → H' p = some (.dK []) → Q (.ref p) H') : tDNewK σ H Q := New.to (Q := fun p H' => Q (.ref p) H') k
/-- {k: v, ..} -/
def rDisp (p : Addr) (ps : List (V × V)) (H2 : Hp) (Q : VK) : Prop := H2 p = some (.dK []) ∧ ∃ kvs : List (Key × V), ps = kvs.map (fun kv => (kV kv.1, kv.2)) ∧ kvs.length ≤ 15 ∧ Q (.ref p) (upd H2 p (.dK (mergeK [] kvs)))
theorem g_disp {trs : List (TE × TE)} (k : ∀ p H', H p = none → Same H H' → H' p = some (.dK []) → tPairs trs σ H' fun ps H2 => rDisp p ps H2 Q) : tDisp trs σ H Q := fun p hp => k p _ hp (Same.new hp) upd_same
theorem g_pairs0 {Q : List (V × V) → Hp → Prop} (k : Q [] H) : tPairs [] σ H Q := k
theorem g_pairs1 {trs : List (TE × TE)} {Q : List (V × V) → Hp → Prop} (k : ta σ H fun x H1 => tb σ H1 fun y H2 => tPairs trs σ H2 fun ps H3 => Q ((x, y) :: ps) H3) : tPairs ((ta, tb) :: trs) σ H Q := k
theorem g_rdisp {p : Addr} {ps : List (V × V)} {kvs : List (Key × V)} (h : H p = some (.dK [])) (e : ps = kvs.map (fun kv => (kV kv.1, kv.2))) (hl : kvs.length ≤ 15) (k : ∀ H', H' p = some (.dK (mergeK [] kvs)) → (∀ b, b ≠ p → H' b = H b) → Q (.ref p) H') : rDisp p ps H Q := ⟨h, kvs, e, hl, k _ upd_same fun b hb => upd_ne hb⟩
/-- a loop over a dict's keys -/
theorem g_lock {d : Addr} {kvs : List (Key × V)} (h : H d = some (.dK kvs)) (k : ∀ od H', H' d = some (.frz od (.dK kvs)) → (∀ b, b ≠ d → H' b = H b) →
    t ⟨fun σ' H' => H' d = some (.frz od (.dK kvs)) ∧ D.nx σ' (upd H' d (.dK kvs)), fun v H' => H' d = some (.frz od (.dK kvs)) ∧ D.rt v (upd H' d (.dK kvs)), fun σ' H' => H' d = some (.frz od (.dK kvs)) ∧ D.bk σ' (upd H' d (.dK kvs)), fun σ' H' => H' d = some (.frz od (.dK kvs)) ∧ D.ct σ' (upd H' d (.dK kvs))⟩ σ H') : tLock t D σ H :=
  ⟨d, _, h, trivial, fun od => k od _ upd_same fun b hb => upd_ne hb⟩
def rItK (x : V) (H : Hp) (R : It → Hp → Prop) : Prop := ∃ d o, x = .ref d ∧ ((∃ kvs, H d = some (.frz o (.dK kvs)) ∧ R (Itk d o kvs) H) ∨ ∃ kvs, H d = some (.frz o (.dT kvs)) ∧ R (Itkt d o kvs) H)
theorem g_iKeys {R : It → Hp → Prop} (k : te σ H fun v H1 => rItK v H1 R) : iKeys te σ H R := k
theorem g_ritK {d : Addr} {o : Obj} {kvs : List (Key × V)} {R : It → Hp → Prop} (h : H d = some (.frz o (.dK kvs))) (k : R (Itk d o kvs) H) : rItK (.ref d) H R := ⟨d, o, rfl, .inl ⟨kvs, h, k⟩⟩
theorem walk_ks {d : Addr} {o : Obj} {kvs : List (Key × V)} : Walk (Itk d o kvs) (kvs.map fun kv => kV kv.1).length (fun H => H d = some (.frz o (.dK kvs))) (YAt (kvs.map fun kv => kV kv.1)) := by
  rw [List.length_map]
  refine walk_keys.mono (fun _ h => h) fun i H x H' hi _ h => ?_
  obtain ⟨h1, k, v, h2, h3⟩ := h
  refine ⟨h1, ?_⟩
  rw [List.getElem?_map, h2, h3]
  rfl
def rFldAug (K : PySem.W.Frag) (f : Str) (x : V) (tv : TE) (rd : V → V → Hp → VK → Prop) (D : Ends) (σ : L2.St) (H1 : Hp) : Prop := ∃ a C dx fs v, x = .ref a ∧ H1 a = some (.ins C dx fs) ∧ Cls K C ∧ NoAttr K C f ∧ fs.lookup f = some v ∧
  tv σ H1 fun y H2 => rd v y H2 fun z H3 => ∃ dx' fs', H3 a = some (.ins C dx' fs') ∧ fs'.length < 1000 ∧ D.nx σ (upd H3 a (.ins C dx' (putF f z fs')))
theorem g_fldaug {rd : V → V → Hp → VK → Prop} {f : Str} (k : ta σ H fun x H1 => rFldAug K f x te rd D σ H1) : sFldAug K ta te rd f D σ H := k
/-- self.f += an int -/
theorem g_rfldaugI {f : Str} {a C dx : Addr} {fs : List (Str × V)} {m j : Int} (h : H a = some (.ins C dx fs)) (hc : Cls K C) (hn : NoAttr K C f) (hl : fs.lookup f = some (.int m)) (hz : fs.length < 1000)
    (hv : ∀ R : VK, R (.int j) H → te σ H R) (k : ∀ H', H' a = some (.ins C dx (putF f (.int (m + j)) fs)) → (∀ b, b ≠ a → H' b = H b) → D.nx σ H') : rFldAug K f (.ref a) te rAdd D σ H :=
  ⟨a, C, dx, fs, _, rfl, h, hc, hn, hl, hv _ ⟨m, j, rfl, rfl, dx, fs, h, hz, k _ upd_same fun b hb => upd_ne hb⟩⟩
end
/-! ### dicts whose keys stand in a list, their values a function -/
section
variable {α : Type} {F : α → Key} {G : α → V}
theorem valV_cons {p : Key × V} {r : List (Key × V)} {k : Key} : valV (p :: r) k = if p.1 = k then some p.2 else valV r k := by
  by_cases h : p.1 = k
  · rw [if_pos h, valV_pos h]
  · rw [if_neg h, valV_neg h]
/-- a dict of the keys ks with the values A -/
def mkD (ks : List Int) (A : Int → V) : List (Key × V) := ks.map fun i => (kI i, A i)
theorem mkD_len {ks : List Int} {A : Int → V} : (mkD ks A).length = ks.length := List.length_map _
theorem valV_mkD {ks : List Int} {A : Int → V} {i : Int} : valV (mkD ks A) (kI i) = if i ∈ ks then some (A i) else none := by
  induction ks with
  | nil => rfl
  | cons j r ih =>
    show valV ((kI j, A j) :: mkD r A) (kI i) = _
    rw [valV_cons, ih]
    by_cases h : j = i
    · subst h
      simp [kI]
    · have h2 : ¬ (kI j = kI i) := fun z => h (Sum.inl.inj z)
      have h3 : ¬ (i = j) := fun z => h z.symm
      simp [h2, h3]
theorem mkD_congr {ks : List Int} {A B : Int → V} (h : ∀ i ∈ ks, A i = B i) : mkD ks A = mkD ks B := List.map_congr_left fun i hi => by rw [h i hi]
theorem putK_mkD_new {ks : List Int} {A : Int → V} {i : Int} {v : V} (h : i ∉ ks) : putK (mkD ks A) (kI i) v = mkD (ks ++ [i]) (fun j => if j = i then v else A j) := by
  unfold putK
  rw [valV_any, valV_mkD, if_neg h]
  have e : mkD ks (fun j => if j = i then v else A j) = mkD ks A := mkD_congr fun j hj => if_neg fun z => h (by rw [← z]; exact hj)
  show (if none.isSome = true then _ else _) = _
  rw [if_neg (by decide)]
  show mkD ks A ++ [(kI i, v)] = (ks ++ [i]).map _
  rw [List.map_append, ← e]
  show _ = _ ++ [(kI i, if i = i then v else A i)]
  rw [if_pos rfl]
  rfl
theorem putK_mkD_old {ks : List Int} {A : Int → V} {i : Int} {v : V} (h : i ∈ ks) : putK (mkD ks A) (kI i) v = mkD ks (fun j => if j = i then v else A j) := by
  unfold putK
  rw [valV_any, valV_mkD, if_pos h]
  show (if (some (A i)).isSome = true then _ else _) = _
  rw [if_pos (show (some (A i)).isSome = true from rfl)]
  unfold mkD
  rw [List.map_map]
  refine List.map_congr_left fun j _ => ?_
  show (if kI j = kI i then (kI j, v) else (kI j, A j)) = (kI j, if j = i then v else A j)
  by_cases hj : j = i
  · rw [if_pos (by rw [hj]), if_pos hj]
  · rw [if_neg (show ¬ kI j = kI i from fun z => hj (Sum.inl.inj z)), if_neg hj]
theorem dropK_mkD {ks : List Int} {A : Int → V} {i : Int} : dropK (mkD ks A) (kI i) = mkD (ks.filter fun j => decide (j ≠ i)) A := by
  unfold dropK mkD
  rw [List.filter_map]
  congr 1
  refine List.filter_congr fun j _ => ?_
  show decide (kI j ≠ kI i) = decide (j ≠ i)
  rw [decide_eq_decide]
  exact ⟨fun h z => h (by rw [z]), fun h z => h (Sum.inl.inj z)⟩
theorem mkD_keys {ks : List Int} {A : Int → V} : (mkD ks A).map (·.1) = ks.map Sum.inl := by
  unfold mkD
  rw [List.map_map]
  rfl
theorem mkD_kV {ks : List Int} {A : Int → V} : ((mkD ks A).map fun kv => kV kv.1) = ks.map V.int := by
  unfold mkD
  rw [List.map_map]
  rfl
/-- .. of texts -/
def mkS (ks : List Str) (A : Str → V) : List (Key × V) := ks.map fun i => (kS i, A i)
theorem mkS_len {ks : List Str} {A : Str → V} : (mkS ks A).length = ks.length := List.length_map _
theorem valV_mkS {ks : List Str} {A : Str → V} {i : Str} : valV (mkS ks A) (kS i) = if i ∈ ks then some (A i) else none := by
  induction ks with
  | nil => rfl
  | cons j r ih =>
    show valV ((kS j, A j) :: mkS r A) (kS i) = _
    rw [valV_cons, ih]
    by_cases h : j = i
    · subst h
      simp [kS]
    · have h2 : ¬ (kS j = kS i) := fun z => h (Sum.inr.inj z)
      have h3 : ¬ (i = j) := fun z => h z.symm
      simp [h2, h3]
theorem mkS_congr {ks : List Str} {A B : Str → V} (h : ∀ i ∈ ks, A i = B i) : mkS ks A = mkS ks B := List.map_congr_left fun i hi => by rw [h i hi]
theorem putK_mkS_new {ks : List Str} {A : Str → V} {i : Str} {v : V} (h : i ∉ ks) : putK (mkS ks A) (kS i) v = mkS (ks ++ [i]) (fun j => if j = i then v else A j) := by
  unfold putK
  rw [valV_any, valV_mkS, if_neg h]
  have e : mkS ks (fun j => if j = i then v else A j) = mkS ks A := mkS_congr fun j hj => if_neg fun z => h (by rw [← z]; exact hj)
  show (if none.isSome = true then _ else _) = _
  rw [if_neg (by decide)]
  show mkS ks A ++ [(kS i, v)] = (ks ++ [i]).map _
  rw [List.map_append, ← e]
  show _ = _ ++ [(kS i, if i = i then v else A i)]
  rw [if_pos rfl]
  rfl
theorem putK_mkS_old {ks : List Str} {A : Str → V} {i : Str} {v : V} (h : i ∈ ks) : putK (mkS ks A) (kS i) v = mkS ks (fun j => if j = i then v else A j) := by
  unfold putK
  rw [valV_any, valV_mkS, if_pos h]
  show (if (some (A i)).isSome = true then _ else _) = _
  rw [if_pos (show (some (A i)).isSome = true from rfl)]
  unfold mkS
  rw [List.map_map]
  refine List.map_congr_left fun j _ => ?_
  show (if kS j = kS i then (kS j, v) else (kS j, A j)) = (kS j, if j = i then v else A j)
  by_cases hj : j = i
  · rw [if_pos (by rw [hj]), if_pos hj]
  · rw [if_neg (show ¬ kS j = kS i from fun z => hj (Sum.inr.inj z)), if_neg hj]
theorem dropK_mkS {ks : List Str} {A : Str → V} {i : Str} : dropK (mkS ks A) (kS i) = mkS (ks.filter fun j => decide (j ≠ i)) A := by
  unfold dropK mkS
  rw [List.filter_map]
  congr 1
  refine List.filter_congr fun j _ => ?_
  show decide (kS j ≠ kS i) = decide (j ≠ i)
  rw [decide_eq_decide]
  exact ⟨fun h z => h (by rw [z]), fun h z => h (Sum.inr.inj z)⟩
theorem mkS_keys {ks : List Str} {A : Str → V} : (mkS ks A).map (·.1) = ks.map Sum.inr := by
  unfold mkS
  rw [List.map_map]
  rfl
theorem mkS_kV {ks : List Str} {A : Str → V} : ((mkS ks A).map fun kv => kV kv.1) = ks.map V.str := by
  unfold mkS
  rw [List.map_map]
  rfl
end
/-! ### sorted lists that hold the same are the same -/
theorem int_sorted_eq {a b : List Int} (h : a.Perm b) (ha : a.Pairwise (· ≤ ·)) (hb : b.Pairwise (· ≤ ·)) : a = b :=
  List.Perm.eq_of_pairwise (le := (· ≤ ·)) (fun x y _ _ h1 h2 => Int.le_antisymm h1 h2) ha hb h
theorem sortedS_pw : ∀ (l : List Str), sortedS l = true → l.Pairwise (fun a b => a.cps.toList ≤ b.cps.toList)
  | [], _ => .nil
  | [x], _ => .cons (fun y hy => nomatch hy) .nil
  | x :: y :: r, h => by
    have h1 : (!ltCps y.cps.toList x.cps.toList && risingS y r) = true := h
    rw [Bool.and_eq_true, Bool.not_eq_true', PyProof.Rows.ltCps_eq, decide_eq_false_iff_not, List.not_lt] at h1
    have ih := sortedS_pw (y :: r) h1.2
    refine .cons (fun z hz => ?_) ih
    rcases List.mem_cons.mp hz with e | hz
    · subst e; exact h1.1
    · exact List.le_trans h1.1 (List.rel_of_pairwise_cons ih hz)
theorem str_ext {a b : Str} (h : a.cps.toList = b.cps.toList) : a = b := by
  cases a; cases b
  simp only [Str.mk.injEq]
  exact Array.toList_inj.mp h
theorem str_sorted_eq {a b : List Str} (h : a.Perm b) (ha : sortedS a = true) (hb : sortedS b = true) : a = b :=
  List.Perm.eq_of_pairwise (le := fun a b => a.cps.toList ≤ b.cps.toList) (fun x y _ _ h1 h2 => str_ext (List.le_antisymm h1 h2)) (sortedS_pw a ha) (sortedS_pw b hb) h
theorem nodup_few {α : Type} [DecidableEq α] : ∀ {l D : List α}, l.Nodup → (∀ x ∈ l, x ∈ D) → l.length ≤ D.length
  | [], _, _, _ => Nat.zero_le _
  | x :: l, D, hn, h => by
    obtain ⟨h1, h2⟩ := List.nodup_cons.mp hn
    have hx := h x List.mem_cons_self
    have ih := nodup_few (l := l) (D := D.erase x) h2 fun y hy => (List.mem_erase_of_ne (fun z => h1 (by rw [← z]; exact hy))).mpr (h y (List.mem_cons_of_mem _ hy))
    rw [List.length_erase_of_mem hx] at ih
    have : 0 < D.length := List.length_pos_of_mem hx
    rw [List.length_cons]
    omega
theorem nodup_take {α : Type} {l : List α} {i : Nat} {x : α} (h : l.Nodup) (e : l[i]? = some x) : x ∉ l.take i := by
  obtain ⟨hl, hx⟩ := List.getElem?_eq_some_iff.mp e
  have h2 : l.take i ++ x :: l.drop (i + 1) = l := by
    rw [← hx, ← List.drop_eq_getElem_cons hl, List.take_append_drop]
  rw [← h2, List.nodup_append] at h
  exact fun z => h.2.2 x z x List.mem_cons_self rfl
theorem perm_same {α : Type} [DecidableEq α] {a b : List α} (ha : a.Nodup) (hb : b.Nodup) (h : ∀ x, x ∈ a ↔ x ∈ b) : a.Perm b := (List.perm_ext_iff_of_nodup ha hb).mpr h
end Lw
local macro_rules | `(tactic| walk_at "lw side") => `(tactic| first | assumption | decide | omega | exact Or.inr ⟨by decide, by decide⟩ | exact Or.inl ⟨by decide, by decide⟩ | exact ⟨by decide, by decide⟩ | exact ⟨by omega, by omega⟩)
local macro_rules | `(tactic| walk_at "lw ne") => `(tactic| first | assumption | exact Ne.symm (by assumption) | exact L2.ne_of_none (by assumption) (by assumption) | exact Ne.symm (L2.ne_of_none (by assumption) (by assumption)))
local macro_rules | `(tactic| walk_at "lw hp") => `(tactic| first | assumption | exact L2.upd_same | (refine Eq.trans (L2.upd_ne (by walk_at "lw ne")) ?_; walk_at "lw hp"))
local macro_rules | `(tactic| walk_at "lw sq") => `(tactic| first | assumption | exact L2.SqL.of (by walk_at "lw hp") | exact L2.SqT.of (by walk_at "lw hp"))
local macro_rules | `(tactic| walk_at "lw go") => `(tactic| first
  | (with_reducible refine Lw.g_seq ?_)
  | ((with_reducible refine' Lw.g_var ?h1 ?k1); (case h1 => rfl))
  | (with_reducible refine Lw.g_c ?_)
  | (with_reducible refine Lw.g_op ?_)
  | (with_reducible refine Lw.g_I0 ?_)
  | ((with_reducible refine' Lw.g_I ?h1 ?k1); (case h1 => walk_at "lw side"))
  | ((with_reducible refine' Lw.g_eq ?h1 ?k1); (case h1 => rfl))
  | ((with_reducible refine' Lw.g_ne ?h1 ?k1); (case h1 => rfl))
  | (with_reducible refine Lw.g_nil ?_)
  | (with_reducible refine Lw.g_cons ?_)
  | (with_reducible refine Lw.g_cb ?_)
  | (with_reducible refine Lw.g_call ?_)
  | (with_reducible refine Lw.g_test ?_)
  | (with_reducible refine Lw.g_B ?_)
  | (with_reducible refine Lw.g_exb ?_)
  | (with_reducible refine Lw.g_not ?_)
  | (with_reducible refine Lw.g_and ?_)
  | (with_reducible refine Lw.g_or ?_)
  | (with_reducible refine Lw.g_tup ?_)
  | (with_reducible refine Lw.g_lst ?_)
  | (with_reducible refine Lw.g_ifx ?_)
  | (with_reducible refine Lw.g_fld ?_)
  | (with_reducible refine Lw.g_asg ?_)
  | (with_reducible refine Lw.g_name ?_)
  | (with_reducible refine Lw.g_ret ?_)
  | (with_reducible refine Lw.g_drop ?_)
  | (with_reducible refine Lw.g_next ?_)
  | (with_reducible refine Lw.g_ifs ?_)
  | (with_reducible refine Lw.g_pnx ?_)
  | (with_reducible refine Lw.g_prt ?_)
  | (with_reducible refine Lw.g_pbk ?_)
  | (with_reducible refine Lw.g_pct ?_)
  | (with_reducible refine Lw.g_sl ?_)
  | (with_reducible refine Lw.g_nopart ?_)
  | (with_reducible refine Lw.g_part ?_)
  | (with_reducible refine Lw.g_rpart ?_)
  | (with_reducible refine Lw.g_m1 ?_)
  | (with_reducible refine Lw.g_m0 ?_)
  | (with_reducible refine Lw.g_rstr ?_)
  | (with_reducible refine Lw.g_bm0 ?_)
  | (with_reducible refine Lw.g_bm ?_)
  | (with_reducible refine Lw.g_isN ?_)
  | (with_reducible refine Lw.g_isB ?_)
  | (with_reducible refine Lw.g_notB ?_)
  | (with_reducible refine Lw.g_andV ?_)
  | (with_reducible refine Lw.g_orV ?_)
  | (with_reducible refine Lw.g_notV ?_)
  | (with_reducible refine Lw.g_notN ?_)
  | (with_reducible refine L2.iteT ?_)
  | (with_reducible refine L2.iteF ?_)
  | (with_reducible refine Lw.g_int1 ?_)
  | (with_reducible refine Lw.g_int1b ?_)
  | (with_reducible refine Lw.g_sub ?_)
  | (with_reducible refine Lw.g_forR ?_)
  | (with_reducible refine Lw.g_for ?_)
  | (with_reducible refine Lw.g_lc ?_)
  | (with_reducible refine Lw.g_iStr ?_)
  | (with_reducible refine Lw.g_ritS ?_)
  | (with_reducible refine Lw.g_tyS ?_)
  | (with_reducible refine Lw.g_iList ?_)
  | (with_reducible refine Lw.g_iTup ?_)
  | (with_reducible refine Lw.g_iRng ?_)
  | (with_reducible refine Lw.g_inSg ?_)
  | (with_reducible refine Lw.g_notInSg ?_)
  | (with_reducible refine Lw.g_ord ?_)
  | (with_reducible refine Lw.g_reprB ?_)
  | (with_reducible refine Lw.g_sfld ?_)
  | (with_reducible refine Lw.g_meth ?_)
  | (with_reducible refine Lw.g_make ?_)
  | (with_reducible refine Lw.g_dget ?_)
  | (with_reducible refine Lw.g_din ?_)
  | (with_reducible refine Lw.g_dnotin ?_)
  | (with_reducible refine Lw.g_dput ?_)
  | (with_reducible refine Lw.g_ddel ?_)
  | (with_reducible refine Lw.g_dpop1 ?_)
  | (with_reducible refine Lw.g_dget1 ?_)
  | (with_reducible refine Lw.g_iKeys ?_)
  | (with_reducible refine Lw.g_fldaug ?_)
  | ((with_reducible refine' Lw.g_lenL ?h1 ?k1); (case h1 => walk_at "lw sq"))
  | ((with_reducible refine' Lw.g_lenD ?h1 ?k1); (case h1 => walk_at "lw hp")))
local macro_rules | `(tactic| walk_at "lw") => `(tactic| repeat walk_at "lw go")

/-! ## errors of the program's own -/
namespace Lw
open PySem L2
open PyProof.Rows (envOfC)
/-- a def that may raise -/
structure CalX (P : Program) (w : World) (K : PySem.W.Frag) (mg : Str → Option Value) (base : Heap) (k : Nat) (x : Str) (sp : Sp) : Prop where
  ex : ∃ (f : Addr) (fd : FuncData) (ps : List Str), FnOk P w K mg base (L2.CX P w) k f fd ps sp ∧ mg x = some (.ref f) ∧ PySem.W.keepIn K (.ref f) = true ∧ Binds K fd ps []
/-- an error's class that is called -/
structure Exo (P : Program) (w : World) (K : PySem.W.Frag) (mg : Str → Option Value) (base : Heap) (k : Nat) (x : Str) (C : Addr) (sp : Sp) : Prop where
  ex : ∃ (f : Addr) (fd : FuncData) (ps : List Str), OexC K C ∧ PySem.W.findIn K (.ref C) "__init__" = some (some (.ref f)) ∧ PySem.W.typeIn K (.ref f) = some (.type "function") ∧ FnOk P w K mg base CX0 k f fd ps sp ∧ mg x = some (.ref C) ∧ Binds K fd ps []
/-- its __init__ -/
structure ExiAt (K : PySem.W.Frag) (mg : Str → Option Value) (x : Str) (C : Addr) (qual : Str) (st : Stmt) (ps : List Str) : Prop where
  ex : ∃ (f : Addr) (fd : FuncData), Fun K "__init__" qual st f fd ∧ PySem.W.findIn K (.ref C) "__init__" = some (some (.ref f)) ∧ PySem.W.typeIn K (.ref f) = some (.type "function") ∧ mg x = some (.ref C) ∧ Binds K fd ps []
/-- isinstance of such an error asks these -/
structure XiC (K : PySem.W.Frag) (D : Addr) : Prop where
  a1 : PySem.W.isClsIn K D = true
  a2 : PySem.W.findIn K (.ref D) "__getattribute__" = some (some (.builtin "BaseException.__getattribute__"))
  a3 : PySem.W.findIn K (.ref D) "__getattr__" = some none
  a4 : PySem.W.subIn K (.ref D) (.type "BaseException") = some true
  a5 : PySem.W.findIn K (.ref D) "__class__" = some (some (.builtin "object.__class__"))
  a6 : PySem.W.specialIn K (.builtin "object.__class__") "__get__" = some (some (.builtin "getset_descriptor.__get__"))
  a7 : PySem.W.takesIn K (.builtin "object.__class__") = some true
  a8 : PySem.W.mroIn K D (.type "object") = some true
theorem exm_self {K : PySem.W.Frag} {S : Addr} (k1 : PySem.W.subIn K (.ref S) (.type "BaseException") = some true) (k2 : PySem.W.isClsIn K S = true) (k3 : PySem.W.typeIn K (.ref S) = some (.type "type")) (k4 : PySem.W.subIn K (.ref S) (.ref S) = some true) :
    PySem.W.exmOne K (.ref S) (.ref S) = some true := by
  have k2' : (PySem.W.clsIn K S).isSome = true := k2
  have f1 : (PySem.W.subIn K (.ref S) (.type "BaseException") == some true) = true := by rw [k1]; rfl
  have f2 : ((PySem.W.clsIn K S).isSome && PySem.W.typeIn K (.ref S) == some (.type "type")) = true := by rw [k2', k3]; rfl
  unfold PySem.W.exmOne
  first
    | (simp only [f1, f2, if_true]; exact k4)
    | (show (if _ then (if _ then _ else none) else none) = some true; rw [if_pos f1, if_pos f2]; exact k4)
section
variable {P : Program} {w : World} {K : PySem.W.Frag} {mg : Str → Option Value} {base : Heap}
theorem calX_mk {x : Str} {st : Stmt} {N ps : List Str} {k : Nat} {sp : Sp} (D : DefAt K mg x st ps) (S : FnScope N ps (defScope st)) (len : ∀ vs H Q E, sp vs H Q E → vs.length = ps.length)
    (hbody : ∀ (f : Addr) (cdv : Value) (A : Around) (outer : List Env) (s : Shared) (H : Hp) (vs : List V) (Q : VK) (E : XK), Room k (A.deeper (envOfC x (defScope st) s.heap.objs.size f cdv)) → sp vs H Q E →
      ∃ t, PSs (cxOf (L2.CX P w) P w K mg base N x (defScope st) f cdv A outer s H E) (defBody st) t ∧ t { nx := fun _ H' => Q .non H', rt := Q } (start N vs) H) : CalX P w K mg base (k + 1) x sp := by
  obtain ⟨f, fd, F, hm, hb⟩ := D.ex
  exact ⟨f, fd, ps, F.okX S len fun cdv A outer s H vs Q E hr h => hbody f cdv A outer s H vs Q E hr h, hm, F.kp, hb⟩
theorem exo_mk {x qual : Str} {C : Addr} {st : Stmt} {N ps : List Str} {k : Nat} {sp : Sp} (O : OexC K C) (D : ExiAt K mg x C qual st ps) (S : FnScope N ps (defScope st)) (len : ∀ vs H Q E, sp vs H Q E → vs.length = ps.length)
    (hbody : ∀ (f : Addr) (cdv : Value) (A : Around) (outer : List Env) (s : Shared) (H : Hp) (vs : List V) (Q : VK) (E : XK), Room k (A.deeper (envOfC qual (defScope st) s.heap.objs.size f cdv)) → sp vs H Q E →
      ∃ t, PSs (cxOf CX0 P w K mg base N qual (defScope st) f cdv A outer s H E).nox (defBody st) t ∧ t { nx := fun _ H' => Q .non H', rt := Q } (start N vs) H) : Exo P w K mg base (k + 1) x C sp := by
  obtain ⟨f, fd, F, iC, tI, hm, hb⟩ := D.ex
  exact ⟨f, fd, ps, O, iC, tI, F.ok S len fun cdv A outer s H vs Q E hr h => hbody f cdv A outer s H vs Q E hr h, hm, hb⟩
end
section
variable {X : Cx} {x : Str} {C : Addr} {sp : Sp} {k j : Nat} {e : Expr} {es : List Expr} {p pos : Pos} {t : TA} {W : WX}
theorem pe_cX (c : CalX X.prog X.w X.K X.mg X.base k x sp) (tk : Takes X W) (hr : Room j X.A) (hk : k ≤ j) (hg : Gl X x) (ha : PA X (e :: es) t)
    (hdb : (x == ("__debug__" : Str)) = false := by decide) (he : starEach (e :: es) X.env = (false, eval e X.env) :: starEach es X.env := by rfl) (hpl : (backTo pos (starEach es X.env)).any (·.1) = false := by rfl) :
    PE X (.Call (.Name x p) (e :: es) [] pos) (tCallS sp (WE W) t) := by
  obtain ⟨f, fd, ps, F, hm, kp, b⟩ := c.ex
  exact pe_callS F (hr.mono hk) hg hm kp b (fun σ => passAt tk σ) ha hdb he hpl
theorem pmk_x (c : Exo X.prog X.w X.K X.mg X.base k x C sp) (hr : Room j X.A) (hk : k + 1 ≤ j) (hg : Gl X x) (ha : PA X (e :: es) t)
    (hdb : (x == ("__debug__" : Str)) = false := by decide) (he : starEach (e :: es) X.env = (false, eval e X.env) :: starEach es X.env := by rfl) (hpl : (backTo pos (starEach es X.env)).any (·.1) = false := by rfl) :
    PMk X (.Call (.Name x p) (e :: es) [] pos) (tMkO C sp [] t) := by
  obtain ⟨f, fd, ps, O, iC, tI, F, hm, b⟩ := c.ex
  exact pmk_oex O iC tI F (hr.mono hk) b .nil pass0 hg hm ha hdb he hpl
def tRaise (m : L2.St → Hp → XK → Prop) (W : WX) : TS := fun _ σ H => m σ H fun cls d H' => W cls d σ H'
theorem ps_rs {m : L2.St → Hp → XK → Prop} (hc : X.calm = true) (tk : Takes X W) (he : PMk X e m) : PS X (.Raise (some e) none pos) (tRaise m W) := ps_raise hc tk he
/-- .. except C as n -/
def tTryAs (K : PySem.W.Frag) (c : Value) (i : Nat) (tb : WX → TS) (ts : Addr → Value → Option Addr → TS) (Wout : WX) : TS := fun D σ H => tb (wAs K c i ts Wout D) D σ H
theorem ps_tryAs {n : Str} {c : Value} {i : Nat} {body suite : List Stmt} {b₀ : Stmt} {np pos' : Pos} {tb : WX → TS} {ts : Addr → Value → Option Addr → TS} {Wout : WX}
    (hs : X.stack = X.env :: X.outer) (hf : X.env.frame = some X.env.locals) (hN : X.N.Nodup) (hi : X.N[i]? = some n) (hln : X.env.kindOf n = some .local) (hc : Names X x c) (tk : Takes X Wout)
    (hb : ∀ (W : WX) (pn : List (Addr × Obj)) (xe : Value → Shared → Prop), Takes (X.tr pn xe) W → PassesOwn (model X.prog X.w) X.A X.env xe → PSs (X.tr pn xe) body (tb W))
    (hsu : ∀ (a : Addr) (oe : Obj) (cls : Value) (d : Option Addr) (pn : List (Addr × Obj)), Zc cls d oe → (∃ vs, oe.data = .fields vs) → PSs (X.suite a ((a, oe) :: pn)) (b₀ :: suite) (ts a cls d)) :
    PS X (.Try body [.ExceptHandler (some (.Name x np)) (some n) (b₀ :: suite) pos'] [] [] pos) (tTryAs X.K c i tb ts Wout) := ps_try_as hs hf hN hi hln hc tk hb hsu
def rIsE2 (K : PySem.W.Frag) (D a : Addr) (cls : Value) (d : Option Addr) : List V → Hp → VK → Prop := fun xs H Q => ∃ (c : V) (cv : Value) (b : Bool) (dd : Addr) (fs : List (Str × V)), xs = [.ref a, c] ∧ cls = .ref D ∧ d = some dd ∧ H dd = some (.xd fs) ∧ (∀ u, RelV c u → u = cv) ∧ PySem.W.kitOne K (.ref D) cv = some b ∧ Q (.bl b) H
theorem call_isE2 {a D : Addr} {oe : Obj} {cls : Value} {d : Option Addr} {pn : List (Addr × Obj)} (Y : XiC X.K D) (hz : Zc cls d oe) (hf : ∃ vs, oe.data = .fields vs) : CallR (X.suite a ((a, oe) :: pn)) (.builtin "isinstance") (rIsE2 X.K D a cls d) := by
  intro pins s σ H xs us Q I r h
  obtain ⟨c, cv, b, dd, fs, rfl, rfl, rfl, hdd, hcv, e, q⟩ := h
  obtain ⟨u, v, rfl, r1, r2⟩ := vals2 r
  cases r1
  have ev := hcv _ r2
  subst ev
  obtain ⟨ha, _⟩ := I.pin (a, oe) (List.mem_append_left _ List.mem_cons_self)
  obtain ⟨vs, hd⟩ := hf
  have hx : ObjOk X.prog X.w H s.heap dd (.xd fs) := I.hok dd _ hdd
  obtain ⟨mA, hns, hr⟩ := hx
  obtain ⟨od, ho, hl⟩ := lookIn_ns hns
  have J : PySem.W.InstAt s.heap a oe D (some od) := ⟨ha, hz.1, by unfold PySem.W.notCls; rw [hd] <;> rfl, by rw [hz.2]; exact ho⟩
  exact PySem.W.kia_one (PySem.W.kitx_exc (od := some od) Y.a1 Y.a2 Y.a3 Y.a4 Y.a5 Y.a6 Y.a7 Y.a8) I.kIn J e (fun z => nomatch z) fun tk => ⟨.bl b, H, I.kept (t' := tk) fun _ _ z => z, rfl, q⟩
end
/-- self.f = y, the only field -/
def spXInit (C : Addr) (f : Str) : Sp := fun vs H Q _ => ∃ (a : Addr) (v : V), vs = [.ref a, v] ∧ H a = some (exo a C none) ∧ ∀ dx, H dx = none → dx ≠ a → Q .non (upd (upd H dx (exd dx [(f, v)])) a (exo a C (some dx)))
section
variable {σ : L2.St} {H : Hp} {Q : VK} {K : PySem.W.Frag} {D : Ends} {ta te to : TE} {tl : TA} {v : V} {W : WX}
def rMkO (C : Addr) (sp : Sp) (vs : List V) (H1 : Hp) (Q : XK) : Prop := vs.length ≤ 1000 ∧ ∀ a, H1 a = none → sp (.ref a :: (vs ++ [])) (upd H1 a (exo a C none))
  (fun v H2 => v = .non ∧ ∃ (d : Addr) (fs : List (Str × V)), H2 a = some (exo a C (some d)) ∧ H2 d = some (exd d fs) ∧ H1 d = none ∧ Q (.ref C) (some d) (upd (del H2 a) d (.xd fs))) (fun _ _ _ => False)
theorem g_raise {C : Addr} {sp : Sp} (k : tl σ H fun vs H1 => rMkO C sp vs H1 fun cls d H' => W cls d σ H') : tRaise (tMkO C sp [] tl) W D σ H := k
theorem g_rmkO {C : Addr} {f : Str} {Q : XK} (k : ∀ d H', H d = none → Same H H' → H' d = some (.xd [(f, v)]) → Q (.ref C) (some d) H') : rMkO C (spXInit C f) [v] H Q := by
  refine ⟨(by show 1 ≤ 1000; decide), fun a na => ⟨a, v, rfl, upd_same, fun dx ndx nex => ⟨rfl, dx, [(f, v)], upd_same, ?_, ?_, ?_⟩⟩⟩
  · rw [upd_ne nex, upd_same]
  · rw [upd_ne nex] at ndx; exact ndx
  · rw [upd_ne nex] at ndx
    refine k dx _ ndx (fun b o e => ?_) upd_same
    have h1 := ne_of_none e ndx
    have h2 := ne_of_none e na
    rw [upd_ne h1, del_ne h2, upd_ne h2, upd_ne h1, upd_ne h2]
    exact e
theorem g_tryAs {c : Value} {i : Nat} {tb : WX → TS} {ts : Addr → Value → Option Addr → TS} {Wout : WX} (k : tb (wAs K c i ts Wout D) D σ H) : tTryAs K c i tb ts Wout D σ H := k
theorem g_caught {C : Addr} {i : Nat} {ts : Addr → Value → Option Addr → TS} {Wout : WX} {d : Option Addr} (te : PySem.W.exmOne K (.ref C) (.ref C) = some true)
    (k : ∀ a, H a = none → ts a (.ref C) d { nx := fun σ' H' => D.nx (σ'.set i none) H', rt := D.rt, bk := fun σ' H' => D.bk (σ'.set i none) H', ct := fun σ' H' => D.ct (σ'.set i none) H' } (σ.set i (some (.ref a))) H) : wAs K (.ref C) i ts Wout D (.ref C) d σ H :=
  ⟨true, te, fun _ a ha => k a ha, fun q => Bool.noConfusion q⟩
theorem g_callS {sp : Sp} {E : L2.St → XK} (k : tl σ H fun vs H1 => sp vs H1 Q (E σ)) : tCallS sp E tl σ H Q := k
def rXf (a : Addr) (cls : Value) (d : Option Addr) (C : Addr) (f : Str) (x : V) (H1 : Hp) (Q : VK) : Prop := x = .ref a ∧ cls = .ref C ∧ ∃ (dd : Addr) (fs : List (Str × V)) (v : V), d = some dd ∧ H1 dd = some (.xd fs) ∧ fs.lookup f = some v ∧ Q v H1
theorem g_xf {a C : Addr} {cls : Value} {d : Option Addr} {f : Str} (k : te σ H fun x H1 => rXf a cls d C f x H1 Q) : tXf a cls d C f te σ H Q := k
theorem g_rxf {a C dd : Addr} {f : Str} (h : H dd = some (.xd [(f, v)])) (k : Q v H) : rXf a (.ref C) (some dd) C f (.ref a) H Q := ⟨rfl, rfl, dd, _, v, rfl, h, lk_eq, k⟩
end
end Lw

/-! ## a number as sixteen hexadecimal signs -/
namespace Lw
open PySem L2
/-- the signs of n in the base 16, with zeros in front, sixteen at least -/
def hexT (n : Nat) : Str := ⟨(List.replicate (16 - ((Nat.toDigits 16 n).map Char.toNat).length) 48 ++ (Nat.toDigits 16 n).map Char.toNat).toArray⟩
def spec16 : Str := "016x"
def fs16 : Builtin.Float.FormatSpec := { fill := 48, align := 61, width := some 16, type := some 120 }
section
open Builtin Builtin.Float
theorem spec_reads : parseFormatSpec spec16.cps.toList "int" 62 = .ok fs16 := by
  first | rfl | decide +kernel | kernel_rfl
theorem digs_ne (n : Nat) : ((Nat.toDigits 16 n).map Char.toNat).isEmpty = false := by
  have h := PyProof.Rows.tDigits_len_ge 16 n
  cases e : Nat.toDigits 16 n with
  | nil => rw [e] at h; simp at h
  | cons a b => rfl
theorem field16 (n : Nat) : PyProof.Rows.intField' fs16 false [] ((Nat.toDigits 16 n).map Char.toNat) [] 4 = hexT n :=
  PyProof.Rows.intField'_zero_nonneg fs16 _ 4 rfl rfl (digs_ne n) rfl rfl
theorem hex_len {n : Nat} (h : n < 2 ^ 64) : (hexT n).length ≤ 100000 := by
  have h1 := PyProof.Rows.tDigits_len_le 16 n
  have h2 : (Nat.toDigits 16 n).length ≤ 16 := by
    have e := (Nat.length_toDigits_le_iff (b := 16) (n := n) (k := 16) (by decide) (by decide)).mpr (by simpa using h)
    exact e
  unfold hexT Str.length
  simp only [List.size_toArray, List.length_append, List.length_replicate, List.length_map]
  omega
section
variable {prog : Program} {w : World} {A : Around} {E : Value → Shared → Prop} {s : Shared}
set_option maxRecDepth 100000 in
theorem format_hex {n : Nat} {t : Tok} {Q : Value → Shared → Prop} (hn : n < 2 ^ 64) (h : Q (.str (hexT n) (s.toks + 1)) { s with toks := s.toks + 1 + 1 }) :
    wpAny (model prog w) A (formatField (.int (n : Int) t) spec16) Q E s := by
  show wpAny _ _ (holding [.int (n : Int) t] (pyFormat (.int (n : Int) t) spec16)) Q E s
  refine wpAny_holding ?_
  unfold pyFormat
  refine wpAny_bind (wpAny_mkStr ?_ (by decide +kernel))
  refine wpAny_bind (m := callSpecial? (.int (n : Int) t) (Str.ofString "__format__") [.str spec16 s.toks]) (wpAny_callSpecial?_slot (name := Str.ofString "__format__") (typeIs_int _ (n : Int) t) PyProof.Rows.slot_int_format ?_)
  refine wpAny_call (codeAny_call_builtin PyProof.Rows.slot_int_format.plain PyProof.Rows.entry_int_format (PyProof.Rows.slot_int_format.check _ _ _ _ _ _ _ _ (typeIs_int _ (n : Int) t) (PyProof.Rows.args_int_format _ _) ?_))
  have e1 : (spec16.length == 0) = false := by decide +kernel
  have e2 : ((spec16.cps.toList.drop 1).any (· ≥ 128) || (spec16.cps.getD 0 0 ≥ 128 && !([60, 62, 61, 94] : List Nat).contains (spec16.cps.getD 1 0))) = false := by decide +kernel
  unfold Builtin.«int.__format__»
  simp only [selfAndOne, noKeywords, Int.intOfSelf, asInt?, asStr?, List.isEmpty_nil, if_true, pure_bind, bind_pure, bind_assoc, e1, e2, Bool.false_eq_true, if_false,
    show (Value.str spec16 s.toks == Value.none) = false from rfl]
  refine wpAny_bind (wpAny_typeNameOf (T := "str") (typeIs_str _ _ _) (by decide) fun _ => ?_)
  refine wpAny_bind (PyProof.Rows.wpAny_typeNameOfCut_int ?_)
  simp only [spec_reads]
  rw [if_pos (by decide)]
  obtain ⟨f, hf, hty, hpr, hz, hal, hw, hgr, hsg⟩ : ∃ f, f = fs16 ∧ f.type = some 120 ∧ f.precision = none ∧ f.noNeg0 = false ∧ f.alt = false ∧ f.width.getD 0 ≤ 100000 ∧ f.grouping = none ∧ f.sign = none := ⟨fs16, rfl, rfl, rfl, rfl, rfl, by decide, rfl, rfl⟩
  have ef := field16 n
  have hl : (hexT n).length ≤ sizeLine := Nat.le_trans (hex_len hn) (by decide)
  rw [← hf] at ef ⊢
  simp only [hty, Option.getD_some]
  show wpAny _ _ (if _ then _ else _) _ _ _
  rw [if_neg (by simp [hpr])]
  show wpAny _ _ (if _ then _ else _) _ _ _
  rw [if_neg (by simp [hz])]
  show wpAny _ _ (if _ then _ else _) _ _ _
  rw [if_neg (by decide)]
  have hw' : ¬ (f.width.getD 0 > 100000) := by omega
  have eneg : decide ((n : Int) < 0) = false := decide_eq_false (by omega)
  simp only [show ((120 : Nat) == 98) = false from rfl, show ((120 : Nat) == 111) = false from rfl, show ((120 : Nat) == 120) = true from rfl, show ((120 : Nat) == 88) = false from rfl, show ((16 : Nat) == 10) = false from rfl, Bool.false_eq_true, if_false, if_true, hw', hal, eneg, Int.natAbs_natCast]
  show wpAny _ _ (retStr _) _ _ _
  unfold retStr
  rw [← ef] at hl h
  have em : (Nat.toDigits 16 n).map Char.toNat = (Nat.toDigits 16 n).map (fun c => c.toNat) := rfl
  rw [em] at hl h
  refine wpAny_bind (wpAny_mkStr (wpAny_pure ?_) ?hs2)
  case hs2 =>
    conv => lhs; arg 1; whnf
    simp only [PyProof.Rows.intField', hgr, hsg, Bool.false_eq_true, if_false] at hl ⊢
    exact hl
  dsimp only
  refine wpAny_bind (wpAny_isInstance (typeIs_str _ _ _) isSubtype_str_str (wpAny_pure ?_))
  conv => arg 1; arg 1; whnf
  simp only [PyProof.Rows.intField', hgr, hsg, Bool.false_eq_true, if_false] at h ⊢
  exact h
end
end
section
variable {X : Cx}
/-- {e:016x} -/
def rHex (x : V) (H : Hp) (Q : VK) : Prop := ∃ n : Nat, x = .int (n : Int) ∧ n < 2 ^ 64 ∧ Q (.str (hexT n)) H
def tHex (te : TE) : TE := fun σ H Q => te σ H fun x H1 => rHex x H1 Q
theorem g_hex {te : TE} {σ : L2.St} {H : Hp} {Q : VK} (k : te σ H fun x H1 => rHex x H1 Q) : tHex te σ H Q := k
theorem pe_hex {e spec : Expr} {te : TE} {pos : Pos} (he : PE X e te) (hs : PE X spec (tC (.str spec16))) : PE X (.FormattedValue e (-1) (some spec) pos) (tHex te) := by
  refine ⟨fun pins s σ H Q I h => ?_⟩
  refine wpAny_FormattedValue_spec (thn (he.run pins s σ H _ I h) fun v s1 hv => ?_)
  obtain ⟨x, H1, I1, r1, n, rfl, hn, q⟩ := hv
  obtain ⟨t, rfl⟩ := r1
  refine thn (hs.run pins s1 σ H1 (fun y H2 => y = .str spec16 ∧ Q (.str (hexT n)) H2) I1 ⟨rfl, q⟩) fun u s2 hu => ?_
  obtain ⟨y, H2, I2, r2, rfl, q2⟩ := hu
  obtain ⟨t2, rfl⟩ := r2
  exact ⟨spec16, t2, rfl, format_hex hn ⟨.str (hexT n), H2, I2.tok _, ⟨_, rfl⟩, q2⟩⟩
end
end Lw

/-! ## sorted(d), any number of keys -/
namespace Lw
open PySem L2 PySem.Spec PyProof.Rows
def rSortG (κ : KeyKind) : List V → Hp → VK → Prop := fun xs H Q => ∃ (a : Addr) (kvs : List (Key × V)), xs = [V.ref a] ∧ Rd H a (.dK kvs) ∧ kvs.length ≤ 100000 ∧ ∀ us : List Value, Vals (kvs.map fun e => kV e.1) us → KeysOf κ (pairsOf us) ∧
  (∀ v1 v2 r, us = v1 :: v2 :: r → keyKind' (v1 :: v2 :: r).toArray = pure oneType') ∧
  ∀ st : SortSt, (arrOf st).Perm (pairsOf us) → SortedToK κ (arrOf st) (pairsOf us).size → ∃ ys : List V, Vals ys ((arrOf st).map (·.2)).toList ∧ ys.length = kvs.length ∧ ∀ p, H p = none → Q (.ref p) (upd H p (.lst ys))
theorem call_sortG {X : Cx} {κ : KeyKind} (hO : κ.OneLt) (hc : X.calm = true) : CallR X (.builtin "sorted") (rSortG κ) := by
  intro pins s σ H xs us0 Q I r q
  obtain ⟨a, kvs, rfl, hd, hn, q⟩ := q
  rw [Vals.ref1 r]
  obtain ⟨z, lo, es, rel, dd⟩ := dk_rd I.hok hd
  obtain ⟨ep, hat⟩ := dd.dictAt
  have hel : es.length = kvs.length := rel.length.symm
  refine Calls.call_function_entry kind_sorted plain_sorted entry_sorted (args_sorted1 _) ?_
  unfold Builtin.«sorted»
  refine wpAny_bind (m := checkCount "sorted" 1 1 _) (wpAny_pure ?_)
  refine wpAny_bind (PySem.W.kdu_collect (A := X.A.in1) (PySem.W.kdl_dict (knd := mixKind X.prog X.w) (kvs := es) (ep := ep) lo) (I.ok.hd hc) hat (by rw [hel]; exact z) fun h1 tk acc hk hacc => ?_)
  have hv : Vals (kvs.map fun e => kV e.1) acc.toList := by
    have h1 := keys_at (us := acc.toList) (vs := es) (by rw [Array.length_toList]; exact hacc.1) fun j v e => hacc.2 j v (by rw [← Array.getElem?_toList]; exact e)
    have h2 := congrArg (List.map kV) rel.keys
    rw [List.map_map, List.map_map] at h2
    have h2 : (kvs.map fun e => kV e.1) = es.map fun e => kV e.1 := h2
    rw [h2]; exact h1
  have hal : acc.toList.length = kvs.length := by have := hv.length; rw [List.length_map] at this; exact this.symm
  obtain ⟨g1, g2, g3⟩ := q _ hv
  have I1 : Inv X pins σ H { s with heap := h1, toks := tk } := I.kept hk
  have hz : acc.toList.length ≤ sizeLine := by rw [hal]; exact z
  refine wpAny_bind (wpAny_newList ?_ hz)
  have hL : (h1.push (seqObj "list" acc.toList.toArray 0)).get? h1.objs.size = some (seqObj "list" acc.toList.toArray 0) := Heap.get?_push_size _ rfl
  show wpAny _ _ _ _ _ { s with heap := h1.push (seqObj "list" acc.toList.toArray 0), toks := tk }
  refine wpAny_bind (wpAny_holding (wpAny_call_entry slot_list_sort ⟨_, hL, rfl⟩ entry_list_sort (list_sort_treeKAny hO (s := { s with heap := h1.push (seqObj "list" acc.toList.toArray 0), toks := tk }) hL g1 g2 hz fun st hp hs => ⟨_, rfl, ?_⟩) (args_list_sort _)))
  obtain ⟨ys, w1, w2, w3⟩ := g3 st hp hs
  obtain ⟨e1, he1⟩ := sortedHeap_at (vs := acc.toList) (out := (arrOf st).map (·.2)) hL
  have ok : ObjOk X.prog X.w (upd H h1.objs.size (.lst ys)) (sortedHeap (h1.push (seqObj "list" acc.toList.toArray 0)) h1.objs.size acc.toList ((arrOf st).map (·.2))) h1.objs.size (.lst ys) := ⟨by rw [w2]; exact z, _, e1, w1, by rw [Array.toArray_toList]; exact he1⟩
  refine wpAny_pure ⟨_, rfl, .ref h1.objs.size, _, I1.laid (t' := tk) (fun b u e => ?_) (Nat.le_refl _) ok, rfl, w3 _ (I1.hok.fresh (Nat.le_refl _))⟩
  have hb : b < h1.objs.size := Heap.lt_size e
  rw [sortedHeap_old (Nat.ne_of_lt hb) (by rw [Heap.size_push]; exact Nat.lt_succ_of_lt hb)]
  exact Heap.get?_push_of_some _ e
theorem call_sortedD' {X : Cx} (hc : X.calm = true) : CallR X (.builtin "sorted") (fun xs H Q => ∃ (a : Addr) (kvs : List (Key × V)) (ks : List Str), xs = [V.ref a] ∧ Rd H a (.dK kvs) ∧ kvs.map (·.1) = ks.map Sum.inr ∧ ks.length < 100000 ∧
    ∀ (ys : List Str) (p : Addr), ys.Perm ks → sortedS ys = true → H p = none → Q (.ref p) (upd H p (.lst (ys.map V.str)))) := by
  intro pins s σ H xs us Q I r q
  obtain ⟨a, kvs, ks, rfl, hd, hks, hn, q⟩ := q
  have hl : kvs.length = ks.length := by have := congrArg List.length hks; rw [List.length_map, List.length_map] at this; exact this
  refine call_sortG strKind_oneLt hc pins s σ H _ us Q I r ⟨a, kvs, rfl, hd, by omega, fun us hv => ?_⟩
  have e : (kvs.map fun e => kV e.1) = ks.map V.str := by
    have h2 := congrArg (List.map kV) hks
    rw [List.map_map, List.map_map] at h2
    exact h2
  rw [e] at hv
  have hS := hv.strs
  refine ⟨hS.keysOf, fun v1 v2 r e => keyKind_strs (by rw [← e]; exact hS), fun st hp hs => ?_⟩
  obtain ⟨ys, w1, w2, w3⟩ := sorted_out_str hS hp hs
  exact ⟨ys.map V.str, vals_of_strs w1, by rw [List.length_map, w2.length_eq, hl], fun p hp => q ys p w2 w3 hp⟩
theorem call_sortedDI' {X : Cx} (hc : X.calm = true) : CallR X (.builtin "sorted") (fun xs H Q => ∃ (a : Addr) (kvs : List (Key × V)) (ks : List Int), xs = [V.ref a] ∧ Rd H a (.dK kvs) ∧ kvs.map (·.1) = ks.map Sum.inl ∧ ks.length < 100000 ∧
    ∀ (ys : List Int) (p : Addr), ys.Perm ks → ys.Pairwise (· ≤ ·) → H p = none → Q (.ref p) (upd H p (.lst (ys.map V.int)))) := by
  intro pins s σ H xs us Q I r q
  obtain ⟨a, kvs, ks, rfl, hd, hks, hn, q⟩ := q
  have hl : kvs.length = ks.length := by have := congrArg List.length hks; rw [List.length_map, List.length_map] at this; exact this
  refine call_sortG intKind_oneLt hc pins s σ H _ us Q I r ⟨a, kvs, rfl, hd, by omega, fun us hv => ?_⟩
  have e : (kvs.map fun e => kV e.1) = ks.map V.int := by
    have h2 := congrArg (List.map kV) hks
    rw [List.map_map, List.map_map] at h2
    exact h2
  rw [e] at hv
  have hS := hv.ints
  refine ⟨hS.keysOfInt, fun v1 v2 r e => keyKind_ints (by rw [← e]; exact hS), fun st hp hs => ?_⟩
  obtain ⟨ys, w1, w2, w3⟩ := sorted_out hS hp (sortedTo_of_int hs)
  exact ⟨ys.map V.int, vals_ints w1, by rw [List.length_map, w2.length_eq, hl], fun p hp => q ys p w2 w3 hp⟩
end Lw

namespace Lw
open PySem L2
def kinds3 : List Str := ["layer", "image", "bundle"]
def claimed4 : List Str := ["has", "start", "put", "name"]
end Lw
namespace Lw
open PySem L2
open PyProof.Rows (envOfC)
def top (i : Nat) : Stmt := PySem.Challenge.pw_layerwharf_k07_roots_stay_whole.main.body.getD i (.Pass ⟨0, 0, 0, 0⟩)
abbrev s_address_of : Stmt := top 4
abbrev n_address_of : List Str := ["kind", "text", "value", "character"]
theorem sc_address_of : FnScope n_address_of ["kind", "text"] (defScope s_address_of) := ⟨rfl, rfl, rfl, by decide +kernel, rfl, by decide +kernel, by decide +kernel⟩
abbrev s_is_address : Stmt := top 5
abbrev n_is_address : List Str := ["text", "character"]
theorem sc_is_address : FnScope n_is_address ["text"] (defScope s_is_address) := ⟨rfl, rfl, rfl, by decide +kernel, rfl, by decide +kernel, by decide +kernel⟩
abbrev s_Claims___init__ : Stmt := inClass (top 7) 0
abbrev n_Claims___init__ : List Str := ["self"]
theorem sc_Claims___init__ : FnScope n_Claims___init__ ["self"] (defScope s_Claims___init__) := ⟨rfl, rfl, rfl, by decide +kernel, rfl, by decide +kernel, by decide +kernel⟩
abbrev s_Claims_begin : Stmt := inClass (top 7) 1
abbrev n_Claims_begin : List Str := ["self"]
theorem sc_Claims_begin : FnScope n_Claims_begin ["self"] (defScope s_Claims_begin) := ⟨rfl, rfl, rfl, by decide +kernel, rfl, by decide +kernel, by decide +kernel⟩
abbrev s_Claims_is_open : Stmt := inClass (top 7) 2
abbrev n_Claims_is_open : List Str := ["self", "claim"]
theorem sc_Claims_is_open : FnScope n_Claims_is_open ["self", "claim"] (defScope s_Claims_is_open) := ⟨rfl, rfl, rfl, by decide +kernel, rfl, by decide +kernel, by decide +kernel⟩
abbrev s_Claims_pin : Stmt := inClass (top 7) 3
abbrev n_Claims_pin : List Str := ["self", "claim", "address"]
theorem sc_Claims_pin : FnScope n_Claims_pin ["self", "claim", "address"] (defScope s_Claims_pin) := ⟨rfl, rfl, rfl, by decide +kernel, rfl, by decide +kernel, by decide +kernel⟩
abbrev s_Claims_end : Stmt := inClass (top 7) 4
abbrev n_Claims_end : List Str := ["self", "claim"]
theorem sc_Claims_end : FnScope n_Claims_end ["self", "claim"] (defScope s_Claims_end) := ⟨rfl, rfl, rfl, by decide +kernel, rfl, by decide +kernel, by decide +kernel⟩
abbrev s_Claims_numbers : Stmt := inClass (top 7) 5
abbrev n_Claims_numbers : List Str := ["self"]
theorem sc_Claims_numbers : FnScope n_Claims_numbers ["self"] (defScope s_Claims_numbers) := ⟨rfl, rfl, rfl, by decide +kernel, rfl, by decide +kernel, by decide +kernel⟩
abbrev s_Claims_pinned : Stmt := inClass (top 7) 6
abbrev n_Claims_pinned : List Str := ["self", "found", "claim", "address"]
theorem sc_Claims_pinned : FnScope n_Claims_pinned ["self"] (defScope s_Claims_pinned) := ⟨rfl, rfl, rfl, by decide +kernel, rfl, by decide +kernel, by decide +kernel⟩
abbrev s_Collector___init__ : Stmt := inClass (top 9) 0
abbrev n_Collector___init__ : List Str := ["self", "store"]
theorem sc_Collector___init__ : FnScope n_Collector___init__ ["self", "store"] (defScope s_Collector___init__) := ⟨rfl, rfl, rfl, by decide +kernel, rfl, by decide +kernel, by decide +kernel⟩
abbrev s_Collector_stop : Stmt := inClass (top 9) 1
abbrev n_Collector_stop : List Str := ["self"]
theorem sc_Collector_stop : FnScope n_Collector_stop ["self"] (defScope s_Collector_stop) := ⟨rfl, rfl, rfl, by decide +kernel, rfl, by decide +kernel, by decide +kernel⟩
abbrev s_Collector_shade : Stmt := inClass (top 9) 2
abbrev n_Collector_shade : List Str := ["self", "address", "other"]
theorem sc_Collector_shade : FnScope n_Collector_shade ["self", "address"] (defScope s_Collector_shade) := ⟨rfl, rfl, rfl, by decide +kernel, rfl, by decide +kernel, by decide +kernel⟩
abbrev s_Collector_step : Stmt := inClass (top 9) 3
abbrev n_Collector_step : List Str := ["self", "roots"]
theorem sc_Collector_step : FnScope n_Collector_step ["self", "roots"] (defScope s_Collector_step) := ⟨rfl, rfl, rfl, by decide +kernel, rfl, by decide +kernel, by decide +kernel⟩
abbrev s_Collector_mark_one : Stmt := inClass (top 9) 4
abbrev n_Collector_mark_one : List Str := ["self", "address"]
theorem sc_Collector_mark_one : FnScope n_Collector_mark_one ["self"] (defScope s_Collector_mark_one) := ⟨rfl, rfl, rfl, by decide +kernel, rfl, by decide +kernel, by decide +kernel⟩
abbrev s_Collector_sweep_one : Stmt := inClass (top 9) 5
abbrev n_Collector_sweep_one : List Str := ["self", "address"]
theorem sc_Collector_sweep_one : FnScope n_Collector_sweep_one ["self"] (defScope s_Collector_sweep_one) := ⟨rfl, rfl, rfl, by decide +kernel, rfl, by decide +kernel, by decide +kernel⟩
abbrev s_Malformed___init__ : Stmt := inClass (top 12) 0
abbrev n_Malformed___init__ : List Str := ["self", "line"]
theorem sc_Malformed___init__ : FnScope n_Malformed___init__ ["self", "line"] (defScope s_Malformed___init__) := ⟨rfl, rfl, rfl, by decide +kernel, rfl, by decide +kernel, by decide +kernel⟩
abbrev s_image_text : Stmt := top 16
abbrev n_image_text : List Str := ["layers", "address"]
theorem sc_image_text : FnScope n_image_text ["layers"] (defScope s_image_text) := ⟨rfl, rfl, rfl, by decide +kernel, rfl, by decide +kernel, by decide +kernel⟩
abbrev s_bundle_text : Stmt := top 17
abbrev n_bundle_text : List Str := ["entries", "platform", "address"]
theorem sc_bundle_text : FnScope n_bundle_text ["entries"] (defScope s_bundle_text) := ⟨rfl, rfl, rfl, by decide +kernel, rfl, by decide +kernel, by decide +kernel⟩
abbrev s_lines_of : Stmt := top 18
abbrev n_lines_of : List Str := ["text", "head", "lines"]
theorem sc_lines_of : FnScope n_lines_of ["text", "head"] (defScope s_lines_of) := ⟨rfl, rfl, rfl, by decide +kernel, rfl, by decide +kernel, by decide +kernel⟩
abbrev s_read_image : Stmt := top 19
abbrev n_read_image : List Str := ["text", "lines", "index"]
theorem sc_read_image : FnScope n_read_image ["text"] (defScope s_read_image) := ⟨rfl, rfl, rfl, by decide +kernel, rfl, by decide +kernel, by decide +kernel⟩
abbrev s_is_platform : Stmt := top 20
abbrev n_is_platform : List Str := ["word", "character"]
theorem sc_is_platform : FnScope n_is_platform ["word"] (defScope s_is_platform) := ⟨rfl, rfl, rfl, by decide +kernel, rfl, by decide +kernel, by decide +kernel⟩
abbrev s_read_bundle : Stmt := top 21
abbrev n_read_bundle : List Str := ["text", "lines", "entries", "seen", "index", "words"]
theorem sc_read_bundle : FnScope n_read_bundle ["text"] (defScope s_read_bundle) := ⟨rfl, rfl, rfl, by decide +kernel, rfl, by decide +kernel, by decide +kernel⟩
abbrev s_references : Stmt := top 22
abbrev n_references : List Str := ["kind", "text", "platform", "address"]
theorem sc_references : FnScope n_references ["kind", "text"] (defScope s_references) := ⟨rfl, rfl, rfl, by decide +kernel, rfl, by decide +kernel, by decide +kernel⟩
abbrev s_Store___init__ : Stmt := inClass (top 25) 0
abbrev n_Store___init__ : List Str := ["self"]
theorem sc_Store___init__ : FnScope n_Store___init__ ["self"] (defScope s_Store___init__) := ⟨rfl, rfl, rfl, by decide +kernel, rfl, by decide +kernel, by decide +kernel⟩
abbrev s_Store_keep : Stmt := inClass (top 25) 1
abbrev n_Store_keep : List Str := ["self", "kind", "text", "address"]
theorem sc_Store_keep : FnScope n_Store_keep ["self", "kind", "text"] (defScope s_Store_keep) := ⟨rfl, rfl, rfl, by decide +kernel, rfl, by decide +kernel, by decide +kernel⟩
abbrev s_Store_blob : Stmt := inClass (top 25) 2
abbrev n_Store_blob : List Str := ["self", "address"]
theorem sc_Store_blob : FnScope n_Store_blob ["self", "address"] (defScope s_Store_blob) := ⟨rfl, rfl, rfl, by decide +kernel, rfl, by decide +kernel, by decide +kernel⟩
abbrev s_Store_remove_blob : Stmt := inClass (top 25) 3
abbrev n_Store_remove_blob : List Str := ["self", "address"]
theorem sc_Store_remove_blob : FnScope n_Store_remove_blob ["self", "address"] (defScope s_Store_remove_blob) := ⟨rfl, rfl, rfl, by decide +kernel, rfl, by decide +kernel, by decide +kernel⟩
abbrev s_Store_addresses : Stmt := inClass (top 25) 4
abbrev n_Store_addresses : List Str := ["self"]
theorem sc_Store_addresses : FnScope n_Store_addresses ["self"] (defScope s_Store_addresses) := ⟨rfl, rfl, rfl, by decide +kernel, rfl, by decide +kernel, by decide +kernel⟩
abbrev s_Store_below : Stmt := inClass (top 25) 5
abbrev n_Store_below : List Str := ["self", "address", "kind", "text"]
theorem sc_Store_below : FnScope n_Store_below ["self", "address"] (defScope s_Store_below) := ⟨rfl, rfl, rfl, by decide +kernel, rfl, by decide +kernel, by decide +kernel⟩
abbrev s_Store_is_whole : Stmt := inClass (top 25) 6
abbrev n_Store_is_whole : List Str := ["self", "address", "kind", "other"]
theorem sc_Store_is_whole : FnScope n_Store_is_whole ["self", "address"] (defScope s_Store_is_whole) := ⟨rfl, rfl, rfl, by decide +kernel, rfl, by decide +kernel, by decide +kernel⟩
abbrev s_Store_closure : Stmt := inClass (top 25) 7
abbrev n_Store_closure : List Str := ["self", "address", "found", "other", "inner"]
theorem sc_Store_closure : FnScope n_Store_closure ["self", "address"] (defScope s_Store_closure) := ⟨rfl, rfl, rfl, by decide +kernel, rfl, by decide +kernel, by decide +kernel⟩
abbrev s_Uploads___init__ : Stmt := inClass (top 27) 0
abbrev n_Uploads___init__ : List Str := ["self"]
theorem sc_Uploads___init__ : FnScope n_Uploads___init__ ["self"] (defScope s_Uploads___init__) := ⟨rfl, rfl, rfl, by decide +kernel, rfl, by decide +kernel, by decide +kernel⟩
abbrev s_Uploads_begin : Stmt := inClass (top 27) 1
abbrev n_Uploads_begin : List Str := ["self"]
theorem sc_Uploads_begin : FnScope n_Uploads_begin ["self"] (defScope s_Uploads_begin) := ⟨rfl, rfl, rfl, by decide +kernel, rfl, by decide +kernel, by decide +kernel⟩
abbrev s_Uploads_add_part : Stmt := inClass (top 27) 2
abbrev n_Uploads_add_part : List Str := ["self", "upload", "at", "part"]
theorem sc_Uploads_add_part : FnScope n_Uploads_add_part ["self", "upload", "at", "part"] (defScope s_Uploads_add_part) := ⟨rfl, rfl, rfl, by decide +kernel, rfl, by decide +kernel, by decide +kernel⟩
abbrev s_Uploads_finish : Stmt := inClass (top 27) 3
abbrev n_Uploads_finish : List Str := ["self", "upload", "text"]
theorem sc_Uploads_finish : FnScope n_Uploads_finish ["self", "upload"] (defScope s_Uploads_finish) := ⟨rfl, rfl, rfl, by decide +kernel, rfl, by decide +kernel, by decide +kernel⟩
abbrev s_Uploads_forget : Stmt := inClass (top 27) 4
abbrev n_Uploads_forget : List Str := ["self"]
theorem sc_Uploads_forget : FnScope n_Uploads_forget ["self"] (defScope s_Uploads_forget) := ⟨rfl, rfl, rfl, by decide +kernel, rfl, by decide +kernel, by decide +kernel⟩
abbrev s_Registry___init__ : Stmt := inClass (top 30) 0
abbrev n_Registry___init__ : List Str := ["self"]
theorem sc_Registry___init__ : FnScope n_Registry___init__ ["self"] (defScope s_Registry___init__) := ⟨rfl, rfl, rfl, by decide +kernel, rfl, by decide +kernel, by decide +kernel⟩
abbrev s_Registry_answer : Stmt := inClass (top 30) 1
abbrev n_Registry_answer : List Str := ["self", "request", "kind"]
theorem sc_Registry_answer : FnScope n_Registry_answer ["self", "request"] (defScope s_Registry_answer) := ⟨rfl, rfl, rfl, by decide +kernel, rfl, by decide +kernel, by decide +kernel⟩
abbrev s_Registry_answer_plain : Stmt := inClass (top 30) 2
abbrev n_Registry_answer_plain : List Str := ["self", "request", "kind"]
theorem sc_Registry_answer_plain : FnScope n_Registry_answer_plain ["self", "request"] (defScope s_Registry_answer_plain) := ⟨rfl, rfl, rfl, by decide +kernel, rfl, by decide +kernel, by decide +kernel⟩
abbrev s_Registry_kept : Stmt := inClass (top 30) 3
abbrev n_Registry_kept : List Str := ["self", "claim", "address"]
theorem sc_Registry_kept : FnScope n_Registry_kept ["self", "claim", "address"] (defScope s_Registry_kept) := ⟨rfl, rfl, rfl, by decide +kernel, rfl, by decide +kernel, by decide +kernel⟩
abbrev s_Registry_answer_has : Stmt := inClass (top 30) 4
abbrev n_Registry_answer_has : List Str := ["self", "claim", "address"]
theorem sc_Registry_answer_has : FnScope n_Registry_answer_has ["self", "claim", "address"] (defScope s_Registry_answer_has) := ⟨rfl, rfl, rfl, by decide +kernel, rfl, by decide +kernel, by decide +kernel⟩
abbrev s_Registry_answer_part : Stmt := inClass (top 30) 5
abbrev n_Registry_answer_part : List Str := ["self", "upload", "at", "part", "length"]
theorem sc_Registry_answer_part : FnScope n_Registry_answer_part ["self", "upload", "at", "part"] (defScope s_Registry_answer_part) := ⟨rfl, rfl, rfl, by decide +kernel, rfl, by decide +kernel, by decide +kernel⟩
abbrev s_Registry_answer_finish : Stmt := inClass (top 30) 6
abbrev n_Registry_answer_finish : List Str := ["self", "upload", "claim", "address", "text"]
theorem sc_Registry_answer_finish : FnScope n_Registry_answer_finish ["self", "upload", "claim", "address"] (defScope s_Registry_answer_finish) := ⟨rfl, rfl, rfl, by decide +kernel, rfl, by decide +kernel, by decide +kernel⟩
abbrev s_Registry_answer_put : Stmt := inClass (top 30) 7
abbrev n_Registry_answer_put : List Str := ["self", "claim", "kind", "text", "below", "address", "blob"]
theorem sc_Registry_answer_put : FnScope n_Registry_answer_put ["self", "claim", "kind", "text"] (defScope s_Registry_answer_put) := ⟨rfl, rfl, rfl, by decide +kernel, rfl, by decide +kernel, by decide +kernel⟩
abbrev s_Registry_answer_name : Stmt := inClass (top 30) 8
abbrev n_Registry_answer_name : List Str := ["self", "claim", "name", "address", "blob"]
theorem sc_Registry_answer_name : FnScope n_Registry_answer_name ["self", "claim", "name", "address"] (defScope s_Registry_answer_name) := ⟨rfl, rfl, rfl, by decide +kernel, rfl, by decide +kernel, by decide +kernel⟩
abbrev s_Registry_answer_get : Stmt := inClass (top 30) 9
abbrev n_Registry_answer_get : List Str := ["self", "address", "at", "count", "blob"]
theorem sc_Registry_answer_get : FnScope n_Registry_answer_get ["self", "address", "at", "count"] (defScope s_Registry_answer_get) := ⟨rfl, rfl, rfl, by decide +kernel, rfl, by decide +kernel, by decide +kernel⟩
abbrev s_Registry_drop_name : Stmt := inClass (top 30) 10
abbrev n_Registry_drop_name : List Str := ["self", "name"]
theorem sc_Registry_drop_name : FnScope n_Registry_drop_name ["self", "name"] (defScope s_Registry_drop_name) := ⟨rfl, rfl, rfl, by decide +kernel, rfl, by decide +kernel, by decide +kernel⟩
abbrev s_Registry_lapse : Stmt := inClass (top 30) 11
abbrev n_Registry_lapse : List Str := ["self", "claim"]
theorem sc_Registry_lapse : FnScope n_Registry_lapse ["self", "claim"] (defScope s_Registry_lapse) := ⟨rfl, rfl, rfl, by decide +kernel, rfl, by decide +kernel, by decide +kernel⟩
abbrev s_Registry_fall : Stmt := inClass (top 30) 12
abbrev n_Registry_fall : List Str := ["self"]
theorem sc_Registry_fall : FnScope n_Registry_fall ["self"] (defScope s_Registry_fall) := ⟨rfl, rfl, rfl, by decide +kernel, rfl, by decide +kernel, by decide +kernel⟩
abbrev s_Registry_roots : Stmt := inClass (top 30) 13
abbrev n_Registry_roots : List Str := ["self", "found", "address", "name"]
theorem sc_Registry_roots : FnScope n_Registry_roots ["self"] (defScope s_Registry_roots) := ⟨rfl, rfl, rfl, by decide +kernel, rfl, by decide +kernel, by decide +kernel⟩
abbrev s_Registry_collect : Stmt := inClass (top 30) 14
abbrev n_Registry_collect : List Str := ["self"]
theorem sc_Registry_collect : FnScope n_Registry_collect ["self"] (defScope s_Registry_collect) := ⟨rfl, rfl, rfl, by decide +kernel, rfl, by decide +kernel, by decide +kernel⟩
abbrev s__law_state : Stmt := top 32
abbrev n__law_state : List Str := ["_law_script", "_law_cells", "_law_cell"]
theorem sc__law_state : FnScope n__law_state ["_law_script"] (defScope s__law_state) := ⟨rfl, rfl, rfl, by decide +kernel, rfl, by decide +kernel, by decide +kernel⟩
abbrev s__law_take : Stmt := top 33
abbrev n__law_take : List Str := ["_law_state_here", "_law_most", "_law_cells", "_law_at", "_law_cell", "_law_mixed"]
theorem sc__law_take : FnScope n__law_take ["_law_state_here", "_law_most"] (defScope s__law_take) := ⟨rfl, rfl, rfl, by decide +kernel, rfl, by decide +kernel, by decide +kernel⟩
abbrev s__law_text : Stmt := top 35
abbrev n__law_text : List Str := ["_law_state_here", "_law_most", "_law_k"]
theorem sc__law_text : FnScope n__law_text ["_law_state_here", "_law_most"] (defScope s__law_text) := ⟨rfl, rfl, rfl, by decide +kernel, rfl, by decide +kernel, by decide +kernel⟩
abbrev s__law_goods : Stmt := top 36
abbrev n__law_goods : List Str := ["_law_state_here", "_law_layers", "_law_images", "_law_k", "_law_chosen", "_law_j", "_law_text_here"]
theorem sc__law_goods : FnScope n__law_goods ["_law_state_here"] (defScope s__law_goods) := ⟨rfl, rfl, rfl, by decide +kernel, rfl, by decide +kernel, by decide +kernel⟩
abbrev s__law_clash : Stmt := top 37
abbrev n__law_clash : List Str := ["_law_blobs", "_law_found", "_law_kind", "_law_text_here", "_law_address"]
theorem sc__law_clash : FnScope n__law_clash ["_law_blobs"] (defScope s__law_clash) := ⟨rfl, rfl, rfl, by decide +kernel, rfl, by decide +kernel, by decide +kernel⟩
abbrev s__law_goods_clash : Stmt := top 38
abbrev n__law_goods_clash : List Str := ["_law_goods_here", "_law_layers", "_law_images", "_law_bundles", "_law_blobs", "_law_text_here"]
theorem sc__law_goods_clash : FnScope n__law_goods_clash ["_law_goods_here"] (defScope s__law_goods_clash) := ⟨rfl, rfl, rfl, by decide +kernel, rfl, by decide +kernel, by decide +kernel⟩
abbrev s__law_upload : Stmt := top 39
abbrev n__law_upload : List Str := ["_law_registry", "_law_claim", "_law_text_here", "_law_told"]
theorem sc__law_upload : FnScope n__law_upload ["_law_registry", "_law_claim", "_law_text_here"] (defScope s__law_upload) := ⟨rfl, rfl, rfl, by decide +kernel, rfl, by decide +kernel, by decide +kernel⟩
abbrev s__law_request : Stmt := top 40
abbrev n__law_request : List Str := ["_law_state_here", "_law_registry", "_law_goods_here", "_law_claim", "_law_layers", "_law_images", "_law_kind", "_law_text_here", "_law_image", "_law_address", "_law_bundle"]
theorem sc__law_request : FnScope n__law_request ["_law_state_here", "_law_registry", "_law_goods_here", "_law_claim"] (defScope s__law_request) := ⟨rfl, rfl, rfl, by decide +kernel, rfl, by decide +kernel, by decide +kernel⟩
abbrev s__law_below : Stmt := top 41
abbrev n__law_below : List Str := ["_law_store", "_law_address", "_law_blob", "_law_lines", "_law_line"]
theorem sc__law_below : FnScope n__law_below ["_law_store", "_law_address"] (defScope s__law_below) := ⟨rfl, rfl, rfl, by decide +kernel, rfl, by decide +kernel, by decide +kernel⟩
abbrev s__law_whole : Stmt := top 42
abbrev n__law_whole : List Str := ["_law_store", "_law_address", "_law_below_here", "_law_other"]
theorem sc__law_whole : FnScope n__law_whole ["_law_store", "_law_address"] (defScope s__law_whole) := ⟨rfl, rfl, rfl, by decide +kernel, rfl, by decide +kernel, by decide +kernel⟩
abbrev s__law_sound : Stmt := top 43
abbrev n__law_sound : List Str := ["_law_registry", "_law_kept", "_law_store", "_law_names", "_law_name", "_law_address", "_law_claim"]
theorem sc__law_sound : FnScope n__law_sound ["_law_registry", "_law_kept"] (defScope s__law_sound) := ⟨rfl, rfl, rfl, by decide +kernel, rfl, by decide +kernel, by decide +kernel⟩
abbrev s_law : Stmt := top 44
abbrev n_law : List Str := ["_law_script", "_law_state_here", "_law_goods_here", "_law_registry", "_law_kept", "_law_turn", "_law_kind", "_law_claim", "_law_told", "_law_is_open", "_law_address"]
theorem sc_law : FnScope n_law ["_law_script"] (defScope s_law) := ⟨rfl, rfl, rfl, by decide +kernel, rfl, by decide +kernel, by decide +kernel⟩
/-- the fields of Claims -/
def f_Claims (x_last x_pins : V) : List (Str × V) := [("last", x_last), ("pins", x_pins)]
theorem f_Claims_last {x_last x_pins : V} : (f_Claims x_last x_pins).lookup ("last" : Str) = some x_last := lk_eq
theorem f_Claims_put_last {x_last x_pins y : V} : putF "last" y (f_Claims x_last x_pins) = f_Claims y x_pins := pf_eq
theorem f_Claims_pins {x_last x_pins : V} : (f_Claims x_last x_pins).lookup ("pins" : Str) = some x_pins := (lk_ne (by decide +kernel)).trans (lk_eq)
theorem f_Claims_put_pins {x_last x_pins y : V} : putF "pins" y (f_Claims x_last x_pins) = f_Claims x_last y := (pf_ne (by decide +kernel)).trans (congrArg _ (pf_eq))
theorem f_Claims_no {x_last x_pins : V} {m : Str} (h : (["last", "pins"] : List Str).all (fun f => !(m == f)) = true) : (f_Claims x_last x_pins).lookup m = none := lk_no h
theorem f_Claims_len {x_last x_pins : V} : (f_Claims x_last x_pins).length < 1000 := (by decide : 2 < 1000)
theorem f_Claims_mk {x_last x_pins : V} : putF "pins" x_pins (putF "last" x_last ([])) = f_Claims x_last x_pins := by
  unfold f_Claims; simp only [putF]; first | rfl | (repeat' (first | rfl | rw [if_neg (by decide +kernel)]))
/-- the fields of Collector -/
def f_Collector (x_store x_phase x_marked x_todo x_doomed : V) : List (Str × V) := [("store", x_store), ("phase", x_phase), ("marked", x_marked), ("todo", x_todo), ("doomed", x_doomed)]
theorem f_Collector_store {x_store x_phase x_marked x_todo x_doomed : V} : (f_Collector x_store x_phase x_marked x_todo x_doomed).lookup ("store" : Str) = some x_store := lk_eq
theorem f_Collector_put_store {x_store x_phase x_marked x_todo x_doomed y : V} : putF "store" y (f_Collector x_store x_phase x_marked x_todo x_doomed) = f_Collector y x_phase x_marked x_todo x_doomed := pf_eq
theorem f_Collector_phase {x_store x_phase x_marked x_todo x_doomed : V} : (f_Collector x_store x_phase x_marked x_todo x_doomed).lookup ("phase" : Str) = some x_phase := (lk_ne (by decide +kernel)).trans (lk_eq)
theorem f_Collector_put_phase {x_store x_phase x_marked x_todo x_doomed y : V} : putF "phase" y (f_Collector x_store x_phase x_marked x_todo x_doomed) = f_Collector x_store y x_marked x_todo x_doomed := (pf_ne (by decide +kernel)).trans (congrArg _ (pf_eq))
theorem f_Collector_marked {x_store x_phase x_marked x_todo x_doomed : V} : (f_Collector x_store x_phase x_marked x_todo x_doomed).lookup ("marked" : Str) = some x_marked := (lk_ne (by decide +kernel)).trans ((lk_ne (by decide +kernel)).trans (lk_eq))
theorem f_Collector_put_marked {x_store x_phase x_marked x_todo x_doomed y : V} : putF "marked" y (f_Collector x_store x_phase x_marked x_todo x_doomed) = f_Collector x_store x_phase y x_todo x_doomed := (pf_ne (by decide +kernel)).trans (congrArg _ ((pf_ne (by decide +kernel)).trans (congrArg _ (pf_eq))))
theorem f_Collector_todo {x_store x_phase x_marked x_todo x_doomed : V} : (f_Collector x_store x_phase x_marked x_todo x_doomed).lookup ("todo" : Str) = some x_todo := (lk_ne (by decide +kernel)).trans ((lk_ne (by decide +kernel)).trans ((lk_ne (by decide +kernel)).trans (lk_eq)))
theorem f_Collector_put_todo {x_store x_phase x_marked x_todo x_doomed y : V} : putF "todo" y (f_Collector x_store x_phase x_marked x_todo x_doomed) = f_Collector x_store x_phase x_marked y x_doomed := (pf_ne (by decide +kernel)).trans (congrArg _ ((pf_ne (by decide +kernel)).trans (congrArg _ ((pf_ne (by decide +kernel)).trans (congrArg _ (pf_eq))))))
theorem f_Collector_doomed {x_store x_phase x_marked x_todo x_doomed : V} : (f_Collector x_store x_phase x_marked x_todo x_doomed).lookup ("doomed" : Str) = some x_doomed := (lk_ne (by decide +kernel)).trans ((lk_ne (by decide +kernel)).trans ((lk_ne (by decide +kernel)).trans ((lk_ne (by decide +kernel)).trans (lk_eq))))
theorem f_Collector_put_doomed {x_store x_phase x_marked x_todo x_doomed y : V} : putF "doomed" y (f_Collector x_store x_phase x_marked x_todo x_doomed) = f_Collector x_store x_phase x_marked x_todo y := (pf_ne (by decide +kernel)).trans (congrArg _ ((pf_ne (by decide +kernel)).trans (congrArg _ ((pf_ne (by decide +kernel)).trans (congrArg _ ((pf_ne (by decide +kernel)).trans (congrArg _ (pf_eq))))))))
theorem f_Collector_no {x_store x_phase x_marked x_todo x_doomed : V} {m : Str} (h : (["store", "phase", "marked", "todo", "doomed"] : List Str).all (fun f => !(m == f)) = true) : (f_Collector x_store x_phase x_marked x_todo x_doomed).lookup m = none := lk_no h
theorem f_Collector_len {x_store x_phase x_marked x_todo x_doomed : V} : (f_Collector x_store x_phase x_marked x_todo x_doomed).length < 1000 := (by decide : 5 < 1000)
theorem f_Collector_mk {x_store x_phase x_marked x_todo x_doomed : V} : putF "doomed" x_doomed (putF "todo" x_todo (putF "marked" x_marked (putF "phase" x_phase (putF "store" x_store ([]))))) = f_Collector x_store x_phase x_marked x_todo x_doomed := by
  unfold f_Collector; simp only [putF]; first | rfl | (repeat' (first | rfl | rw [if_neg (by decide +kernel)]))
/-- the fields of Store -/
def f_Store (x_blobs : V) : List (Str × V) := [("blobs", x_blobs)]
theorem f_Store_blobs {x_blobs : V} : (f_Store x_blobs).lookup ("blobs" : Str) = some x_blobs := lk_eq
theorem f_Store_put_blobs {x_blobs y : V} : putF "blobs" y (f_Store x_blobs) = f_Store y := pf_eq
theorem f_Store_no {x_blobs : V} {m : Str} (h : (["blobs"] : List Str).all (fun f => !(m == f)) = true) : (f_Store x_blobs).lookup m = none := lk_no h
theorem f_Store_len {x_blobs : V} : (f_Store x_blobs).length < 1000 := (by decide : 1 < 1000)
theorem f_Store_mk {x_blobs : V} : putF "blobs" x_blobs ([]) = f_Store x_blobs := by
  unfold f_Store; simp only [putF]; first | rfl | (repeat' (first | rfl | rw [if_neg (by decide +kernel)]))
/-- the fields of Uploads -/
def f_Uploads (x_last x_texts : V) : List (Str × V) := [("last", x_last), ("texts", x_texts)]
theorem f_Uploads_last {x_last x_texts : V} : (f_Uploads x_last x_texts).lookup ("last" : Str) = some x_last := lk_eq
theorem f_Uploads_put_last {x_last x_texts y : V} : putF "last" y (f_Uploads x_last x_texts) = f_Uploads y x_texts := pf_eq
theorem f_Uploads_texts {x_last x_texts : V} : (f_Uploads x_last x_texts).lookup ("texts" : Str) = some x_texts := (lk_ne (by decide +kernel)).trans (lk_eq)
theorem f_Uploads_put_texts {x_last x_texts y : V} : putF "texts" y (f_Uploads x_last x_texts) = f_Uploads x_last y := (pf_ne (by decide +kernel)).trans (congrArg _ (pf_eq))
theorem f_Uploads_no {x_last x_texts : V} {m : Str} (h : (["last", "texts"] : List Str).all (fun f => !(m == f)) = true) : (f_Uploads x_last x_texts).lookup m = none := lk_no h
theorem f_Uploads_len {x_last x_texts : V} : (f_Uploads x_last x_texts).length < 1000 := (by decide : 2 < 1000)
theorem f_Uploads_mk {x_last x_texts : V} : putF "texts" x_texts (putF "last" x_last ([])) = f_Uploads x_last x_texts := by
  unfold f_Uploads; simp only [putF]; first | rfl | (repeat' (first | rfl | rw [if_neg (by decide +kernel)]))
/-- the fields of Registry -/
def f_Registry (x_store x_names x_claims x_uploads x_collector : V) : List (Str × V) := [("store", x_store), ("names", x_names), ("claims", x_claims), ("uploads", x_uploads), ("collector", x_collector)]
theorem f_Registry_store {x_store x_names x_claims x_uploads x_collector : V} : (f_Registry x_store x_names x_claims x_uploads x_collector).lookup ("store" : Str) = some x_store := lk_eq
theorem f_Registry_put_store {x_store x_names x_claims x_uploads x_collector y : V} : putF "store" y (f_Registry x_store x_names x_claims x_uploads x_collector) = f_Registry y x_names x_claims x_uploads x_collector := pf_eq
theorem f_Registry_names {x_store x_names x_claims x_uploads x_collector : V} : (f_Registry x_store x_names x_claims x_uploads x_collector).lookup ("names" : Str) = some x_names := (lk_ne (by decide +kernel)).trans (lk_eq)
theorem f_Registry_put_names {x_store x_names x_claims x_uploads x_collector y : V} : putF "names" y (f_Registry x_store x_names x_claims x_uploads x_collector) = f_Registry x_store y x_claims x_uploads x_collector := (pf_ne (by decide +kernel)).trans (congrArg _ (pf_eq))
theorem f_Registry_claims {x_store x_names x_claims x_uploads x_collector : V} : (f_Registry x_store x_names x_claims x_uploads x_collector).lookup ("claims" : Str) = some x_claims := (lk_ne (by decide +kernel)).trans ((lk_ne (by decide +kernel)).trans (lk_eq))
theorem f_Registry_put_claims {x_store x_names x_claims x_uploads x_collector y : V} : putF "claims" y (f_Registry x_store x_names x_claims x_uploads x_collector) = f_Registry x_store x_names y x_uploads x_collector := (pf_ne (by decide +kernel)).trans (congrArg _ ((pf_ne (by decide +kernel)).trans (congrArg _ (pf_eq))))
theorem f_Registry_uploads {x_store x_names x_claims x_uploads x_collector : V} : (f_Registry x_store x_names x_claims x_uploads x_collector).lookup ("uploads" : Str) = some x_uploads := (lk_ne (by decide +kernel)).trans ((lk_ne (by decide +kernel)).trans ((lk_ne (by decide +kernel)).trans (lk_eq)))
theorem f_Registry_put_uploads {x_store x_names x_claims x_uploads x_collector y : V} : putF "uploads" y (f_Registry x_store x_names x_claims x_uploads x_collector) = f_Registry x_store x_names x_claims y x_collector := (pf_ne (by decide +kernel)).trans (congrArg _ ((pf_ne (by decide +kernel)).trans (congrArg _ ((pf_ne (by decide +kernel)).trans (congrArg _ (pf_eq))))))
theorem f_Registry_collector {x_store x_names x_claims x_uploads x_collector : V} : (f_Registry x_store x_names x_claims x_uploads x_collector).lookup ("collector" : Str) = some x_collector := (lk_ne (by decide +kernel)).trans ((lk_ne (by decide +kernel)).trans ((lk_ne (by decide +kernel)).trans ((lk_ne (by decide +kernel)).trans (lk_eq))))
theorem f_Registry_put_collector {x_store x_names x_claims x_uploads x_collector y : V} : putF "collector" y (f_Registry x_store x_names x_claims x_uploads x_collector) = f_Registry x_store x_names x_claims x_uploads y := (pf_ne (by decide +kernel)).trans (congrArg _ ((pf_ne (by decide +kernel)).trans (congrArg _ ((pf_ne (by decide +kernel)).trans (congrArg _ ((pf_ne (by decide +kernel)).trans (congrArg _ (pf_eq))))))))
theorem f_Registry_no {x_store x_names x_claims x_uploads x_collector : V} {m : Str} (h : (["store", "names", "claims", "uploads", "collector"] : List Str).all (fun f => !(m == f)) = true) : (f_Registry x_store x_names x_claims x_uploads x_collector).lookup m = none := lk_no h
theorem f_Registry_len {x_store x_names x_claims x_uploads x_collector : V} : (f_Registry x_store x_names x_claims x_uploads x_collector).length < 1000 := (by decide : 5 < 1000)
theorem f_Registry_mk {x_store x_names x_claims x_uploads x_collector : V} : putF "collector" x_collector (putF "uploads" x_uploads (putF "claims" x_claims (putF "names" x_names (putF "store" x_store ([]))))) = f_Registry x_store x_names x_claims x_uploads x_collector := by
  unfold f_Registry; simp only [putF]; first | rfl | (repeat' (first | rfl | rw [if_neg (by decide +kernel)]))
structure Txt (w : World) (K : PySem.W.Frag) (mg : Str → Option Value) (C_Claims : Addr) (C_Collector : Addr) (C_Store : Addr) (C_Uploads : Addr) (C_Registry : Addr) (C_Refused : Addr) (C_Malformed : Addr) (a_KINDS : Addr) (a_BELOW : Addr) (a_CLAIMED : Addr) : Prop where
  cl_Claims : Cls K C_Claims
  na_Claims_last : NoAttr K C_Claims "last"
  na_Claims_pins : NoAttr K C_Claims "pins"
  i_Claims : IniAt K mg "Claims" C_Claims "Claims.__init__" s_Claims___init__ ["self"]
  m_Claims_begin : MetAt K C_Claims "begin" "Claims.begin" s_Claims_begin ["self"]
  m_Claims_is_open : MetAt K C_Claims "is_open" "Claims.is_open" s_Claims_is_open ["self", "claim"]
  m_Claims_pin : MetAt K C_Claims "pin" "Claims.pin" s_Claims_pin ["self", "claim", "address"]
  m_Claims_end : MetAt K C_Claims "end" "Claims.end" s_Claims_end ["self", "claim"]
  m_Claims_numbers : MetAt K C_Claims "numbers" "Claims.numbers" s_Claims_numbers ["self"]
  m_Claims_pinned : MetAt K C_Claims "pinned" "Claims.pinned" s_Claims_pinned ["self"]
  cl_Collector : Cls K C_Collector
  na_Collector_store : NoAttr K C_Collector "store"
  na_Collector_phase : NoAttr K C_Collector "phase"
  na_Collector_marked : NoAttr K C_Collector "marked"
  na_Collector_todo : NoAttr K C_Collector "todo"
  na_Collector_doomed : NoAttr K C_Collector "doomed"
  i_Collector : IniAt K mg "Collector" C_Collector "Collector.__init__" s_Collector___init__ ["self", "store"]
  m_Collector_stop : MetAt K C_Collector "stop" "Collector.stop" s_Collector_stop ["self"]
  m_Collector_shade : MetAt K C_Collector "shade" "Collector.shade" s_Collector_shade ["self", "address"]
  m_Collector_step : MetAt K C_Collector "step" "Collector.step" s_Collector_step ["self", "roots"]
  m_Collector_mark_one : MetAt K C_Collector "mark_one" "Collector.mark_one" s_Collector_mark_one ["self"]
  m_Collector_sweep_one : MetAt K C_Collector "sweep_one" "Collector.sweep_one" s_Collector_sweep_one ["self"]
  cl_Store : Cls K C_Store
  na_Store_blobs : NoAttr K C_Store "blobs"
  i_Store : IniAt K mg "Store" C_Store "Store.__init__" s_Store___init__ ["self"]
  m_Store_keep : MetAt K C_Store "keep" "Store.keep" s_Store_keep ["self", "kind", "text"]
  m_Store_blob : MetAt K C_Store "blob" "Store.blob" s_Store_blob ["self", "address"]
  m_Store_remove_blob : MetAt K C_Store "remove_blob" "Store.remove_blob" s_Store_remove_blob ["self", "address"]
  m_Store_addresses : MetAt K C_Store "addresses" "Store.addresses" s_Store_addresses ["self"]
  m_Store_below : MetAt K C_Store "below" "Store.below" s_Store_below ["self", "address"]
  m_Store_is_whole : MetAt K C_Store "is_whole" "Store.is_whole" s_Store_is_whole ["self", "address"]
  m_Store_closure : MetAt K C_Store "closure" "Store.closure" s_Store_closure ["self", "address"]
  cl_Uploads : Cls K C_Uploads
  na_Uploads_last : NoAttr K C_Uploads "last"
  na_Uploads_texts : NoAttr K C_Uploads "texts"
  i_Uploads : IniAt K mg "Uploads" C_Uploads "Uploads.__init__" s_Uploads___init__ ["self"]
  m_Uploads_begin : MetAt K C_Uploads "begin" "Uploads.begin" s_Uploads_begin ["self"]
  m_Uploads_add_part : MetAt K C_Uploads "add_part" "Uploads.add_part" s_Uploads_add_part ["self", "upload", "at", "part"]
  m_Uploads_finish : MetAt K C_Uploads "finish" "Uploads.finish" s_Uploads_finish ["self", "upload"]
  m_Uploads_forget : MetAt K C_Uploads "forget" "Uploads.forget" s_Uploads_forget ["self"]
  cl_Registry : Cls K C_Registry
  na_Registry_store : NoAttr K C_Registry "store"
  na_Registry_names : NoAttr K C_Registry "names"
  na_Registry_claims : NoAttr K C_Registry "claims"
  na_Registry_uploads : NoAttr K C_Registry "uploads"
  na_Registry_collector : NoAttr K C_Registry "collector"
  i_Registry : IniAt K mg "Registry" C_Registry "Registry.__init__" s_Registry___init__ ["self"]
  m_Registry_answer : MetAt K C_Registry "answer" "Registry.answer" s_Registry_answer ["self", "request"]
  m_Registry_answer_plain : MetAt K C_Registry "answer_plain" "Registry.answer_plain" s_Registry_answer_plain ["self", "request"]
  m_Registry_kept : MetAt K C_Registry "kept" "Registry.kept" s_Registry_kept ["self", "claim", "address"]
  m_Registry_answer_has : MetAt K C_Registry "answer_has" "Registry.answer_has" s_Registry_answer_has ["self", "claim", "address"]
  m_Registry_answer_part : MetAt K C_Registry "answer_part" "Registry.answer_part" s_Registry_answer_part ["self", "upload", "at", "part"]
  m_Registry_answer_finish : MetAt K C_Registry "answer_finish" "Registry.answer_finish" s_Registry_answer_finish ["self", "upload", "claim", "address"]
  m_Registry_answer_put : MetAt K C_Registry "answer_put" "Registry.answer_put" s_Registry_answer_put ["self", "claim", "kind", "text"]
  m_Registry_answer_name : MetAt K C_Registry "answer_name" "Registry.answer_name" s_Registry_answer_name ["self", "claim", "name", "address"]
  m_Registry_answer_get : MetAt K C_Registry "answer_get" "Registry.answer_get" s_Registry_answer_get ["self", "address", "at", "count"]
  m_Registry_drop_name : MetAt K C_Registry "drop_name" "Registry.drop_name" s_Registry_drop_name ["self", "name"]
  m_Registry_lapse : MetAt K C_Registry "lapse" "Registry.lapse" s_Registry_lapse ["self", "claim"]
  m_Registry_fall : MetAt K C_Registry "fall" "Registry.fall" s_Registry_fall ["self"]
  m_Registry_roots : MetAt K C_Registry "roots" "Registry.roots" s_Registry_roots ["self"]
  m_Registry_collect : MetAt K C_Registry "collect" "Registry.collect" s_Registry_collect ["self"]
  gx_Refused : mg "Refused" = some (.ref C_Refused)
  gx_Malformed : mg "Malformed" = some (.ref C_Malformed)
  ox_Malformed : OexC K C_Malformed
  xf_Malformed : XfC K C_Malformed
  xi_Malformed : XiC K C_Malformed
  te_Malformed : PySem.W.exmOne K (.ref C_Malformed) (.ref C_Malformed) = some true
  na_Malformed_line : PySem.W.findIn K (.ref C_Malformed) "line" = some none
  i_Malformed : ExiAt K mg "Malformed" C_Malformed "Malformed.__init__" s_Malformed___init__ ["self", "line"]
  d_address_of : DefAt K mg "address_of" s_address_of ["kind", "text"]
  d_is_address : DefAt K mg "is_address" s_is_address ["text"]
  d_image_text : DefAt K mg "image_text" s_image_text ["layers"]
  d_bundle_text : DefAt K mg "bundle_text" s_bundle_text ["entries"]
  d_lines_of : DefAt K mg "lines_of" s_lines_of ["text", "head"]
  d_read_image : DefAt K mg "read_image" s_read_image ["text"]
  d_is_platform : DefAt K mg "is_platform" s_is_platform ["word"]
  d_read_bundle : DefAt K mg "read_bundle" s_read_bundle ["text"]
  d_references : DefAt K mg "references" s_references ["kind", "text"]
  d__law_state : DefAt K mg "_law_state" s__law_state ["_law_script"]
  d__law_take : DefAt K mg "_law_take" s__law_take ["_law_state_here", "_law_most"]
  d__law_text : DefAt K mg "_law_text" s__law_text ["_law_state_here", "_law_most"]
  d__law_goods : DefAt K mg "_law_goods" s__law_goods ["_law_state_here"]
  d__law_clash : DefAt K mg "_law_clash" s__law_clash ["_law_blobs"]
  d__law_goods_clash : DefAt K mg "_law_goods_clash" s__law_goods_clash ["_law_goods_here"]
  d__law_upload : DefAt K mg "_law_upload" s__law_upload ["_law_registry", "_law_claim", "_law_text_here"]
  d__law_request : DefAt K mg "_law_request" s__law_request ["_law_state_here", "_law_registry", "_law_goods_here", "_law_claim"]
  d__law_below : DefAt K mg "_law_below" s__law_below ["_law_store", "_law_address"]
  d__law_whole : DefAt K mg "_law_whole" s__law_whole ["_law_store", "_law_address"]
  d__law_sound : DefAt K mg "_law_sound" s__law_sound ["_law_registry", "_law_kept"]
  n_abs : mg "abs" = none
  n_int : mg "int" = none
  n_len : mg "len" = none
  n_list : mg "list" = none
  n_ord : mg "ord" = none
  n_range : mg "range" = none
  n_sorted : mg "sorted" = none
  g_DIGITS : ∃ u, mg "DIGITS" = some u ∧ RelV (.str "0123456789abcdef") u
  g_LETTERS : ∃ u, mg "LETTERS" = some u ∧ RelV (.str "abcdefghijklmnopqrstuvwxyz") u
  g_MAX_LINES : ∃ u, mg "MAX_LINES" = some u ∧ RelV (.int 50) u
  g_PRIME : ∃ u, mg "PRIME" = some u ∧ RelV (.int 2305843009213693951) u
  g_KINDS : ∃ u, mg "KINDS" = some u ∧ RelV (.ref a_KINDS) u
  at_KINDS : ∃ o its n, K.lookup a_KINDS = some o ∧ o.cls = .type "tuple" ∧ o.dict = none ∧ o.data = .seq its n ∧ its.size ≤ sizeLine ∧ Vals (kinds3.map V.str) its.toList
  g_BELOW : ∃ u, mg "BELOW" = some u ∧ RelV (.ref a_BELOW) u
  k_BELOW_image : KDct K w a_BELOW "image" (.str "layer")
  k_BELOW_bundle : KDct K w a_BELOW "bundle" (.str "image")
  g_CLAIMED : ∃ u, mg "CLAIMED" = some u ∧ RelV (.ref a_CLAIMED) u
  at_CLAIMED : ∃ o its n, K.lookup a_CLAIMED = some o ∧ o.cls = .type "tuple" ∧ o.dict = none ∧ o.data = .seq its n ∧ its.size ≤ sizeLine ∧ Vals (claimed4.map V.str) its.toList
end Lw
local macro_rules | `(tactic| walk_at "lw side") => `(tactic| first | assumption | decide | omega | exact Or.inr ⟨by decide, by decide⟩ | exact Or.inl ⟨by decide, by decide⟩ | exact ⟨by decide, by decide⟩ | exact ⟨by omega, by omega⟩)
local macro_rules | `(tactic| walk_at "lw ne") => `(tactic| first | assumption | exact Ne.symm (by assumption) | exact L2.ne_of_none (by assumption) (by assumption) | exact Ne.symm (L2.ne_of_none (by assumption) (by assumption)))
local macro_rules | `(tactic| walk_at "lw hp") => `(tactic| first | assumption | exact L2.upd_same | (refine Eq.trans (L2.upd_ne (by walk_at "lw ne")) ?_; walk_at "lw hp"))
local macro_rules | `(tactic| walk_at "lw sq") => `(tactic| first | assumption | exact L2.SqL.of (by walk_at "lw hp") | exact L2.SqT.of (by walk_at "lw hp"))
local macro_rules | `(tactic| walk_at "lw go") => `(tactic| first
  | (with_reducible refine Lw.g_seq ?_)
  | ((with_reducible refine' Lw.g_var ?h1 ?k1); (case h1 => rfl))
  | (with_reducible refine Lw.g_c ?_)
  | (with_reducible refine Lw.g_op ?_)
  | (with_reducible refine Lw.g_I0 ?_)
  | ((with_reducible refine' Lw.g_I ?h1 ?k1); (case h1 => walk_at "lw side"))
  | ((with_reducible refine' Lw.g_eq ?h1 ?k1); (case h1 => rfl))
  | ((with_reducible refine' Lw.g_ne ?h1 ?k1); (case h1 => rfl))
  | (with_reducible refine Lw.g_nil ?_)
  | (with_reducible refine Lw.g_cons ?_)
  | (with_reducible refine Lw.g_cb ?_)
  | (with_reducible refine Lw.g_call ?_)
  | (with_reducible refine Lw.g_test ?_)
  | (with_reducible refine Lw.g_B ?_)
  | (with_reducible refine Lw.g_exb ?_)
  | (with_reducible refine Lw.g_not ?_)
  | (with_reducible refine Lw.g_and ?_)
  | (with_reducible refine Lw.g_or ?_)
  | (with_reducible refine Lw.g_tup ?_)
  | (with_reducible refine Lw.g_lst ?_)
  | (with_reducible refine Lw.g_ifx ?_)
  | (with_reducible refine Lw.g_fld ?_)
  | (with_reducible refine Lw.g_asg ?_)
  | (with_reducible refine Lw.g_name ?_)
  | (with_reducible refine Lw.g_ret ?_)
  | (with_reducible refine Lw.g_drop ?_)
  | (with_reducible refine Lw.g_next ?_)
  | (with_reducible refine Lw.g_ifs ?_)
  | (with_reducible refine Lw.g_pnx ?_)
  | (with_reducible refine Lw.g_prt ?_)
  | (with_reducible refine Lw.g_pbk ?_)
  | (with_reducible refine Lw.g_pct ?_)
  | (with_reducible refine Lw.g_sl ?_)
  | (with_reducible refine Lw.g_nopart ?_)
  | (with_reducible refine Lw.g_part ?_)
  | (with_reducible refine Lw.g_rpart ?_)
  | (with_reducible refine Lw.g_m1 ?_)
  | (with_reducible refine Lw.g_m0 ?_)
  | (with_reducible refine Lw.g_rstr ?_)
  | (with_reducible refine Lw.g_bm0 ?_)
  | (with_reducible refine Lw.g_bm ?_)
  | (with_reducible refine Lw.g_isN ?_)
  | (with_reducible refine Lw.g_isB ?_)
  | (with_reducible refine Lw.g_notB ?_)
  | (with_reducible refine Lw.g_andV ?_)
  | (with_reducible refine Lw.g_orV ?_)
  | (with_reducible refine Lw.g_notV ?_)
  | (with_reducible refine Lw.g_notN ?_)
  | (with_reducible refine L2.iteT ?_)
  | (with_reducible refine L2.iteF ?_)
  | (with_reducible refine Lw.g_int1 ?_)
  | (with_reducible refine Lw.g_int1b ?_)
  | (with_reducible refine Lw.g_sub ?_)
  | (with_reducible refine Lw.g_forR ?_)
  | (with_reducible refine Lw.g_for ?_)
  | (with_reducible refine Lw.g_lc ?_)
  | (with_reducible refine Lw.g_iStr ?_)
  | (with_reducible refine Lw.g_ritS ?_)
  | (with_reducible refine Lw.g_tyS ?_)
  | (with_reducible refine Lw.g_iList ?_)
  | (with_reducible refine Lw.g_iTup ?_)
  | (with_reducible refine Lw.g_iRng ?_)
  | (with_reducible refine Lw.g_inSg ?_)
  | (with_reducible refine Lw.g_notInSg ?_)
  | (with_reducible refine Lw.g_ord ?_)
  | (with_reducible refine Lw.g_reprB ?_)
  | (with_reducible refine Lw.g_sfld ?_)
  | (with_reducible refine Lw.g_meth ?_)
  | (with_reducible refine Lw.g_make ?_)
  | (with_reducible refine Lw.g_dget ?_)
  | (with_reducible refine Lw.g_din ?_)
  | (with_reducible refine Lw.g_dnotin ?_)
  | (with_reducible refine Lw.g_dput ?_)
  | (with_reducible refine Lw.g_ddel ?_)
  | (with_reducible refine Lw.g_dpop1 ?_)
  | (with_reducible refine Lw.g_dget1 ?_)
  | (with_reducible refine Lw.g_iKeys ?_)
  | (with_reducible refine Lw.g_fldaug ?_)
  | ((with_reducible refine' Lw.g_lenL ?h1 ?k1); (case h1 => walk_at "lw sq"))
  | ((with_reducible refine' Lw.g_lenD ?h1 ?k1); (case h1 => walk_at "lw hp")))
local macro_rules | `(tactic| walk_at "lw") => `(tactic| repeat walk_at "lw go")
/-! ## Claims and Uploads -/
namespace Lw
open PySem L2
open PyProof.Rows (envOfC sortedS)
def addTo (acc l : List Str) : List Str := l.foldl (fun acc x => if x ∈ acc then acc else acc ++ [x]) acc
def ded (l : List Str) : List Str := addTo [] l
theorem addTo_snoc (acc l : List Str) (x : Str) : addTo acc (l ++ [x]) = if x ∈ addTo acc l then addTo acc l else addTo acc l ++ [x] := by
  unfold addTo
  rw [List.foldl_append]
  rfl
theorem addTo_mem (l : List Str) : ∀ (acc : List Str) (x : Str), x ∈ addTo acc l ↔ x ∈ acc ∨ x ∈ l := by
  induction l with
  | nil => intro acc x; simp [addTo]
  | cons y r ih =>
    intro acc x
    show x ∈ addTo (if y ∈ acc then acc else acc ++ [y]) r ↔ _
    rw [ih]
    split
    · rename_i h
      constructor
      · rintro (a | a)
        · exact .inl a
        · exact .inr (List.mem_cons_of_mem _ a)
      · rintro (a | a)
        · exact .inl a
        · rcases List.mem_cons.mp a with e | e
          · rw [e]; exact .inl h
          · exact .inr e
    · rw [List.mem_append, List.mem_singleton, List.mem_cons, or_assoc]
theorem addTo_nodup (l : List Str) : ∀ (acc : List Str), acc.Nodup → (addTo acc l).Nodup := by
  induction l with
  | nil => intro acc h; exact h
  | cons y r ih =>
    intro acc h
    show (addTo (if y ∈ acc then acc else acc ++ [y]) r).Nodup
    refine ih _ ?_
    split
    · exact h
    · rename_i hy
      rw [List.nodup_append]
      refine ⟨h, by simp, fun a ha b hb => ?_⟩
      rw [List.mem_singleton.mp hb]
      exact fun z => hy (z ▸ ha)
def setD (l : List Str) : List (Key × V) := mkS (ded l) fun _ => .bl true
theorem setD_put (l : List Str) (x : Str) : putK (setD l) (kS x) (.bl true) = setD (l ++ [x]) := by
  unfold setD ded
  rw [addTo_snoc]
  by_cases h : x ∈ addTo [] l
  · rw [putK_mkS_old h, if_pos h]
    exact mkS_congr fun j _ => by split <;> rfl
  · rw [putK_mkS_new h, if_neg h]
    exact mkS_congr fun j _ => by split <;> rfl
structure ClaimsAt (C : Addr) (c : Addr → Nat) (H : Hp) (p : Addr) (n : Int) (ks : List Int) (L : Int → List Str) : Prop where
  ex : ∃ (dx d : Addr) (A : Int → Addr), c p = 4 ∧ H p = some (.ins C dx (f_Claims (.int n) (.ref d))) ∧ c d = 4 ∧ H d = some (.dK (mkD ks fun i => .ref (A i))) ∧ (∀ i ∈ ks, c (A i) = 4 ∧ H (A i) = some (.dK (setD (L i)))) ∧
    (∀ i ∈ ks, ∀ j ∈ ks, A i = A j → i = j) ∧ ∀ i ∈ ks, A i ≠ d
theorem ClaimsAt.frame {C : Addr} {I : Nat → Prop} {c c' : Addr → Nat} {H H' : Hp} {p : Addr} {n : Int} {ks : List Int} {L : Int → List Str} (h : ClaimsAt C c H p n ks L) (s : Stp I c c' H H') (hi : ¬ I 4) : ClaimsAt C c' H' p n ks L := by
  obtain ⟨dx, d, A, h1, h2, h3, h4, h5, h6⟩ := h.ex
  refine ⟨dx, d, A, by rw [s.col _ _ h2, h1], s.keep _ _ h2 (by rw [h1]; exact hi), by rw [s.col _ _ h4, h3], s.keep _ _ h4 (by rw [h3]; exact hi), fun i hm => ?_, h6⟩
  obtain ⟨a, b⟩ := h5 i hm
  exact ⟨by rw [s.col _ _ b, a], s.keep _ _ b (by rw [a]; exact hi)⟩
structure UpAt (C : Addr) (c : Addr → Nat) (H : Hp) (p : Addr) (n : Int) (ts : List Int) (X : Int → List Nat) : Prop where
  ex : ∃ (dx d : Addr), c p = 3 ∧ H p = some (.ins C dx (f_Uploads (.int n) (.ref d))) ∧ c d = 3 ∧ H d = some (.dK (mkD ts fun i => .str (SX.S (X i))))
theorem UpAt.frame {C : Addr} {I : Nat → Prop} {c c' : Addr → Nat} {H H' : Hp} {p : Addr} {n : Int} {ks : List Int} {L : Int → List Nat} (h : UpAt C c H p n ks L) (s : Stp I c c' H H') (hi : ¬ I 3) : UpAt C c' H' p n ks L := by
  obtain ⟨dx, d, h1, h2, h3, h4⟩ := h.ex
  exact ⟨dx, d, by rw [s.col _ _ h2, h1], s.keep _ _ h2 (by rw [h1]; exact hi), by rw [s.col _ _ h4, h3], s.keep _ _ h4 (by rw [h3]; exact hi)⟩
def spCInit (C : Addr) : Sp := fun vs H Q _ => ∃ (p dx : Addr), vs = [.ref p] ∧ H p = some (.ins C dx []) ∧ ∀ d H', H d = none → H' p = some (.ins C dx (f_Claims (.int 0) (.ref d))) → H' d = some (.dK []) → (∀ b o, H b = some o → b ≠ p → H' b = some o) → Q .non H'
def spUInit (C : Addr) : Sp := fun vs H Q _ => ∃ (p dx : Addr), vs = [.ref p] ∧ H p = some (.ins C dx []) ∧ ∀ d H', H d = none → H' p = some (.ins C dx (f_Uploads (.int 0) (.ref d))) → H' d = some (.dK []) → (∀ b o, H b = some o → b ≠ p → H' b = some o) → Q .non H'
def spCBegin (C : Addr) : Sp := fun vs H Q _ => ∃ (c : Addr → Nat) (p : Addr) (n : Int) (ks : List Int) (L : Int → List Str), vs = [.ref p] ∧ ClaimsAt C c H p n ks L ∧ n + 1 ∉ ks ∧ ks.length ≤ 1000 ∧
  ∀ c' H', ClaimsAt C c' H' p (n + 1) (ks ++ [n + 1]) (fun j => if j = n + 1 then [] else L j) → Stp (fun i => i = 4) c c' H H' → Q (.int (n + 1)) H'
def spCOpen (C : Addr) : Sp := fun vs H Q _ => ∃ (c : Addr → Nat) (p : Addr) (n i : Int) (ks : List Int) (L : Int → List Str), vs = [.ref p, .int i] ∧ ClaimsAt C c H p n ks L ∧ Q (.bl (decide (i ∈ ks))) H
def spCPin (C : Addr) : Sp := fun vs H Q _ => ∃ (c : Addr → Nat) (p : Addr) (n i : Int) (x : Str) (ks : List Int) (L : Int → List Str), vs = [.ref p, .int i, .str x] ∧ ClaimsAt C c H p n ks L ∧ i ∈ ks ∧ (ded (L i)).length ≤ 1000 ∧
  ∀ H', ClaimsAt C c H' p n ks (fun j => if j = i then L i ++ [x] else L j) → Stp (fun i => i = 4) c c H H' → Q .non H'
def spCEnd (C : Addr) : Sp := fun vs H Q _ => ∃ (c : Addr → Nat) (p : Addr) (n i : Int) (ks : List Int) (L : Int → List Str), vs = [.ref p, .int i] ∧ ClaimsAt C c H p n ks L ∧
  ∀ H', ClaimsAt C c H' p n (ks.filter fun j => decide (j ≠ i)) L → Stp (fun i => i = 4) c c H H' → Q .non H'
def spCNumbers (C : Addr) : Sp := fun vs H Q _ => ∃ (c : Addr → Nat) (p : Addr) (n : Int) (ks : List Int) (L : Int → List Str), vs = [.ref p] ∧ ClaimsAt C c H p n ks L ∧ ks.length < 100000 ∧
  ∀ (r : Addr) (ys : List Int) H', ys.Perm ks → ys.Pairwise (· ≤ ·) → Same H H' → H' r = some (.lst (ys.map V.int)) → Q (.ref r) H'
def spCPinned (C : Addr) : Sp := fun vs H Q _ => ∃ (c : Addr → Nat) (p : Addr) (n : Int) (ks : List Int) (L : Int → List Str) (D : List Str), vs = [.ref p] ∧ ClaimsAt C c H p n ks L ∧ (∀ i ∈ ks, ∀ x ∈ L i, x ∈ D) ∧ D.length < 64 ∧
  ∀ (r : Addr) (ys : List Str) H', ys.Nodup → sortedS ys = true → (∀ x, x ∈ ys ↔ ∃ i ∈ ks, x ∈ L i) → Same H H' → H' r = some (.lst (ys.map V.str)) → Q (.ref r) H'
def spUBegin (C : Addr) : Sp := fun vs H Q _ => ∃ (c : Addr → Nat) (p : Addr) (n : Int) (ts : List Int) (X : Int → List Nat), vs = [.ref p] ∧ UpAt C c H p n ts X ∧ n + 1 ∉ ts ∧ ts.length ≤ 1000 ∧
  ∀ H', UpAt C c H' p (n + 1) (ts ++ [n + 1]) (fun j => if j = n + 1 then [] else X j) → Stp (fun i => i = 3) c c H H' → Q (.int (n + 1)) H'
def spUAdd (C : Addr) : Sp := fun vs H Q _ => ∃ (c : Addr → Nat) (p : Addr) (n u a : Int) (t : List Nat) (ts : List Int) (X : Int → List Nat), vs = [.ref p, .int u, .int a, .str (SX.S t)] ∧ UpAt C c H p n ts X ∧ ts.length ≤ 1000 ∧ (X u).length + t.length ≤ 100000 ∧
  (u ∉ ts → Q .non H) ∧ (u ∈ ts → a ≠ (X u).length → Q (.int (X u).length) H) ∧
  (u ∈ ts → a = (X u).length → ∀ H', UpAt C c H' p n ts (fun j => if j = u then X u ++ t else X j) → Stp (fun i => i = 3) c c H H' → Q (.int (X u ++ t).length) H')
def spUFin (C : Addr) : Sp := fun vs H Q _ => ∃ (c : Addr → Nat) (p : Addr) (n u : Int) (ts : List Int) (X : Int → List Nat), vs = [.ref p, .int u] ∧ UpAt C c H p n ts X ∧
  (u ∉ ts → Q .non H) ∧ (u ∈ ts → ∀ H', UpAt C c H' p n (ts.filter fun j => decide (j ≠ u)) X → Stp (fun i => i = 3) c c H H' → Q (.str (SX.S (X u))) H')
def spUForget (C : Addr) : Sp := fun vs H Q _ => ∃ (c : Addr → Nat) (p : Addr) (n : Int) (ts : List Int) (X : Int → List Nat), vs = [.ref p] ∧ UpAt C c H p n ts X ∧
  ∀ c' H', UpAt C c' H' p n [] X → Stp (fun i => i = 3) c c' H H' → Q .non H'
section
variable {P : Program} {w : World} {K : PySem.W.Frag} {mg : Str → Option Value} {base : Heap} {C_Claims C_Collector C_Store C_Uploads C_Registry C_Refused C_Malformed a_KINDS a_BELOW a_CLAIMED : Addr}
theorem ok_Claims___init__ (T : Txt w K mg C_Claims C_Collector C_Store C_Uploads C_Registry C_Refused C_Malformed a_KINDS a_BELOW a_CLAIMED) : Mak P w K mg base 1 "Claims" C_Claims (spCInit C_Claims) := by
  refine mak_mk T.i_Claims sc_Claims___init__ (fun vs H Q E h => ?_) (fun f cdv A outer s H vs Q E hr h => ?_)
  · obtain ⟨p, dx, rfl, _⟩ := h
    rfl
  · obtain ⟨p, dx, rfl, hp, k⟩ := h
    refine ⟨_, (pss_cons (ps_fld (pv 0) (pe_int) rfl)
      (pss_one (ps_fld (pv 0) (pe_dnewK) rfl))), ?_⟩
    walk_at "lw"
    refine g_rsfld hp T.cl_Claims T.na_Claims_last (by decide) fun H2 h2 k2 => ?_
    walk_at "lw"
    refine g_dnew fun d H3 nd s3 hd => ?_
    walk_at "lw"
    refine g_rsfld (s3 _ _ h2) T.cl_Claims T.na_Claims_pins (by decide) fun H4 h4 k4 => ?_
    walk_at "lw"
    have ne : d ≠ p := Ne.symm (ne_of_none h2 nd)
    rw [f_Claims_mk] at h4
    refine k d H4 (by rw [← k2 d ne]; exact nd) h4 (by rw [k4 d ne]; exact hd) fun b o e hb => ?_
    rw [k4 b hb]
    refine s3 _ _ ?_
    rw [k2 b hb]; exact e
theorem ok_Uploads___init__ (T : Txt w K mg C_Claims C_Collector C_Store C_Uploads C_Registry C_Refused C_Malformed a_KINDS a_BELOW a_CLAIMED) : Mak P w K mg base 1 "Uploads" C_Uploads (spUInit C_Uploads) := by
  refine mak_mk T.i_Uploads sc_Uploads___init__ (fun vs H Q E h => ?_) (fun f cdv A outer s H vs Q E hr h => ?_)
  · obtain ⟨p, dx, rfl, _⟩ := h
    rfl
  · obtain ⟨p, dx, rfl, hp, k⟩ := h
    refine ⟨_, (pss_cons (ps_fld (pv 0) (pe_int) rfl)
      (pss_one (ps_fld (pv 0) (pe_dnewK) rfl))), ?_⟩
    walk_at "lw"
    refine g_rsfld hp T.cl_Uploads T.na_Uploads_last (by decide) fun H2 h2 k2 => ?_
    walk_at "lw"
    refine g_dnew fun d H3 nd s3 hd => ?_
    walk_at "lw"
    refine g_rsfld (s3 _ _ h2) T.cl_Uploads T.na_Uploads_texts (by decide) fun H4 h4 k4 => ?_
    walk_at "lw"
    have ne : d ≠ p := Ne.symm (ne_of_none h2 nd)
    rw [f_Uploads_mk] at h4
    refine k d H4 (by rw [← k2 d ne]; exact nd) h4 (by rw [k4 d ne]; exact hd) fun b o e hb => ?_
    rw [k4 b hb]
    refine s3 _ _ ?_
    rw [k2 b hb]; exact e
theorem ok_Claims_begin (T : Txt w K mg C_Claims C_Collector C_Store C_Uploads C_Registry C_Refused C_Malformed a_KINDS a_BELOW a_CLAIMED) : Met P w K mg base 1 C_Claims "begin" (spCBegin C_Claims) := by
  refine met_mk T.cl_Claims T.m_Claims_begin sc_Claims_begin (fun vs H Q E h => ?_) (fun f cdv A outer s H vs Q E hr h => ?_)
  · obtain ⟨c, p, n, ks, L, rfl, _⟩ := h
    rfl
  · obtain ⟨c, p, n, ks, L, rfl, W, hn, hz, k⟩ := h
    obtain ⟨dx, d, B, h1, h2, h3, h4, h5, h6, h7⟩ := W.ex
    have hu := hu_of hr
    refine ⟨_, (pss_cons (ps_fldaug (pv 0) (pe_int) in_add)
      (pss_cons (ps_dput hu (pe_fld (pv 0) rfl) (pe_fld (pv 0) rfl) (pe_dnewK) rfl)
      (pss_one (ps_ret (pe_fld (pv 0) rfl))))), ?_⟩
    walk_at "lw"
    refine g_rfldaugI h2 T.cl_Claims T.na_Claims_last f_Claims_last f_Claims_len (fun R r => by walk_at "lw"; exact r) fun H2 p2 k2 => ?_
    rw [f_Claims_put_last] at p2
    have npd : d ≠ p := Ne.symm (ne_of h2 h4 (by intro z; cases z))
    have d2 : H2 d = some (.dK (mkD ks fun i => .ref (B i))) := by rw [k2 d npd]; exact h4
    walk_at "lw"
    refine g_dnew fun q H3 nq s3 hq => ?_
    walk_at "lw"
    refine g_rfld (s3 _ _ p2) T.cl_Claims T.na_Claims_pins f_Claims_pins ?_
    walk_at "lw"
    refine g_rfld (s3 _ _ p2) T.cl_Claims T.na_Claims_last f_Claims_last ?_
    refine g_rdputI (s3 _ _ d2) (by rw [mkD_len]; omega) fun H4 d4 k4 => ?_
    rw [putK_mkD_new hn] at d4
    have p4 : H4 p = some (.ins C_Claims dx (f_Claims (.int (n + 1)) (.ref d))) := by rw [k4 p npd.symm]; exact s3 _ _ p2
    walk_at "lw"
    refine g_rfld p4 T.cl_Claims T.na_Claims_last f_Claims_last ?_
    walk_at "lw"
    have qd : q ≠ d := Ne.symm (ne_of_none d2 nq)
    have qp : q ≠ p := Ne.symm (ne_of_none p2 nq)
    have nq0 : H q = none := by rw [← k2 q qp]; exact nq
    have q4 : H4 q = some (.dK []) := by rw [k4 q qd]; exact hq
    have st1 : Stp (fun i => i = 4) c c H H2 := Stp.ch h2 h1 (fun xs z => by cases z) p2 k2
    have st2 : Stp (fun i => i = 4) c (Stp.paint c q 4) H2 H3 := L2x_sameN s3 nq
    have st3 : Stp (fun i => i = 4) (Stp.paint c q 4) (Stp.paint c q 4) H3 H4 := Stp.ch (s3 _ _ d2) (by rw [Stp.paint_ne (Ne.symm qd)]; exact h3) (fun xs z => by cases z) d4 k4
    refine k (Stp.paint c q 4) H4 ⟨dx, d, fun j => if j = n + 1 then q else B j, by rw [Stp.paint_ne qp.symm]; exact h1, p4, by rw [Stp.paint_ne qd.symm]; exact h3, ?_, ?_, ?_, ?_⟩ ((st1.trans st2).trans st3)
    · rw [d4]
      congr 2
      refine mkD_congr fun j hj => ?_
      by_cases e : j = n + 1 <;> simp [e]
    · intro i hi
      by_cases e : i = n + 1
      · simp only [if_pos e]
        exact ⟨Stp.paint_same, q4⟩
      · simp only [if_neg e]
        have hi' : i ∈ ks := by
          rcases List.mem_append.mp hi with z | z
          · exact z
          · exact absurd (List.mem_singleton.mp z) e
        obtain ⟨a, b⟩ := h5 i hi'
        have b2 : H2 (B i) = some (.dK (setD (L i))) := by rw [k2 _ (ne_of b h2 (by intro z; cases z))]; exact b
        exact ⟨by rw [Stp.paint_ne (ne_of_none b2 nq)]; exact a, by rw [k4 _ (h7 i hi')]; exact s3 _ _ b2⟩
    · intro i hi j hj e
      have mem : ∀ i, i ∈ ks ++ [n + 1] → i ≠ n + 1 → i ∈ ks ∧ B i ≠ q := fun i hi e => by
        have hi' : i ∈ ks := by
          rcases List.mem_append.mp hi with z | z
          · exact z
          · exact absurd (List.mem_singleton.mp z) e
        exact ⟨hi', ne_of_none (h5 i hi').2 nq0⟩
      by_cases e1 : i = n + 1
      · by_cases e2 : j = n + 1
        · rw [e1, e2]
        · simp only [if_pos e1, if_neg e2] at e
          exact absurd e.symm (mem j hj e2).2
      · by_cases e2 : j = n + 1
        · simp only [if_neg e1, if_pos e2] at e
          exact absurd e (mem i hi e1).2
        · simp only [if_neg e1, if_neg e2] at e
          exact h6 i (mem i hi e1).1 j (mem j hj e2).1 e
    · intro i hi
      by_cases e : i = n + 1
      · simp only [if_pos e]
        exact qd
      · simp only [if_neg e]
        rcases List.mem_append.mp hi with z | z
        · exact h7 i z
        · exact absurd (List.mem_singleton.mp z) e
theorem ok_Claims_is_open (T : Txt w K mg C_Claims C_Collector C_Store C_Uploads C_Registry C_Refused C_Malformed a_KINDS a_BELOW a_CLAIMED) : Met P w K mg base 1 C_Claims "is_open" (spCOpen C_Claims) := by
  refine met_mk T.cl_Claims T.m_Claims_is_open sc_Claims_is_open (fun vs H Q E h => ?_) (fun f cdv A outer s H vs Q E hr h => ?_)
  · obtain ⟨c, p, n, i, ks, L, rfl, _⟩ := h
    rfl
  · obtain ⟨c, p, n, i, ks, L, rfl, W, k⟩ := h
    obtain ⟨dx, d, B, h1, h2, h3, h4, h5, h6, h7⟩ := W.ex
    have hu := hu_of hr
    refine ⟨_, (pss_one (ps_ret (pe_cmp (pc_din hu (pv 1) (pe_fld (pv 0) rfl)) rfl))), ?_⟩
    walk_at "lw"
    refine g_rfld h2 T.cl_Claims T.na_Claims_pins f_Claims_pins ?_
    refine g_rdinI (.of h4) ?_
    walk_at "lw"
    rw [valV_mkD, show (if i ∈ ks then some (V.ref (B i)) else none).isSome = decide (i ∈ ks) by split <;> simp_all]
    exact k
theorem ok_Claims_pin (T : Txt w K mg C_Claims C_Collector C_Store C_Uploads C_Registry C_Refused C_Malformed a_KINDS a_BELOW a_CLAIMED) : Met P w K mg base 1 C_Claims "pin" (spCPin C_Claims) := by
  refine met_mk T.cl_Claims T.m_Claims_pin sc_Claims_pin (fun vs H Q E h => ?_) (fun f cdv A outer s H vs Q E hr h => ?_)
  · obtain ⟨c, p, n, i, x, ks, L, rfl, _⟩ := h
    rfl
  · obtain ⟨c, p, n, i, x, ks, L, rfl, W, hi, hz, k⟩ := h
    obtain ⟨dx, d, B, h1, h2, h3, h4, h5, h6, h7⟩ := W.ex
    have hu := hu_of hr
    refine ⟨_, (pss_one (ps_dput hu (pe_dget hu (pe_fld (pv 0) rfl) (pv 1) (fun _ _ => rfl)) (pv 2) (pe_bl) rfl)), ?_⟩
    walk_at "lw"
    refine g_rfld h2 T.cl_Claims T.na_Claims_pins f_Claims_pins ?_
    walk_at "lw"
    refine g_rdgetI (.of h4) (by rw [valV_mkD, if_pos hi]) ?_
    walk_at "lw"
    obtain ⟨ca, ha⟩ := h5 i hi
    refine g_rdputS ha (by unfold setD; rw [mkS_len]; omega) fun H2 a2 k2 => ?_
    rw [setD_put] at a2
    walk_at "lw"
    refine k H2 ⟨dx, d, B, h1, by rw [k2 _ (ne_of h2 ha (by intro z; cases z))]; exact h2, h3, by rw [k2 _ (Ne.symm (h7 i hi))]; exact h4, fun j hj => ?_, h6, h7⟩ (Stp.ch ha ca (fun xs z => by cases z) a2 k2)
    by_cases e : j = i
    · subst e
      simp only [if_pos]
      exact ⟨ca, a2⟩
    · simp only [if_neg e]
      obtain ⟨cj, hj'⟩ := h5 j hj
      exact ⟨cj, by rw [k2 _ (fun z => e (h6 j hj i hi z))]; exact hj'⟩
theorem ok_Claims_end (T : Txt w K mg C_Claims C_Collector C_Store C_Uploads C_Registry C_Refused C_Malformed a_KINDS a_BELOW a_CLAIMED) : Met P w K mg base 1 C_Claims "end" (spCEnd C_Claims) := by
  refine met_mk T.cl_Claims T.m_Claims_end sc_Claims_end (fun vs H Q E h => ?_) (fun f cdv A outer s H vs Q E hr h => ?_)
  · obtain ⟨c, p, n, i, ks, L, rfl, _⟩ := h
    rfl
  · obtain ⟨c, p, n, i, ks, L, rfl, W, k⟩ := h
    obtain ⟨dx, d, B, h1, h2, h3, h4, h5, h6, h7⟩ := W.ex
    have hu := hu_of hr
    refine ⟨_, (pss_one (ps_if (pt_cmp (pc_din hu (pv 1) (pe_fld (pv 0) rfl))) (pss_one (ps_ddel (pe_fld (pv 0) rfl) (pv 1))) pss_nil)), ?_⟩
    walk_at "lw"
    refine g_rfld h2 T.cl_Claims T.na_Claims_pins f_Claims_pins ?_
    refine g_rdinI (.of h4) ?_
    rw [valV_mkD]
    by_cases hi : i ∈ ks
    · rw [if_pos hi]
      refine ⟨true, rfl, ?_⟩
      walk_at "lw"
      refine g_rfld h2 T.cl_Claims T.na_Claims_pins f_Claims_pins ?_
      walk_at "lw"
      refine g_rddelI h4 (by rw [valV_mkD, if_pos hi]; rfl) fun H2 d2 k2 => ?_
      rw [dropK_mkD] at d2
      walk_at "lw"
      have sub : ∀ j, j ∈ ks.filter (fun j => decide (j ≠ i)) → j ∈ ks := fun j hj => (List.mem_filter.mp hj).1
      refine k H2 ⟨dx, d, B, h1, by rw [k2 _ (ne_of h2 h4 (by intro z; cases z))]; exact h2, h3, d2, fun j hj => ?_, fun j hj l hl => h6 j (sub j hj) l (sub l hl), fun j hj => h7 j (sub j hj)⟩ (Stp.ch h4 h3 (fun xs z => by cases z) d2 k2)
      obtain ⟨a, b⟩ := h5 j (sub j hj)
      exact ⟨a, by rw [k2 _ (h7 j (sub j hj))]; exact b⟩
    · rw [if_neg hi]
      refine ⟨false, rfl, ?_⟩
      walk_at "lw"
      have e : ks.filter (fun j => decide (j ≠ i)) = ks := List.filter_eq_self.mpr fun j hj => decide_eq_true fun z => hi (by rw [← z]; exact hj)
      rw [e] at k
      exact k H W Stp.refl
theorem ok_Claims_numbers (T : Txt w K mg C_Claims C_Collector C_Store C_Uploads C_Registry C_Refused C_Malformed a_KINDS a_BELOW a_CLAIMED) : Met P w K mg base 1 C_Claims "numbers" (spCNumbers C_Claims) := by
  refine met_mk T.cl_Claims T.m_Claims_numbers sc_Claims_numbers (fun vs H Q E h => ?_) (fun f cdv A outer s H vs Q E hr h => ?_)
  · obtain ⟨c, p, n, ks, L, rfl, _⟩ := h
    rfl
  · obtain ⟨c, p, n, ks, L, rfl, W, hz, k⟩ := h
    obtain ⟨dx, d, B, h1, h2, h3, h4, h5, h6, h7⟩ := W.ex
    refine ⟨_, (pss_one (ps_ret (pe_callB (call_sortedDI' rfl) (by rfl) T.n_sorted (by decide +kernel) (pa_cons (pe_fld (pv 0) rfl) pa_nil)))), ?_⟩
    walk_at "lw"
    refine g_rfld h2 T.cl_Claims T.na_Claims_pins f_Claims_pins ?_
    walk_at "lw"
    refine ⟨d, _, ks, rfl, .of h4, mkD_keys, hz, fun ys r hp hs hr => ?_⟩
    walk_at "lw"
    exact k r ys _ hp hs (Same.new hr) upd_same
/-- what is found behind the first i claims -/
def fnd (ks : List Int) (L : Int → List Str) (i : Nat) : List Str := (ks.take i).foldl (fun a k => addTo a (ded (L k))) []
theorem fnd_next {ks : List Int} {L : Int → List Str} {i : Nat} {x : Int} (h : ks[i]? = some x) : fnd ks L (i + 1) = addTo (fnd ks L i) (ded (L x)) := by
  unfold fnd
  rw [take_ok h, List.foldl_append]
  rfl
theorem fnd_nodup {ks : List Int} {L : Int → List Str} : ∀ {i : Nat}, (fnd ks L i).Nodup := by
  intro i
  unfold fnd
  generalize ks.take i = l
  have : ∀ (l : List Int) (a : List Str), a.Nodup → (l.foldl (fun a k => addTo a (ded (L k))) a).Nodup := by
    intro l
    induction l with
    | nil => intro a h; exact h
    | cons y r ih => intro a h; exact ih _ (addTo_nodup _ _ h)
  exact this l [] List.nodup_nil
theorem ded_mem {l : List Str} {x : Str} : x ∈ ded l ↔ x ∈ l := by
  unfold ded
  rw [addTo_mem]
  simp
theorem fnd_mem {ks : List Int} {L : Int → List Str} {x : Str} : x ∈ fnd ks L ks.length ↔ ∃ i ∈ ks, x ∈ L i := by
  unfold fnd
  rw [List.take_length]
  have : ∀ (l : List Int) (a : List Str), x ∈ l.foldl (fun a k => addTo a (ded (L k))) a ↔ x ∈ a ∨ ∃ i ∈ l, x ∈ L i := by
    intro l
    induction l with
    | nil => intro a; simp
    | cons y r ih =>
      intro a
      show x ∈ r.foldl _ (addTo a (ded (L y))) ↔ _
      rw [ih, addTo_mem, ded_mem, or_assoc]
      simp
  rw [this]
  simp
theorem fnd_in {ks : List Int} {L : Int → List Str} {D : List Str} (h : ∀ i ∈ ks, ∀ x ∈ L i, x ∈ D) : ∀ {i : Nat}, ∀ x ∈ fnd ks L i, x ∈ D := by
  intro i x
  unfold fnd
  have : ∀ (l : List Int) (a : List Str), (∀ i ∈ l, i ∈ ks) → (∀ y ∈ a, y ∈ D) → ∀ y ∈ l.foldl (fun a k => addTo a (ded (L k))) a, y ∈ D := by
    intro l
    induction l with
    | nil => intro a _ h; exact h
    | cons y r ih =>
      intro a hl ha
      refine ih _ (fun i hi => hl i (List.mem_cons_of_mem _ hi)) fun z hz => ?_
      rcases (addTo_mem _ _ _).mp hz with q | q
      · exact ha z q
      · exact h y (hl y List.mem_cons_self) z (ded_mem.mp q)
  exact this _ [] (fun i hi => List.mem_of_mem_take hi) (fun y hy => nomatch hy) x
theorem ok_Claims_pinned (T : Txt w K mg C_Claims C_Collector C_Store C_Uploads C_Registry C_Refused C_Malformed a_KINDS a_BELOW a_CLAIMED) : Met P w K mg base 1 C_Claims "pinned" (spCPinned C_Claims) := by
  refine met_mk T.cl_Claims T.m_Claims_pinned sc_Claims_pinned (fun vs H Q E h => ?_) (fun f cdv A outer s H vs Q E hr h => ?_)
  · obtain ⟨c, p, n, ks, L, D, rfl, _⟩ := h
    rfl
  · obtain ⟨c, p, n, ks, L, D, rfl, W, hD, hz, k⟩ := h
    obtain ⟨dx, d, B, h1, h2, h3, h4, h5, h6, h7⟩ := W.ex
    have hu := hu_of hr
    refine ⟨_, (pss_cons (ps_set (i := 1) sc_Claims_pinned.nd rfl (by first | exact Or.inl rfl | exact Or.inr rfl) (pe_dnewK))
      (pss_cons (ps_lock (ps_for PassesOwn.never rfl (pi_keys (pe_fld (pv 0) rfl)) (pg_name (i := 2) sc_Claims_pinned.nd rfl (by first | exact Or.inl rfl | exact Or.inr rfl)) (pss_one (ps_lock (ps_for PassesOwn.never rfl (pi_keys (pe_dget hu (pe_fld (pv 0) rfl) (pv 2) (fun _ _ => rfl))) (pg_name (i := 3) sc_Claims_pinned.nd rfl (by first | exact Or.inl rfl | exact Or.inr rfl)) (pss_one (ps_dput hu (pv 1) (pv 3) (pe_bl) rfl)))))))
      (pss_one (ps_ret (pe_callB (call_sortedD' rfl) (by rfl) T.n_sorted (by decide +kernel) (pa_cons (pv 1) pa_nil)))))), ?_⟩
    walk_at "lw"
    refine g_dnew fun q H2 nq s2 hq => ?_
    walk_at "lw"
    have p2 := s2 _ _ h2
    have d2 := s2 _ _ h4
    have qd : q ≠ d := Ne.symm (ne_of_none h4 nq)
    have qp : q ≠ p := Ne.symm (ne_of_none h2 nq)
    refine g_lock d2 fun od H3 d3 k3 => ?_
    have p3 : H3 p = some (.ins C_Claims dx (f_Claims (.int n) (.ref d))) := by rw [k3 p (ne_of h2 h4 (by intro z; cases z))]; exact p2
    walk_at "lw"
    refine g_rfld p3 T.cl_Claims T.na_Claims_pins f_Claims_pins ?_
    refine g_ritK d3 ?_
    refine for_at walk_ks (fun i σ H' => H' d = some (.frz od (.dK (mkD ks fun i => .ref (B i)))) ∧ H' q = some (.dK (mkS (fnd ks L i) fun _ => .bl true)) ∧ (∀ b, b ≠ q → H' b = H3 b) ∧ ∃ v2 v3 : Option V, σ = [some (.ref p), some (.ref q), v2, v3]) ⟨d3, by rw [k3 q qd]; exact hq, fun b _ => rfl, none, none, rfl⟩ (fun i σ H' h => h.1) ?_ ?_
    · rintro i x σ H' hxi ⟨d4, q4, k4, v2, v3, rfl⟩
      rw [mkD_kV] at hxi
      obtain ⟨j, hj, rfl⟩ := map_at hxi
      have hjm := List.mem_of_getElem? hj
      obtain ⟨ca, ha⟩ := h5 j hjm
      have aq : B j ≠ q := ne_of_none ha nq
      have ad := h7 j hjm
      have a4 : H' (B j) = some (.dK (setD (L j))) := by rw [k4 _ aq, k3 _ ad]; exact s2 _ _ ha
      have p4 : H' p = some (.ins C_Claims dx (f_Claims (.int n) (.ref d))) := by rw [k4 p qp.symm]; exact p3
      walk_at "lw"
      refine g_lock a4 fun oa H5 a5 k5 => ?_
      walk_at "lw"
      refine g_rfld (a := p) (by rw [k5 p (ne_of p4 a4 (by intro z; cases z))]; exact p4) T.cl_Claims T.na_Claims_pins f_Claims_pins ?_
      walk_at "lw"
      refine g_rdgetI (a := d) (.inr ⟨od, by rw [k5 d ad.symm]; exact d4⟩) (by rw [valV_mkD, if_pos hjm]) ?_
      refine g_ritK a5 ?_
      refine for_at walk_ks (fun m σ H6 => H6 (B j) = some (.frz oa (.dK (setD (L j)))) ∧ H6 q = some (.dK (mkS (addTo (fnd ks L i) ((ded (L j)).take m)) fun _ => .bl true)) ∧ (∀ b, b ≠ q → H6 b = H5 b) ∧ ∃ v3 : Option V, σ = [some (.ref p), some (.ref q), some (.int j), v3]) ⟨a5, by rw [k5 q aq.symm]; exact q4, fun b _ => rfl, _, rfl⟩ (fun i σ H' h => h.1) ?_ ?_
      · rintro m x σ H6 hxm ⟨a6, q6, k6, v3, rfl⟩
        rw [show ((setD (L j)).map fun kv => kV kv.1) = (ded (L j)).map V.str from mkS_kV] at hxm
        obtain ⟨y, hy, rfl⟩ := map_at hxm
        walk_at "lw"
        refine g_rdputS q6 ?_ fun H7 q7 k7 => ?_
        · rw [mkS_len]
          have : (addTo (fnd ks L i) ((ded (L j)).take m)).length ≤ D.length := nodup_few (addTo_nodup _ _ fnd_nodup) fun z hz => by
            rcases (addTo_mem _ _ _).mp hz with e | e
            · exact fnd_in hD z e
            · exact hD j hjm z (ded_mem.mp (List.mem_of_mem_take e))
          omega
        · walk_at "lw"
          refine ⟨by rw [k7 _ aq]; exact a6, ?_, fun b hb => by rw [k7 b hb]; exact k6 b hb, _, rfl⟩
          rw [q7, take_ok hy, addTo_snoc]
          by_cases e : y ∈ addTo (fnd ks L i) ((ded (L j)).take m)
          · rw [if_pos e, putK_mkS_old e]
            congr 2
            exact mkS_congr fun z _ => by split <;> rfl
          · rw [if_neg e, putK_mkS_new e]
            congr 2
            exact mkS_congr fun z _ => by split <;> rfl
      · rintro σ H6 ⟨a6, q6, k6, v3, rfl⟩
        rw [show ((setD (L j)).map fun kv => kV kv.1).length = (ded (L j)).length by unfold setD; rw [mkS_kV, List.length_map], List.take_length, ← fnd_next hj] at q6
        refine ⟨a6, ?_⟩
        have fin : ∀ b, b ≠ q → (upd H6 (B j) (.dK (setD (L j)))) b = H3 b := fun b hb => by
          by_cases e : b = B j
          · subst e
            rw [upd_same, ← k4 _ hb, a4]
          · rw [upd_ne e, k6 b hb, k5 b e, k4 b hb]
        show _ ∧ _
        exact ⟨by rw [fin d qd.symm]; exact d3, by rw [upd_ne aq.symm]; exact q6, fin, _, _, rfl⟩
    · rintro σ H6 ⟨d6, q6, k6, v2, v3, rfl⟩
      rw [mkD_kV, List.length_map] at q6
      refine ⟨d6, ?_⟩
      have fin : ∀ b, b ≠ q → (upd H6 d (.dK (mkD ks fun i => .ref (B i)))) b = H2 b := fun b hb => by
        by_cases e : b = d
        · subst e
          rw [upd_same, d2]
        · rw [upd_ne e, k6 b hb, k3 b e]
      have q7 : (upd H6 d (.dK (mkD ks fun i => .ref (B i)))) q = some (.dK (mkS (fnd ks L ks.length) fun _ => .bl true)) := by rw [upd_ne qd]; exact q6
      generalize upd H6 d (.dK (mkD ks fun i => .ref (B i))) = H7 at fin q7
      walk_at "lw"
      have hl : (fnd ks L ks.length).length ≤ D.length := nodup_few fnd_nodup fun z hz => fnd_in hD z hz
      refine ⟨q, _, _, rfl, .of q7, mkS_keys, by omega, fun ys r hp hs hr => ?_⟩
      walk_at "lw"
      have sm : Same H H7 := fun b o e => by
        rw [fin b (ne_of_none e nq)]
        exact s2 _ _ e
      exact k r ys _ (hp.nodup_iff.mpr fnd_nodup) hs (fun x => by rw [hp.mem_iff, fnd_mem]) (sm.thenNew hr) upd_same
theorem ok_Uploads_begin (T : Txt w K mg C_Claims C_Collector C_Store C_Uploads C_Registry C_Refused C_Malformed a_KINDS a_BELOW a_CLAIMED) : Met P w K mg base 1 C_Uploads "begin" (spUBegin C_Uploads) := by
  refine met_mk T.cl_Uploads T.m_Uploads_begin sc_Uploads_begin (fun vs H Q E h => ?_) (fun f cdv A outer s H vs Q E hr h => ?_)
  · obtain ⟨c, p, n, ts, X, rfl, _⟩ := h
    rfl
  · obtain ⟨c, p, n, ts, X, rfl, W, hn, hz, k⟩ := h
    obtain ⟨dx, d, h1, h2, h3, h4⟩ := W.ex
    have hu := hu_of hr
    refine ⟨_, (pss_cons (ps_fldaug (pv 0) (pe_int) in_add)
      (pss_cons (ps_dput hu (pe_fld (pv 0) rfl) (pe_fld (pv 0) rfl) (pe_str) rfl)
      (pss_one (ps_ret (pe_fld (pv 0) rfl))))), ?_⟩
    walk_at "lw"
    refine g_rfldaugI h2 T.cl_Uploads T.na_Uploads_last f_Uploads_last f_Uploads_len (fun R r => by walk_at "lw"; exact r) fun H2 p2 k2 => ?_
    rw [f_Uploads_put_last] at p2
    have npd : d ≠ p := Ne.symm (ne_of h2 h4 (by intro z; cases z))
    have d2 : H2 d = some (.dK (mkD ts fun i => .str (SX.S (X i)))) := by rw [k2 d npd]; exact h4
    walk_at "lw"
    refine g_rfld p2 T.cl_Uploads T.na_Uploads_texts f_Uploads_texts ?_
    walk_at "lw"
    refine g_rfld p2 T.cl_Uploads T.na_Uploads_last f_Uploads_last ?_
    refine g_rdputI d2 (by rw [mkD_len]; omega) fun H4 d4 k4 => ?_
    rw [putK_mkD_new hn] at d4
    have p4 : H4 p = some (.ins C_Uploads dx (f_Uploads (.int (n + 1)) (.ref d))) := by rw [k4 p npd.symm]; exact p2
    walk_at "lw"
    refine g_rfld p4 T.cl_Uploads T.na_Uploads_last f_Uploads_last ?_
    walk_at "lw"
    have st1 : Stp (fun i => i = 3) c c H H2 := Stp.ch h2 h1 (fun xs z => by cases z) p2 k2
    have st3 : Stp (fun i => i = 3) c c H2 H4 := Stp.ch d2 h3 (fun xs z => by cases z) d4 k4
    refine k H4 ⟨dx, d, h1, p4, h3, ?_⟩ (st1.trans st3)
    rw [d4]
    congr 2
    refine mkD_congr fun j hj => ?_
    by_cases e : j = n + 1
    · simp only [if_pos e]
      rw [← show ("" : Str) = SX.S [] by decide +kernel]
    · simp only [if_neg e]
theorem ok_Uploads_finish (T : Txt w K mg C_Claims C_Collector C_Store C_Uploads C_Registry C_Refused C_Malformed a_KINDS a_BELOW a_CLAIMED) : Met P w K mg base 1 C_Uploads "finish" (spUFin C_Uploads) := by
  refine met_mk T.cl_Uploads T.m_Uploads_finish sc_Uploads_finish (fun vs H Q E h => ?_) (fun f cdv A outer s H vs Q E hr h => ?_)
  · obtain ⟨c, p, n, u, ts, X, rfl, _⟩ := h
    rfl
  · obtain ⟨c, p, n, u, ts, X, rfl, W, kn, ky⟩ := h
    obtain ⟨dx, d, h1, h2, h3, h4⟩ := W.ex
    have hu := hu_of hr
    refine ⟨_, (pss_cons (ps_if (pt_cmp (pc_dnotin hu (pv 1) (pe_fld (pv 0) rfl))) (pss_one (ps_ret (pe_non))) pss_nil)
      (pss_cons (ps_set (i := 2) sc_Uploads_finish.nd rfl (by first | exact Or.inl rfl | exact Or.inr rfl) (pe_dget hu (pe_fld (pv 0) rfl) (pv 1) (fun _ _ => rfl)))
      (pss_cons (ps_ddel (pe_fld (pv 0) rfl) (pv 1))
      (pss_one (ps_ret (pv 2)))))), ?_⟩
    walk_at "lw"
    refine g_rfld h2 T.cl_Uploads T.na_Uploads_texts f_Uploads_texts ?_
    refine g_rdnotinI (.of h4) ?_
    rw [valV_mkD]
    by_cases hi : u ∈ ts
    · rw [if_pos hi]
      refine ⟨false, rfl, ?_⟩
      walk_at "lw"
      refine g_rfld h2 T.cl_Uploads T.na_Uploads_texts f_Uploads_texts ?_
      walk_at "lw"
      refine g_rdgetI (.of h4) (by rw [valV_mkD, if_pos hi]) ?_
      walk_at "lw"
      refine g_rfld h2 T.cl_Uploads T.na_Uploads_texts f_Uploads_texts ?_
      walk_at "lw"
      refine g_rddelI h4 (by rw [valV_mkD, if_pos hi]; rfl) fun H2 d2 k2 => ?_
      rw [dropK_mkD] at d2
      walk_at "lw"
      exact ky hi H2 ⟨dx, d, h1, by rw [k2 _ (ne_of h2 h4 (by intro z; cases z))]; exact h2, h3, d2⟩ (Stp.ch h4 h3 (fun xs z => by cases z) d2 k2)
    · rw [if_neg hi]
      refine ⟨true, rfl, ?_⟩
      walk_at "lw"
      exact kn hi
theorem ok_Uploads_forget (T : Txt w K mg C_Claims C_Collector C_Store C_Uploads C_Registry C_Refused C_Malformed a_KINDS a_BELOW a_CLAIMED) : Met P w K mg base 1 C_Uploads "forget" (spUForget C_Uploads) := by
  refine met_mk T.cl_Uploads T.m_Uploads_forget sc_Uploads_forget (fun vs H Q E h => ?_) (fun f cdv A outer s H vs Q E hr h => ?_)
  · obtain ⟨c, p, n, ts, X, rfl, _⟩ := h
    rfl
  · obtain ⟨c, p, n, ts, X, rfl, W, k⟩ := h
    obtain ⟨dx, d, h1, h2, h3, h4⟩ := W.ex
    refine ⟨_, (pss_one (ps_fld (pv 0) (pe_dnewK) rfl)), ?_⟩
    walk_at "lw"
    refine g_dnew fun q H2 nq s2 hq => ?_
    walk_at "lw"
    have qp : q ≠ p := Ne.symm (ne_of_none h2 nq)
    refine g_rsfld (s2 _ _ h2) T.cl_Uploads T.na_Uploads_texts f_Uploads_len fun H3 p3 k3 => ?_
    rw [f_Uploads_put_texts] at p3
    walk_at "lw"
    have st2 : Stp (fun i => i = 3) c (Stp.paint c q 3) H H2 := L2x_sameN s2 nq
    have st3 : Stp (fun i => i = 3) (Stp.paint c q 3) (Stp.paint c q 3) H2 H3 := Stp.ch (s2 _ _ h2) (by rw [Stp.paint_ne qp.symm]; exact h1) (fun xs z => by cases z) p3 k3
    exact k (Stp.paint c q 3) H3 ⟨dx, q, by rw [Stp.paint_ne qp.symm]; exact h1, p3, Stp.paint_same, by rw [k3 q qp]; exact hq⟩ (st2.trans st3)
theorem ok_Uploads_add_part (T : Txt w K mg C_Claims C_Collector C_Store C_Uploads C_Registry C_Refused C_Malformed a_KINDS a_BELOW a_CLAIMED) : Met P w K mg base 1 C_Uploads "add_part" (spUAdd C_Uploads) := by
  refine met_mk T.cl_Uploads T.m_Uploads_add_part sc_Uploads_add_part (fun vs H Q E h => ?_) (fun f cdv A outer s H vs Q E hr h => ?_)
  · obtain ⟨c, p, n, u, a, t, ts, X, rfl, _⟩ := h
    rfl
  · obtain ⟨c, p, n, u, a, t, ts, X, rfl, W, hz, hl, kn, ke, ky⟩ := h
    obtain ⟨dx, d, h1, h2, h3, h4⟩ := W.ex
    have hu := hu_of hr
    refine ⟨_, (pss_cons (ps_if (pt_cmp (pc_dnotin hu (pv 1) (pe_fld (pv 0) rfl))) (pss_one (ps_ret (pe_non))) pss_nil)
      (pss_cons (ps_if (pt_cmpR op_eq (pv 2) (pe_callB call_len_str' (by rfl) T.n_len (by decide +kernel) (pa_cons (pe_dget hu (pe_fld (pv 0) rfl) (pv 1) (fun _ _ => rfl)) pa_nil)) (nomark _)) (pss_one (ps_dput hu (pe_fld (pv 0) rfl) (pv 1) (pe_op op_cat_str (pe_dget hu (pe_fld (pv 0) rfl) (pv 1) (fun _ _ => rfl)) (pv 3)) rfl)) pss_nil)
      (pss_one (ps_ret (pe_callB call_len_str' (by rfl) T.n_len (by decide +kernel) (pa_cons (pe_dget hu (pe_fld (pv 0) rfl) (pv 1) (fun _ _ => rfl)) pa_nil)))))), ?_⟩
    walk_at "lw"
    refine g_rfld h2 T.cl_Uploads T.na_Uploads_texts f_Uploads_texts ?_
    refine g_rdnotinI (.of h4) ?_
    rw [valV_mkD]
    by_cases hi : u ∈ ts
    · rw [if_pos hi]
      refine ⟨false, rfl, ?_⟩
      walk_at "lw"
      refine g_rfld h2 T.cl_Uploads T.na_Uploads_texts f_Uploads_texts ?_
      walk_at "lw"
      refine g_rdgetI (.of h4) (by rw [valV_mkD, if_pos hi]) ?_
      walk_at "lw"
      refine g_lenT (by rw [SX.S_len]; exact Nat.le_trans (show (X u).length ≤ 100000 by omega) (by decide)) ?_
      rw [SX.S_len]
      walk_at "lw"
      refine if2 (fun he => ?_) (fun he => ?_)
      · have he := int_eq.mp he
        walk_at "lw"
        refine g_rfld h2 T.cl_Uploads T.na_Uploads_texts f_Uploads_texts ?_
        walk_at "lw"
        refine g_rdgetI (.of h4) (by rw [valV_mkD, if_pos hi]) ?_
        walk_at "lw"
        refine g_cat_str (a := SX.S (X u)) (b := SX.S t) (by rw [SX.S_len, SX.S_len]; exact Nat.le_trans hl (by decide)) ?_
        rw [SX.S_cat]
        walk_at "lw"
        refine g_rfld h2 T.cl_Uploads T.na_Uploads_texts f_Uploads_texts ?_
        walk_at "lw"
        refine g_rdputI h4 (by rw [mkD_len]; omega) fun H2 d2 k2 => ?_
        rw [putK_mkD_old hi] at d2
        have p2 : H2 p = some (.ins C_Uploads dx (f_Uploads (.int n) (.ref d))) := by rw [k2 p (ne_of h2 h4 (by intro z; cases z))]; exact h2
        walk_at "lw"
        refine g_rfld p2 T.cl_Uploads T.na_Uploads_texts f_Uploads_texts ?_
        walk_at "lw"
        refine g_rdgetI (.of d2) (by rw [valV_mkD, if_pos hi, if_pos rfl]) ?_
        walk_at "lw"
        refine g_lenT (by rw [SX.S_len, List.length_append]; exact Nat.le_trans hl (by decide)) ?_
        rw [SX.S_len]
        walk_at "lw"
        refine ky hi he H2 ⟨dx, d, h1, p2, h3, ?_⟩ (Stp.ch h4 h3 (fun xs z => by cases z) d2 k2)
        rw [d2]
        congr 2
        refine mkD_congr fun j hj => ?_
        by_cases e : j = u
        · simp only [if_pos e]
        · simp only [if_neg e]
      · have he : a ≠ (X u).length := fun z => he (by rw [z])
        walk_at "lw"
        refine g_rfld h2 T.cl_Uploads T.na_Uploads_texts f_Uploads_texts ?_
        walk_at "lw"
        refine g_rdgetI (.of h4) (by rw [valV_mkD, if_pos hi]) ?_
        walk_at "lw"
        refine g_lenT (by rw [SX.S_len]; exact Nat.le_trans (show (X u).length ≤ 100000 by omega) (by decide)) ?_
        rw [SX.S_len]
        walk_at "lw"
        exact ke hi he
    · rw [if_neg hi]
      refine ⟨true, rfl, ?_⟩
      walk_at "lw"
      exact kn hi
end
end Lw

local macro_rules | `(tactic| walk_at "lw side") => `(tactic| first | assumption | decide | omega | exact Or.inr ⟨by decide, by decide⟩ | exact Or.inl ⟨by decide, by decide⟩ | exact ⟨by decide, by decide⟩ | exact ⟨by omega, by omega⟩)
local macro_rules | `(tactic| walk_at "lw ne") => `(tactic| first | assumption | exact Ne.symm (by assumption) | exact L2.ne_of_none (by assumption) (by assumption) | exact Ne.symm (L2.ne_of_none (by assumption) (by assumption)))
local macro_rules | `(tactic| walk_at "lw hp") => `(tactic| first | assumption | exact L2.upd_same | (refine Eq.trans (L2.upd_ne (by walk_at "lw ne")) ?_; walk_at "lw hp"))
local macro_rules | `(tactic| walk_at "lw sq") => `(tactic| first | assumption | exact L2.SqL.of (by walk_at "lw hp") | exact L2.SqT.of (by walk_at "lw hp"))
local macro_rules | `(tactic| walk_at "lw go") => `(tactic| first
  | (with_reducible refine Lw.g_seq ?_)
  | ((with_reducible refine' Lw.g_var ?h1 ?k1); (case h1 => rfl))
  | (with_reducible refine Lw.g_c ?_)
  | (with_reducible refine Lw.g_op ?_)
  | (with_reducible refine Lw.g_I0 ?_)
  | ((with_reducible refine' Lw.g_I ?h1 ?k1); (case h1 => walk_at "lw side"))
  | ((with_reducible refine' Lw.g_eq ?h1 ?k1); (case h1 => rfl))
  | ((with_reducible refine' Lw.g_ne ?h1 ?k1); (case h1 => rfl))
  | (with_reducible refine Lw.g_nil ?_)
  | (with_reducible refine Lw.g_cons ?_)
  | (with_reducible refine Lw.g_cb ?_)
  | (with_reducible refine Lw.g_call ?_)
  | (with_reducible refine Lw.g_test ?_)
  | (with_reducible refine Lw.g_B ?_)
  | (with_reducible refine Lw.g_exb ?_)
  | (with_reducible refine Lw.g_not ?_)
  | (with_reducible refine Lw.g_and ?_)
  | (with_reducible refine Lw.g_or ?_)
  | (with_reducible refine Lw.g_tup ?_)
  | (with_reducible refine Lw.g_lst ?_)
  | (with_reducible refine Lw.g_ifx ?_)
  | (with_reducible refine Lw.g_fld ?_)
  | (with_reducible refine Lw.g_asg ?_)
  | (with_reducible refine Lw.g_name ?_)
  | (with_reducible refine Lw.g_ret ?_)
  | (with_reducible refine Lw.g_drop ?_)
  | (with_reducible refine Lw.g_next ?_)
  | (with_reducible refine Lw.g_ifs ?_)
  | (with_reducible refine Lw.g_pnx ?_)
  | (with_reducible refine Lw.g_prt ?_)
  | (with_reducible refine Lw.g_pbk ?_)
  | (with_reducible refine Lw.g_pct ?_)
  | (with_reducible refine Lw.g_sl ?_)
  | (with_reducible refine Lw.g_nopart ?_)
  | (with_reducible refine Lw.g_part ?_)
  | (with_reducible refine Lw.g_rpart ?_)
  | (with_reducible refine Lw.g_m1 ?_)
  | (with_reducible refine Lw.g_m0 ?_)
  | (with_reducible refine Lw.g_rstr ?_)
  | (with_reducible refine Lw.g_bm0 ?_)
  | (with_reducible refine Lw.g_bm ?_)
  | (with_reducible refine Lw.g_isN ?_)
  | (with_reducible refine Lw.g_isB ?_)
  | (with_reducible refine Lw.g_notB ?_)
  | (with_reducible refine Lw.g_andV ?_)
  | (with_reducible refine Lw.g_orV ?_)
  | (with_reducible refine Lw.g_notV ?_)
  | (with_reducible refine Lw.g_notN ?_)
  | (with_reducible refine L2.iteT ?_)
  | (with_reducible refine L2.iteF ?_)
  | (with_reducible refine Lw.g_int1 ?_)
  | (with_reducible refine Lw.g_int1b ?_)
  | (with_reducible refine Lw.g_sub ?_)
  | (with_reducible refine Lw.g_forR ?_)
  | (with_reducible refine Lw.g_for ?_)
  | (with_reducible refine Lw.g_lc ?_)
  | (with_reducible refine Lw.g_iStr ?_)
  | (with_reducible refine Lw.g_ritS ?_)
  | (with_reducible refine Lw.g_tyS ?_)
  | (with_reducible refine Lw.g_iList ?_)
  | (with_reducible refine Lw.g_iTup ?_)
  | (with_reducible refine Lw.g_iRng ?_)
  | (with_reducible refine Lw.g_inSg ?_)
  | (with_reducible refine Lw.g_notInSg ?_)
  | (with_reducible refine Lw.g_ord ?_)
  | (with_reducible refine Lw.g_reprB ?_)
  | (with_reducible refine Lw.g_sfld ?_)
  | (with_reducible refine Lw.g_meth ?_)
  | (with_reducible refine Lw.g_make ?_)
  | (with_reducible refine Lw.g_dget ?_)
  | (with_reducible refine Lw.g_din ?_)
  | (with_reducible refine Lw.g_dnotin ?_)
  | (with_reducible refine Lw.g_dput ?_)
  | (with_reducible refine Lw.g_ddel ?_)
  | (with_reducible refine Lw.g_dpop1 ?_)
  | (with_reducible refine Lw.g_dget1 ?_)
  | (with_reducible refine Lw.g_iKeys ?_)
  | (with_reducible refine Lw.g_fldaug ?_)
  | ((with_reducible refine' Lw.g_lenL ?h1 ?k1); (case h1 => walk_at "lw sq"))
  | ((with_reducible refine' Lw.g_lenD ?h1 ?k1); (case h1 => walk_at "lw hp")))
local macro_rules | `(tactic| walk_at "lw") => `(tactic| repeat walk_at "lw go")
local macro_rules | `(tactic| walk_at "lw hp") => `(tactic| first | assumption | exact L2.upd_same | exact L2.Same.at (by assumption) (by walk_at "lw hp") | (refine Eq.trans (L2.upd_ne (by walk_at "lw ne")) ?_; walk_at "lw hp"))
local macro_rules | `(tactic| walk_at "lw go") => `(tactic| first
  | ((with_reducible refine Lw.g_kinT (b := true) (by decide) rfl rfl (by decide +kernel) ?_); intro _ _)
  | ((with_reducible refine Lw.g_kinT (b := false) (by decide) rfl rfl (by decide +kernel) ?_); intro _ _)
  | ((with_reducible refine Lw.g_kninT (b := true) (by decide) rfl rfl (by decide +kernel) ?_); intro _ _)
  | ((with_reducible refine Lw.g_kninT (b := false) (by decide) rfl rfl (by decide +kernel) ?_); intro _ _)
  | ((with_reducible refine Lw.g_kinL (b := true) (by decide) rfl rfl (by decide +kernel) ?_); intro _ _)
  | ((with_reducible refine Lw.g_kinL (b := false) (by decide) rfl rfl (by decide +kernel) ?_); intro _ _)
  | ((with_reducible refine Lw.g_kninL (b := true) (by decide) rfl rfl (by decide +kernel) ?_); intro _ _)
  | ((with_reducible refine Lw.g_kninL (b := false) (by decide) rfl rfl (by decide +kernel) ?_); intro _ _)
  | (with_reducible refine Lw.g_pairs1 ?_)
  | (with_reducible refine Lw.g_pairs0 ?_)
  | (with_reducible refine Lw.g_gcons ?_)
  | (with_reducible refine Lw.g_gnil ?_)
  | (with_reducible refine Lw.ifT (by decide +kernel) ?_)
  | (with_reducible refine Lw.ifF (by decide +kernel) ?_))
local macro_rules | `(tactic| walk_at "lw same") => `(tactic| first | assumption | exact L2.Same.refl _ | (refine L2.Same.trans ?_ (by assumption); walk_at "lw same"))
local macro_rules | `(tactic| walk_at "lw go") => `(tactic| first
  | ((with_reducible refine' Lw.g_rfld (f := "last") ?h1 ?h2 ?h3 Lw.f_Claims_last ?k1); (case h1 => walk_at "lw hp"); (case h2 => exact Lw.Txt.cl_Claims (by assumption)); (case h3 => exact Lw.Txt.na_Claims_last (by assumption)))
  | ((with_reducible refine' Lw.g_rfld (f := "pins") ?h1 ?h2 ?h3 Lw.f_Claims_pins ?k1); (case h1 => walk_at "lw hp"); (case h2 => exact Lw.Txt.cl_Claims (by assumption)); (case h3 => exact Lw.Txt.na_Claims_pins (by assumption)))
  | ((with_reducible refine' Lw.g_rmeth ?h1 (Lw.f_Claims_no (by decide +kernel)) ?k1); (case h1 => walk_at "lw hp")))
local macro_rules | `(tactic| walk_at "lw go") => `(tactic| first
  | ((with_reducible refine' Lw.g_rfld (f := "store") ?h1 ?h2 ?h3 Lw.f_Collector_store ?k1); (case h1 => walk_at "lw hp"); (case h2 => exact Lw.Txt.cl_Collector (by assumption)); (case h3 => exact Lw.Txt.na_Collector_store (by assumption)))
  | ((with_reducible refine' Lw.g_rfld (f := "phase") ?h1 ?h2 ?h3 Lw.f_Collector_phase ?k1); (case h1 => walk_at "lw hp"); (case h2 => exact Lw.Txt.cl_Collector (by assumption)); (case h3 => exact Lw.Txt.na_Collector_phase (by assumption)))
  | ((with_reducible refine' Lw.g_rfld (f := "marked") ?h1 ?h2 ?h3 Lw.f_Collector_marked ?k1); (case h1 => walk_at "lw hp"); (case h2 => exact Lw.Txt.cl_Collector (by assumption)); (case h3 => exact Lw.Txt.na_Collector_marked (by assumption)))
  | ((with_reducible refine' Lw.g_rfld (f := "todo") ?h1 ?h2 ?h3 Lw.f_Collector_todo ?k1); (case h1 => walk_at "lw hp"); (case h2 => exact Lw.Txt.cl_Collector (by assumption)); (case h3 => exact Lw.Txt.na_Collector_todo (by assumption)))
  | ((with_reducible refine' Lw.g_rfld (f := "doomed") ?h1 ?h2 ?h3 Lw.f_Collector_doomed ?k1); (case h1 => walk_at "lw hp"); (case h2 => exact Lw.Txt.cl_Collector (by assumption)); (case h3 => exact Lw.Txt.na_Collector_doomed (by assumption)))
  | ((with_reducible refine' Lw.g_rmeth ?h1 (Lw.f_Collector_no (by decide +kernel)) ?k1); (case h1 => walk_at "lw hp")))
local macro_rules | `(tactic| walk_at "lw go") => `(tactic| first
  | ((with_reducible refine' Lw.g_rfld (f := "blobs") ?h1 ?h2 ?h3 Lw.f_Store_blobs ?k1); (case h1 => walk_at "lw hp"); (case h2 => exact Lw.Txt.cl_Store (by assumption)); (case h3 => exact Lw.Txt.na_Store_blobs (by assumption)))
  | ((with_reducible refine' Lw.g_rmeth ?h1 (Lw.f_Store_no (by decide +kernel)) ?k1); (case h1 => walk_at "lw hp")))
local macro_rules | `(tactic| walk_at "lw go") => `(tactic| first
  | ((with_reducible refine' Lw.g_rfld (f := "last") ?h1 ?h2 ?h3 Lw.f_Uploads_last ?k1); (case h1 => walk_at "lw hp"); (case h2 => exact Lw.Txt.cl_Uploads (by assumption)); (case h3 => exact Lw.Txt.na_Uploads_last (by assumption)))
  | ((with_reducible refine' Lw.g_rfld (f := "texts") ?h1 ?h2 ?h3 Lw.f_Uploads_texts ?k1); (case h1 => walk_at "lw hp"); (case h2 => exact Lw.Txt.cl_Uploads (by assumption)); (case h3 => exact Lw.Txt.na_Uploads_texts (by assumption)))
  | ((with_reducible refine' Lw.g_rmeth ?h1 (Lw.f_Uploads_no (by decide +kernel)) ?k1); (case h1 => walk_at "lw hp")))
local macro_rules | `(tactic| walk_at "lw go") => `(tactic| first
  | ((with_reducible refine' Lw.g_rfld (f := "store") ?h1 ?h2 ?h3 Lw.f_Registry_store ?k1); (case h1 => walk_at "lw hp"); (case h2 => exact Lw.Txt.cl_Registry (by assumption)); (case h3 => exact Lw.Txt.na_Registry_store (by assumption)))
  | ((with_reducible refine' Lw.g_rfld (f := "names") ?h1 ?h2 ?h3 Lw.f_Registry_names ?k1); (case h1 => walk_at "lw hp"); (case h2 => exact Lw.Txt.cl_Registry (by assumption)); (case h3 => exact Lw.Txt.na_Registry_names (by assumption)))
  | ((with_reducible refine' Lw.g_rfld (f := "claims") ?h1 ?h2 ?h3 Lw.f_Registry_claims ?k1); (case h1 => walk_at "lw hp"); (case h2 => exact Lw.Txt.cl_Registry (by assumption)); (case h3 => exact Lw.Txt.na_Registry_claims (by assumption)))
  | ((with_reducible refine' Lw.g_rfld (f := "uploads") ?h1 ?h2 ?h3 Lw.f_Registry_uploads ?k1); (case h1 => walk_at "lw hp"); (case h2 => exact Lw.Txt.cl_Registry (by assumption)); (case h3 => exact Lw.Txt.na_Registry_uploads (by assumption)))
  | ((with_reducible refine' Lw.g_rfld (f := "collector") ?h1 ?h2 ?h3 Lw.f_Registry_collector ?k1); (case h1 => walk_at "lw hp"); (case h2 => exact Lw.Txt.cl_Registry (by assumption)); (case h3 => exact Lw.Txt.na_Registry_collector (by assumption)))
  | ((with_reducible refine' Lw.g_rmeth ?h1 (Lw.f_Registry_no (by decide +kernel)) ?k1); (case h1 => walk_at "lw hp")))
local macro_rules | `(tactic| walk_at "lw go") => `(tactic| first
  | (with_reducible refine Lw.g_callS ?_)
  | (with_reducible refine Lw.g_raise ?_)
  | (with_reducible refine Lw.g_tryAs ?_)
  | (with_reducible refine Lw.g_xf ?_))
/-! ## the law's draws: any number below the bound may come -/
namespace Lw
open PySem L2
open PyProof.Rows (envOfC)
theorem at_in {α : Type} {xs : List α} {i : Int} (h0 : 0 ≤ i) (h1 : i < xs.length) : ∃ v, xs[i.toNat]? = some v ∧ atI xs i = some v := by
  have hl : i.toNat < xs.length := by omega
  refine ⟨xs[i.toNat], List.getElem?_eq_getElem hl, ?_⟩
  have := atI_nat (xs := xs) (j := i.toNat) (v := xs[i.toNat]) (List.getElem?_eq_getElem hl)
  rw [show ((i.toNat : Nat) : Int) = i by omega] at this
  exact this
theorem ix_in {n : Nat} {i : Int} (h0 : 0 ≤ i) (h1 : i < n) : ixN n i = some i.toNat := by
  unfold ixN
  rw [if_pos h0, if_pos h1]
theorem map_int_set (l : List Int) (j : Nat) (z : Int) : (l.map V.int).set j (.int z) = (l.set j z).map V.int := by rw [List.map_set]
/-- the state of the draws at S: its place, its cells at C -/
structure StateAt (c : Addr → Nat) (H : Hp) (S : Addr) : Prop where
  ex : ∃ (C : Addr) (pos : Int) (cells : List Int), c S = 0 ∧ c C = 0 ∧ S ≠ C ∧ H S = some (.lst [.int pos, .ref C]) ∧ H C = some (.lst (cells.map V.int)) ∧ cells ≠ [] ∧ (∀ x ∈ cells, 0 ≤ x) ∧ 0 ≤ pos
theorem StateAt.frame {I : Nat → Prop} {c c' : Addr → Nat} {H H' : Hp} {S : Addr} (h : StateAt c H S) (s : Stp I c c' H H') (hi : ¬ I 0 := by decide) : StateAt c' H' S := by
  obtain ⟨C, pos, cells, h1, h2, h3, h4, h5, h6⟩ := h.ex
  exact ⟨C, pos, cells, by rw [s.col _ _ h4, h1], by rw [s.col _ _ h5, h2], h3, s.keep _ _ h4 (by rw [h1]; exact hi), s.keep _ _ h5 (by rw [h2]; exact hi), h6⟩
def spState (K : PySem.W.Frag) : Sp := fun vs H Q _ => ∃ (a : Addr) (ns : List Int) (c : Addr → Nat), vs = [.ref a] ∧ SqL K H a (ns.map V.int) ∧ ns.length ≤ 63 ∧
  ∀ S c' H', StateAt c' H' S → Stp (fun _ => False) c c' H H' → Q (.ref S) H'
def spTake : Sp := fun vs H Q _ => ∃ (c : Addr → Nat) (S : Addr) (m : Int), vs = [.ref S, .int m] ∧ StateAt c H S ∧ 0 < m ∧ m < 1073741824 ∧
  ∀ (r : Int) c' H', 0 ≤ r → r < m → StateAt c' H' S → Stp (fun i => i = 0) c c' H H' → Q (.int r) H'
section
variable {P : Program} {w : World} {K : PySem.W.Frag} {mg : Str → Option Value} {base : Heap} {C_Claims C_Collector C_Store C_Uploads C_Registry C_Refused C_Malformed a_KINDS a_BELOW a_CLAIMED : Addr}
theorem ok__law_state (T : Txt w K mg C_Claims C_Collector C_Store C_Uploads C_Registry C_Refused C_Malformed a_KINDS a_BELOW a_CLAIMED) : Cal P w K mg base 1 "_law_state" (spState K) := by
  refine cal_mk T.d__law_state sc__law_state (fun vs H Q E h => ?_) (fun f cdv A outer s H vs Q E hr h => ?_)
  · obtain ⟨a, ns, c, rfl, _⟩ := h
    rfl
  · obtain ⟨a, ns, c, rfl, hS, hlen, k⟩ := h
    refine ⟨_, (pss_cons (ps_setLc (i := 1) (own := [("_law_cell", 2)]) (g := (gName 2)) (by rfl) sc__law_state.nd rfl rfl (sw_true rfl rfl rfl (by decide +kernel)) (pi_list (pe_slice sl_list (pv 0) po_none (po_some (pe_int)))) (blkOk_by (own := [("_law_cell", 2)]) (N := n__law_state) (sc := defScope s__law_state) (by decide +kernel)) (fun _ _ _ _ _ => (pg_name (i := 2) sc__law_state.nd rfl (by first | exact Or.inl rfl | exact Or.inr rfl))) (fun _ _ _ _ _ => pts_nil) (fun _ _ _ _ _ => (pe_callB call_abs (by rfl) T.n_abs (by decide +kernel) (pa_cons (pv 2) pa_nil))))
      (pss_cons (ps_if (pt_cmpR op_eq (pe_callB call_len_seq' (by rfl) T.n_len (by decide +kernel) (pa_cons (pv 1) pa_nil)) (pe_int) (nomark _)) (pss_one (ps_set (i := 1) sc__law_state.nd rfl (by first | exact Or.inl rfl | exact Or.inr rfl) (pe_lst (pa_cons (pe_int) pa_nil)))) pss_nil)
      (pss_one (ps_ret (pe_lst (pa_cons (pe_int) (pa_cons (pv 1) pa_nil))))))), ?_⟩
    refine ⟨_, rfl, 63, rfl, a, _, rfl, hS, fun p np => ?_⟩
    have e63 : (cutV (ns.map V.int) none (some 63)) = ns.map V.int := by
      unfold cutV
      rw [HT.sIx_none, show ((63 : Int)) = ((63 : Nat) : Int) from rfl, HT.sIx_nat, List.drop_zero, List.take_of_length_le (by rw [List.length_map]; omega)]
    rw [e63]
    refine ⟨p, rfl, ⟨_, SqL.of upd_same⟩, fun D hD => ?_⟩
    have hDp : D ≠ p := fun z => by subst z; rw [upd_same] at hD; cases hD
    have hD0 : H D = none := by rw [upd_ne hDp] at hD; exact hD
    refine lc_list (K := K) (a := p) (xs := ns.map V.int) (fun i H2 => ∃ l : List Int, l.length = i ∧ (∀ x ∈ l, 0 ≤ x) ∧ Same H H2 ∧ H2 p = some (.lst (ns.map V.int)) ∧ H2 D = some (.lst (l.map V.int)))
      ⟨[], rfl, by simp, (Same.new np).thenNew hD, by rw [upd_ne (Ne.symm hDp)]; exact upd_same, upd_same⟩
      (fun i H2 hi h => by obtain ⟨l, _, _, _, h2, _⟩ := h; exact SqL.of h2) (fun i x H2 hx h => ?_) (fun H2 h => ?_)
    · obtain ⟨l, h1, h2, h3, h4, h5⟩ := h
      obtain ⟨z, hz, rfl⟩ : ∃ z, ns[i]? = some z ∧ V.int z = x := by
        rw [List.getElem?_map] at hx
        cases e : ns[i]? with
        | none => rw [e] at hx; cases hx
        | some z => rw [e] at hx; exact ⟨z, rfl, Option.some.inj hx⟩
      refine ⟨rfl, ?_⟩
      refine ⟨_, rfl, z, rfl, l.map V.int, h5, ?_, l ++ [if z < 0 then -z else z], by simp [h1], ?_, h3.grow hD0, by rw [upd_ne (Ne.symm hDp)]; exact h4, by rw [upd_same]; simp⟩
      · have hi := (List.getElem?_eq_some_iff.mp hz).1
        rw [List.length_map, h1]
        exact small1000 (by omega)
      · intro x hx
        rcases List.mem_append.mp hx with q | q
        · exact h2 x q
        · rw [List.mem_singleton.mp q]
          split <;> omega
    · obtain ⟨l, h1, h2, h3, h4, h5⟩ := h
      rw [List.length_map] at h1
      refine ⟨_, rfl, D, l.map V.int, rfl, Or.inl (SqL.of h5), ?_⟩
      refine ⟨rfl, _, rfl, ?_⟩
      refine if2 (fun hz => ?_) (fun hz => ?_)
      · refine ⟨(by show 1 ≤ sizeLine; decide), fun q nq => ?_⟩
        refine ⟨_, rfl, (by show 2 ≤ sizeLine; decide), fun S nS => ?_⟩
        have hqS : q ≠ S := fun z => by subst z; rw [upd_same] at nS; cases nS
        refine k S (Stp.paint (Stp.paint c q 0) S 0) _ ⟨q, 0, [0], Stp.paint_same, by rw [Stp.paint_ne hqS]; exact Stp.paint_same, Ne.symm hqS, upd_same, by rw [upd_ne hqS]; exact upd_same, by simp, by simp, by decide⟩ ?_
        exact ((Stp.same h3).trans (Stp.newc nq)).trans (Stp.newc nS)
      · refine ⟨_, rfl, (by show 2 ≤ sizeLine; decide), fun S nS => ?_⟩
        have hDS : D ≠ S := ne_of_none h5 nS
        refine k S (Stp.paint (Stp.paint c D 0) S 0) _ ⟨D, 0, l, Stp.paint_same, by rw [Stp.paint_ne hDS]; exact Stp.paint_same, Ne.symm hDS, upd_same, by rw [upd_ne hDS]; exact h5, fun e => hz (by rw [int_eq, e]; rfl), h2, by decide⟩ ?_
        have s1 : Stp (fun _ => False) c (Stp.paint c D 0) H H2 := ⟨fun b o e _ => h3 b o e, fun b o e => Stp.paint_ne (ne_of_none e hD0), fun b xs e => h3 b _ e, fun b e => h3.free e⟩
        exact s1.trans (Stp.newc nS)
theorem ok__law_take (T : Txt w K mg C_Claims C_Collector C_Store C_Uploads C_Registry C_Refused C_Malformed a_KINDS a_BELOW a_CLAIMED) : Cal P w K mg base 1 "_law_take" spTake := by
  refine cal_mk T.d__law_take sc__law_take (fun vs H Q E h => ?_) (fun f cdv A outer s H vs Q E hr h => ?_)
  · obtain ⟨c, S, m, rfl, _⟩ := h
    rfl
  · obtain ⟨c, S, m, rfl, hS, hm0, hm1, k⟩ := h
    obtain ⟨C, pos, cells, c1, c2, ne, h1, h2, h3, h4, h5⟩ := hS.ex
    have hcl : 0 < cells.length := List.length_pos_iff.mpr h3
    refine ⟨_, (pss_cons (ps_set (i := 2) sc__law_take.nd rfl (by first | exact Or.inl rfl | exact Or.inr rfl) (pe_ix ix_list (pv 0) (pe_int) (fun _ _ => rfl)))
      (pss_cons (ps_set (i := 3) sc__law_take.nd rfl (by first | exact Or.inl rfl | exact Or.inr rfl) (pe_op op_mod (pe_ix ix_list (pv 0) (pe_int) (fun _ _ => rfl)) (pe_callB call_len_seq' (by rfl) T.n_len (by decide +kernel) (pa_cons (pv 2) pa_nil))))
      (pss_cons (ps_set (i := 4) sc__law_take.nd rfl (by first | exact Or.inl rfl | exact Or.inr rfl) (pe_ix ix_list (pv 2) (pv 3) (fun _ _ => rfl)))
      (pss_cons (ps_if (pt_cmpR op_ge (pv 4) (pe_int) (nomark _)) (pss_cons (ps_asg (pe_op op_fdiv (pv 4) (pv 1)) (pg_sub (pv 2) (pv 3) set_list))
      (pss_one (ps_ret (pe_op op_mod (pv 4) (pv 1))))) pss_nil)
      (pss_cons (ps_asg (pe_op op_add (pe_ix ix_list (pv 0) (pe_int) (fun _ _ => rfl)) (pe_int)) (pg_sub (pv 0) (pe_int) set_list))
      (pss_cons (ps_set (i := 5) sc__law_take.nd rfl (by first | exact Or.inl rfl | exact Or.inr rfl) (pe_op op_mod (pe_callTy call_int1' (by rfl) T.n_int (by decide +kernel) (pa_cons (pe_op op_add (pe_op op_mul (pv 4) (pe_int)) (pe_op op_mul (pe_ix ix_list (pv 0) (pe_int) (fun _ _ => rfl)) (pe_int))) pa_nil)) (pe_int)))
      (pss_cons (ps_set (i := 5) sc__law_take.nd rfl (by first | exact Or.inl rfl | exact Or.inr rfl) (pe_op op_mod (pe_callTy call_int1' (by rfl) T.n_int (by decide +kernel) (pa_cons (pe_op op_add (pe_op op_mul (pv 5) (pe_int)) (pe_op op_mul (pe_ix ix_list (pv 0) (pe_int) (fun _ _ => rfl)) (pe_int))) pa_nil)) (pe_int)))
      (pss_one (ps_ret (pe_op op_mod (pe_op op_fdiv (pv 5) (pe_int)) (pv 1))))))))))), ?_⟩
    refine ⟨_, rfl, S, _, 1, .ref C, rfl, rfl, SqL.of h1, atI_nat (j := 1) rfl, ?_⟩
    refine ⟨_, rfl, S, _, 0, .int pos, rfl, rfl, SqL.of h1, atI_nat (j := 0) rfl, ?_⟩
    have hpl : 0 ≤ pos % (cells.length : Int) ∧ pos % (cells.length : Int) < (cells.length : Int) := ⟨Int.emod_nonneg _ (by omega), Int.emod_lt_of_pos _ (by omega)⟩
    refine ⟨_, rfl, C, _, rfl, Or.inl (SqL.of h2), _, _, rfl, rfl, by show (0 : Int) < ((cells.map V.int).length : Int); rw [List.length_map]; omega, ?_⟩
    rw [List.length_map]
    obtain ⟨v, hv, hat⟩ := at_in (xs := cells.map V.int) (i := pos % (cells.length : Int)) hpl.1 (by rw [List.length_map]; exact hpl.2)
    obtain ⟨x, hx, rfl⟩ : ∃ x, x ∈ cells ∧ V.int x = v := by
      rw [List.getElem?_map] at hv
      cases e : cells[(pos % (cells.length : Int)).toNat]? with
      | none => rw [e] at hv; cases hv
      | some x => rw [e] at hv; exact ⟨x, List.mem_of_getElem? e, Option.some.inj hv⟩
    have hx0 := h4 x hx
    refine ⟨_, rfl, _, rfl, C, _, _, _, rfl, rfl, SqL.of h2, hat, ?_⟩
    refine ⟨_, rfl, _, _, rfl, rfl, _, rfl, ?_⟩
    refine if2 (fun hz => ?_) (fun hz => ?_)
    · refine ⟨_, rfl, _, rfl, _, _, rfl, rfl, ⟨hm0, hm1⟩, ?_⟩
      refine ⟨_, rfl, _, rfl, C, _, _, _, rfl, rfl, h2, by rw [List.length_map]; exact ix_in hpl.1 hpl.2, ?_⟩
      refine ⟨_, rfl, _, rfl, _, _, rfl, rfl, hm0, ?_⟩
      refine k _ c _ (Int.emod_nonneg _ (by omega)) (Int.emod_lt_of_pos _ hm0) ⟨C, pos, cells.set (pos % (cells.length : Int)).toNat (x / m), c1, c2, ne, by rw [upd_ne ne]; exact h1, by rw [upd_same, map_int_set], ?_, ?_, h5⟩ ?_
      · intro e
        have := congrArg List.length e
        rw [List.length_set, List.length_nil] at this
        omega
      · intro y hy
        rcases List.mem_or_eq_of_mem_set hy with q | q
        · exact h4 y q
        · rw [q]; exact Int.ediv_nonneg hx0 (by omega)
      · exact Stp.own h2 c2 (fun xs z => by cases z)
    · refine ⟨_, rfl, S, _, 0, .int pos, rfl, rfl, SqL.of h1, atI_nat (j := 0) rfl, _, _, rfl, rfl, ?_⟩
      refine ⟨_, rfl, S, _, _, 0, rfl, rfl, h1, rfl, ?_⟩
      have h1' : (upd H S (.lst [.int (pos + 1), .ref C])) S = some (.lst [.int (pos + 1), .ref C]) := upd_same
      refine ⟨_, rfl, _, _, rfl, rfl, .inr ⟨by decide, by decide⟩, ?_⟩
      refine ⟨_, rfl, S, _, 0, .int (pos + 1), rfl, rfl, SqL.of h1', atI_nat (j := 0) rfl, _, _, rfl, rfl, .inr ⟨by decide, by decide⟩, _, _, rfl, rfl, ?_⟩
      refine Or.inl ⟨_, rfl, _, _, rfl, rfl, (by show (0 : Int) < 2147483647; decide), ?_⟩
      refine ⟨_, rfl, _, _, rfl, rfl, .inr ⟨by decide, by decide⟩, ?_⟩
      refine ⟨_, rfl, S, _, 0, .int (pos + 1), rfl, rfl, SqL.of h1', atI_nat (j := 0) rfl, _, _, rfl, rfl, .inr ⟨by decide, by decide⟩, _, _, rfl, rfl, ?_⟩
      refine Or.inl ⟨_, rfl, _, _, rfl, rfl, (by show (0 : Int) < 1000000007; decide), ?_⟩
      refine ⟨_, rfl, _, _, rfl, rfl, ⟨by decide, by decide⟩, ?_⟩
      refine ⟨_, rfl, _, _, rfl, rfl, hm0, ?_⟩
      refine k _ c _ (Int.emod_nonneg _ (by omega)) (Int.emod_lt_of_pos _ hm0) ⟨C, pos + 1, cells, c1, c2, ne, h1', by rw [upd_ne ne.symm]; exact h2, h3, h4, by omega⟩ ?_
      exact Stp.own h1 c1 (fun xs z => by cases z)
end
end Lw
namespace Lw
open PySem L2
/-- a comprehension whose items are drawn -/
theorem lc_draw {α : Type} {J : It} {xs : List V} {vs : List Nat} {σ : L2.St} {te : TE} {j : Nat} {Q : VK} {c : Addr → Nat} {H : Hp} {S : Addr} (w : Walk J xs.length (fun _ => True) (YAt xs)) (hz : xs.length ≤ 100000) (F : α → V) (G : α → Prop) (hS : StateAt c H S)
    (hw : ∀ x, wipe ((wipe σ vs).set j (some x)) vs = wipe σ vs)
    (he : ∀ x c1 H1 (R : VK), StateAt c1 H1 S → Stp (fun i => i = 0) c c1 H H1 → (∀ a c2 H2, G a → StateAt c2 H2 S → Stp (fun i => i = 0) c1 c2 H1 H2 → R (F a) H2) → te ((wipe σ vs).set j (some x)) H1 R)
    (k : ∀ q (l : List α) c' H', H q = none → l.length = xs.length → (∀ a ∈ l, G a) → StateAt c' H' S → Stp (fun i => i = 0) c c' H H' → H' q = some (.lst (l.map F)) → c' q = 9 → Q (.ref q) H') : kLc (gName j) tYes te vs σ Q J H := by
  intro D hD
  refine lc_it w (fun i H2 => ∃ (l : List α) (c2 : Addr → Nat), l.length = i ∧ (∀ a ∈ l, G a) ∧ StateAt c2 H2 S ∧ Stp (fun i => i = 0) c c2 H H2 ∧ c2 D = 9 ∧ H2 D = some (.lst (l.map F)))
    ⟨[], Stp.paint c D 9, rfl, by simp, hS.frame (I := fun _ => False) (Stp.newc hD) (by decide), Stp.newc hD, Stp.paint_same, upd_same⟩ (fun _ _ _ _ => trivial) (fun i x H2 H2' hi h y => ?_) (fun H2 h => ?_)
  · obtain ⟨e, hx⟩ := y
    subst e
    obtain ⟨l, c2, h1, h2, S2, st2, cD, hl⟩ := h
    refine ⟨hw x, ?_⟩
    show te _ H2' _
    refine he x c2 H2' _ S2 st2 fun a c3 H3 ga S3 st3 => ?_
    have hD3 := st3.keep _ _ hl (by rw [cD]; decide)
    refine ⟨_, hD3, ?_, l ++ [a], c3, by rw [List.length_append, h1]; rfl, fun b hb => ?_, S3.frame (I := fun i => i = 9) (Stp.own hD3 (by rw [st3.col _ _ hl, cD]) (fun xs z => by cases z)) (by decide), ?_, by rw [st3.col _ _ hl, cD], by rw [upd_same, List.map_append]; rfl⟩
    · rw [List.length_map, h1]
      exact Nat.lt_of_lt_of_le (show i < 200000 by omega) (by decide)
    · rcases List.mem_append.mp hb with z | z
      · exact h2 b z
      · rw [List.mem_singleton.mp z]; exact ga
    · have st4 := st2.trans st3
      exact ⟨fun b o e n => by rw [upd_ne (ne_of_none e hD)]; exact st4.keep b o e n, st4.col, fun b xs e => by rw [upd_ne (ne_of_none e hD)]; exact st4.tup b xs e, fun b e => by
        by_cases z : b = D
        · subst z; rw [upd_same] at e; cases e
        · rw [upd_ne z] at e; exact st4.fre b e⟩
  · obtain ⟨l, c2, h1, h2, S2, st2, cD, hl⟩ := h
    exact k D l c2 H2 hD h1 h2 S2 st2 hl cD
end Lw

/-! ## a drawn text -/
namespace Lw
open PySem L2
open PyProof.Rows (envOfC)
def signs8 : List Nat := [97, 98, 99, 88, 89, 32, 48, 49]
theorem signs8_eq : ("abcXY 01" : Str) = SX.S signs8 := by decide +kernel
def spText : Sp := fun vs H Q _ => ∃ (c : Addr → Nat) (S : Addr) (m : Int), vs = [.ref S, .int m] ∧ StateAt c H S ∧ 0 ≤ m ∧ m ≤ 1000 ∧
  ∀ (l : List Nat) c' H', (l.length : Int) ≤ m → (∀ x ∈ l, x ∈ signs8) → StateAt c' H' S → Stp (fun i => i = 0) c c' H H' → Q (.str (SX.S l)) H'
section
variable {P : Program} {w : World} {K : PySem.W.Frag} {mg : Str → Option Value} {base : Heap} {C_Claims C_Collector C_Store C_Uploads C_Registry C_Refused C_Malformed a_KINDS a_BELOW a_CLAIMED : Addr}
theorem ok__law_text (T : Txt w K mg C_Claims C_Collector C_Store C_Uploads C_Registry C_Refused C_Malformed a_KINDS a_BELOW a_CLAIMED) : Cal P w K mg base 2 "_law_text" spText := by
  have c__law_take : Cal P w K mg base 1 "_law_take" spTake := ok__law_take T
  refine cal_mk T.d__law_text sc__law_text (fun vs H Q E h => ?_) (fun f cdv A outer s H vs Q E hr h => ?_)
  · obtain ⟨c, S, m, rfl, _⟩ := h
    rfl
  · obtain ⟨c, S, m, rfl, hS, hm0, hm1, k⟩ := h
    refine ⟨_, (pss_one (ps_ret (pe_join (pe_str) (pe_lc (own := [("_law_k", 2)]) (g := (gName 2)) (by rfl) sc__law_text.nd (pi_range1 (by rfl) T.n_range (pa_cons (pe_c c__law_take hr (by first | decide | omega) rfl (pa_cons (pv 0) (pa_cons (pe_op op_add (pv 1) (pe_int)) pa_nil))) pa_nil)) (blkOk_by (own := [("_law_k", 2)]) (N := n__law_text) (sc := defScope s__law_text) (by decide +kernel)) (fun _ _ _ _ _ => (pg_name (i := 2) sc__law_text.nd rfl (by first | exact Or.inl rfl | exact Or.inr rfl))) (fun _ _ _ _ _ => pts_nil) (fun _ _ _ _ _ => (pe_ix ix_str (pe_str) (pe_c c__law_take hr (by first | decide | omega) rfl (pa_cons (pv 0) (pa_cons (pe_int) pa_nil))) (fun _ _ => rfl))))))), ?_⟩
    refine ⟨⟨_, rfl⟩, ?_⟩
    refine ⟨_, rfl, _, rfl, _, _, rfl, rfl, ?_⟩
    refine ⟨c, S, m + 1, rfl, hS, by omega, by omega, fun r c1 H1 r0 r1 S1 st1 => ?_⟩
    refine ⟨r, rfl, by omega, by omega, fun D hD => ?_⟩
    refine lc_range (lo := 0) (n := r.toNat) (fun i H2 => ∃ (l : List Nat) (c2 : Addr → Nat), l.length = i ∧ (∀ x ∈ l, x ∈ signs8) ∧ StateAt c2 H2 S ∧ Stp (fun i => i = 0) c1 c2 H1 H2 ∧ c2 D = 9 ∧ H2 D = some (.lst ((l.map fun c => SX.S [c]).map V.str)))
      ⟨[], Stp.paint c1 D 9, rfl, by simp, S1.frame (I := fun _ => False) (Stp.newc hD) (by decide), Stp.newc hD, Stp.paint_same, upd_same⟩ (fun i H2 hi h => ?_) (fun H2 h => ?_)
    · obtain ⟨l, c2, h1, h2, S2, st2, cD, hl⟩ := h
      refine ⟨rfl, _, rfl, ?_⟩
      refine ⟨c2, S, 8, rfl, S2, by decide, by decide, fun q c3 H3 q0 q1 S3 st3 => ?_⟩
      have hD3 := st3.keep _ _ hl (by rw [cD]; decide)
      obtain ⟨ch, hch, hat⟩ := at_in (xs := signs8) (i := q) q0 q1
      refine ⟨"abcXY 01", q, ch, rfl, rfl, by decide +kernel, by rw [signs8_eq]; exact hat, ?_⟩
      refine ⟨_, hD3, ?_, l ++ [ch], c3, by rw [List.length_append, h1]; rfl, fun x hx => ?_, S3.frame (I := fun i => i = 9) (Stp.own hD3 (by rw [st3.col _ _ hl, cD]) (fun xs z => by cases z)) (by decide), ?_, by rw [st3.col _ _ hl, cD], ?_⟩
      · rw [List.length_map, List.length_map, h1]
        exact small1000 (by omega)
      · rcases List.mem_append.mp hx with z | z
        · exact h2 x z
        · rw [List.mem_singleton.mp z]
          exact List.mem_of_getElem? hch
      · have st4 : Stp (fun i => i = 0) c1 c3 H1 H3 := st2.trans st3
        have hDn : H1 D = none := hD
        exact ⟨fun b o e n => by rw [upd_ne (ne_of_none e hDn)]; exact st4.keep b o e n, st4.col, fun b xs e => by rw [upd_ne (ne_of_none e hDn)]; exact st4.tup b xs e, fun b e => by
          by_cases z : b = D
          · subst z; rw [upd_same] at e; cases e
          · rw [upd_ne z] at e; exact st4.fre b e⟩
      · rw [upd_same, List.map_append, List.map_append]
        rfl
    · obtain ⟨l, c2, h1, h2, S2, st2, cD, hl⟩ := h
      refine ⟨"", D, _, rfl, rfl, Or.inl (SqL.of hl), ?_, ?_⟩
      · rw [sum_ones, List.length_map, h1]
        show r.toNat + r.toNat * 0 ≤ 16777216
        omega
      · rw [join_empty]
        exact k l c2 H2 (by omega) h2 S2 (st1.trans st2)
end
end Lw

/-! ## addresses, as the program reckons them -/
namespace Lw
open PySem L2
open PyProof.Rows (envOfC)
def P61 : Nat := 2305843009213693951
def hN (s : Nat) (t : List Nat) : Nat := t.foldl (fun v c => (v * 257 + c + 1) % P61) s
theorem hN_snoc (s : Nat) (t : List Nat) (c : Nat) : hN s (t ++ [c]) = (hN s t * 257 + c + 1) % P61 := by
  unfold hN
  rw [List.foldl_append]
  rfl
theorem hN_lt {s : Nat} (h : s < P61) : ∀ t : List Nat, hN s t < P61 := by
  intro t
  unfold hN
  induction t generalizing s with
  | nil => exact h
  | cons c t ih => exact ih (Nat.mod_lt _ (by decide))
/-- the number of a kind, from 1 -/
def kn (k : Str) : Nat := if k = "layer" then 1 else if k = "image" then 2 else 3
theorem kn_lt (k : Str) : kn k < 4 := by
  unfold kn
  split
  · decide
  · split <;> decide
def adrN (k : Str) (t : List Nat) : Nat := hN (kn k) t
theorem adrN_lt (k : Str) (t : List Nat) : adrN k t < P61 := hN_lt (Nat.lt_trans (kn_lt k) (by decide)) t
/-- the address of a text of a kind -/
def adr (k : Str) (t : List Nat) : Str := hexT (adrN k t)
def hexS : List Nat := [48, 49, 50, 51, 52, 53, 54, 55, 56, 57, 97, 98, 99, 100, 101, 102]
theorem hexS_eq : ("0123456789abcdef" : Str) = SX.S hexS := by decide +kernel
/-- sixteen hexadecimal signs -/
def isAdr (l : List Nat) : Bool := l.length == 16 && l.all fun c => decide (c ∈ hexS)
/-- the signs of an address -/
def adrL (k : Str) (t : List Nat) : List Nat := List.replicate (16 - ((Nat.toDigits 16 (adrN k t)).map Char.toNat).length) 48 ++ (Nat.toDigits 16 (adrN k t)).map Char.toNat
theorem adr_S (k : Str) (t : List Nat) : adr k t = SX.S (adrL k t) := rfl
theorem adrL_len (k : Str) (t : List Nat) : (adrL k t).length = 16 := by
  have h := adrN_lt k t
  have h2 : (Nat.toDigits 16 (adrN k t)).length ≤ 16 := (Nat.length_toDigits_le_iff (b := 16) (n := adrN k t) (k := 16) (by decide) (by decide)).mpr (Nat.lt_trans h (by decide))
  unfold adrL
  rw [List.length_append, List.length_replicate, List.length_map]
  omega
theorem digit_hex {c : Nat} (h : c < 16) : (Nat.digitChar c).toNat ∈ hexS := by
  have : ∀ c : Nat, c < 16 → (Nat.digitChar c).toNat ∈ hexS := by decide
  exact this c h
theorem digs_hex : ∀ (n : Nat), ∀ c ∈ Nat.toDigits 16 n, c.toNat ∈ hexS := by
  intro n
  induction n using Nat.strongRecOn with
  | _ n ih =>
    intro c hc
    by_cases h : n < 16
    · rw [Nat.toDigits_of_lt_base h] at hc
      rw [List.mem_singleton.mp hc]
      exact digit_hex h
    · rw [Nat.toDigits_of_base_le (by decide) (by omega)] at hc
      rcases List.mem_append.mp hc with z | z
      · exact ih (n / 16) (by omega) c z
      · rw [List.mem_singleton.mp z]
        exact digit_hex (Nat.mod_lt _ (by decide))
theorem adrL_hex (k : Str) (t : List Nat) : ∀ c ∈ adrL k t, c ∈ hexS := by
  intro c hc
  unfold adrL at hc
  rcases List.mem_append.mp hc with z | z
  · rw [List.eq_of_mem_replicate z]
    decide
  · obtain ⟨d, h1, rfl⟩ := List.mem_map.mp z
    exact digs_hex _ d h1
theorem adr_is (k : Str) (t : List Nat) : isAdr (adrL k t) = true := by
  unfold isAdr
  rw [adrL_len, Bool.and_eq_true]
  exact ⟨rfl, List.all_eq_true.mpr fun c hc => decide_eq_true (adrL_hex k t c hc)⟩
def spAddr : Sp := fun vs H Q _ => ∃ (k : Str) (t : List Nat), vs = [.str k, .str (SX.S t)] ∧ k ∈ kinds3 ∧ Q (.str (adr k t)) H
def spIsAdr : Sp := fun vs H Q _ => ∃ (l : List Nat), vs = [.str (SX.S l)] ∧ l.length ≤ 100000 ∧ Q (.bl (isAdr l)) H
theorem kinds_at : ∀ k ∈ kinds3, kinds3[kn k - 1]? = some k ∧ 0 < kn k ∧ ∀ m, m < kn k - 1 → kinds3[m]? ≠ some k := by
  intro k hk
  simp only [kinds3, List.mem_cons, List.not_mem_nil, or_false] at hk
  have e2 : kn "image" = 2 := by decide +kernel
  have e3 : kn "bundle" = 3 := by decide +kernel
  rcases hk with rfl | rfl | rfl
  · refine ⟨by decide +kernel, by decide +kernel, fun m hm => ?_⟩
    exact absurd hm (by rw [show kn "layer" = 1 by decide +kernel]; omega)
  · rw [e2]
    refine ⟨rfl, by decide, fun m hm => ?_⟩
    have : m = 0 := by omega
    subst this
    decide +kernel
  · rw [e3]
    refine ⟨rfl, by decide, fun m hm => ?_⟩
    have : m = 0 ∨ m = 1 := by omega
    rcases this with rfl | rfl <;> decide +kernel
section
variable {P : Program} {w : World} {K : PySem.W.Frag} {mg : Str → Option Value} {base : Heap} {C_Claims C_Collector C_Store C_Uploads C_Registry C_Refused C_Malformed a_KINDS a_BELOW a_CLAIMED : Addr}
theorem ok_address_of (T : Txt w K mg C_Claims C_Collector C_Store C_Uploads C_Registry C_Refused C_Malformed a_KINDS a_BELOW a_CLAIMED) : Cal P w K mg base 1 "address_of" spAddr := by
  refine cal_mk T.d_address_of sc_address_of (fun vs H Q E h => ?_) (fun f cdv A outer s H vs Q E hr h => ?_)
  · obtain ⟨k, t, rfl, _⟩ := h
    rfl
  · obtain ⟨k, t, rfl, hk, q⟩ := h
    obtain ⟨o, its, n, k1, k2, k3, k4, k5, k6⟩ := T.at_KINDS
    obtain ⟨a1, a2, a3⟩ := kinds_at k hk
    refine ⟨_, (pss_cons (ps_set (i := 2) sc_address_of.nd rfl (by first | exact Or.inl rfl | exact Or.inr rfl) (pe_op op_add (pe_bm PySem.F.plainAttrs_tuple PySem.F.slot_tuple_index PySem.F.type_tuple_index mt_tup_index (pe_gc rfl T.g_KINDS) (pa_cons (pv 0) pa_nil)) (pe_int)))
      (pss_cons (ps_for PassesOwn.never rfl (pi_str (pv 1)) (pg_name (i := 3) sc_address_of.nd rfl (by first | exact Or.inl rfl | exact Or.inr rfl)) (pss_one (ps_set (i := 2) sc_address_of.nd rfl (by first | exact Or.inl rfl | exact Or.inr rfl) (pe_op op_mod (pe_op op_add (pe_op op_add (pe_op op_mul (pv 2) (pe_int)) (pe_callB call_ord' (by rfl) T.n_ord (by decide +kernel) (pa_cons (pv 3) pa_nil))) (pe_int)) (pe_gc rfl T.g_PRIME)))))
      (pss_one (ps_ret (pe_joined1 (pe_hex (pv 2) (pe_joined1 pe_str))))))), ?_⟩
    walk_at "lw"
    refine ⟨Or.inr (Or.inl ⟨rfl, o, k1, k2, k3⟩), ?_⟩
    walk_at "lw"
    refine ⟨a_KINDS, kinds3, k, kn k - 1, rfl, rfl, .inr ⟨o, its, n, k1, k2, k4, k5, k6⟩, a1, a3, ?_⟩
    walk_at "lw"
    rw [show ((kn k - 1 : Nat) : Int) + 1 = (kn k : Int) by omega]
    refine for_at walk_sgs (fun i σ H' => H' = H ∧ ∃ v : Option V, σ = [some (.str k), some (.str (SX.S t)), some (.int (hN (kn k) (t.take i) : Nat)), v]) ⟨rfl, none, rfl⟩ (fun _ _ _ _ => trivial) ?_ ?_
    · rintro i x σ H' hx ⟨rfl, v, rfl⟩
      obtain ⟨c, hc, rfl⟩ : ∃ c, t[i]? = some c ∧ V.str (SX.S [c]) = x := by
        unfold sgs at hx
        rw [List.getElem?_map] at hx
        cases e : t[i]? with
        | none => rw [e] at hx; cases hx
        | some c => rw [e] at hx; exact ⟨c, rfl, Option.some.inj hx⟩
      walk_at "lw"
      refine ⟨rfl, some (.str (SX.S [c])), ?_⟩
      rw [take_ok hc, hN_snoc]
      have e : ((hN (kn k) (t.take i) : Nat) : Int) * 257 + (c : Int) + 1 = ((hN (kn k) (t.take i) * 257 + c + 1 : Nat) : Int) := by omega
      have e2 : (((hN (kn k) (t.take i) * 257 + c + 1 : Nat) : Int)) % 2305843009213693951 = (((hN (kn k) (t.take i) * 257 + c + 1) % P61 : Nat) : Int) := by
        unfold P61; omega
      rw [e, e2]
      rfl
    · rintro σ H' ⟨rfl, v, rfl⟩
      rw [show (sgs t).length = t.length by unfold sgs; rw [List.length_map], List.take_length]
      walk_at "lw"
      refine g_hex ?_
      walk_at "lw"
      refine ⟨hN (kn k) t, rfl, Nat.lt_trans (adrN_lt k t) (by decide), ?_⟩
      walk_at "lw"
      exact q
end
end Lw

namespace Lw
open PySem L2
open PyProof.Rows (envOfC)
section
variable {P : Program} {w : World} {K : PySem.W.Frag} {mg : Str → Option Value} {base : Heap} {C_Claims C_Collector C_Store C_Uploads C_Registry C_Refused C_Malformed a_KINDS a_BELOW a_CLAIMED : Addr}
theorem ok_is_address (T : Txt w K mg C_Claims C_Collector C_Store C_Uploads C_Registry C_Refused C_Malformed a_KINDS a_BELOW a_CLAIMED) : Cal P w K mg base 1 "is_address" spIsAdr := by
  refine cal_mk T.d_is_address sc_is_address (fun vs H Q E h => ?_) (fun f cdv A outer s H vs Q E hr h => ?_)
  · obtain ⟨l, rfl, _⟩ := h
    rfl
  · obtain ⟨l, rfl, hl, q⟩ := h
    refine ⟨_, (pss_cons (ps_if (pt_cmpR op_ne (pe_callB call_len_str' (by rfl) T.n_len (by decide +kernel) (pa_cons (pv 0) pa_nil)) (pe_int) (nomark _)) (pss_one (ps_ret (pe_bl))) pss_nil)
      (pss_cons (ps_for PassesOwn.never rfl (pi_str (pv 0)) (pg_name (i := 1) sc_is_address.nd rfl (by first | exact Or.inl rfl | exact Or.inr rfl)) (pss_one (ps_if (pt_cmpR op_notInSg (pv 1) (pe_gc rfl T.g_DIGITS) (by rfl)) (pss_one (ps_ret (pe_bl))) pss_nil)))
      (pss_one (ps_ret (pe_bl))))), ?_⟩
    walk_at "lw"
    refine g_lenT (by rw [SX.S_len]; exact Nat.le_trans hl (by decide)) ?_
    rw [SX.S_len]
    walk_at "lw"
    refine ifn2 (fun h16 => ?_) (fun h16 => ?_)
    · have h16 : l.length = 16 := by have := int_eq.mp h16; omega
      walk_at "lw"
      refine for_at walk_sgs (fun i σ H' => H' = H ∧ (∀ c ∈ l.take i, c ∈ hexS) ∧ ∃ v : Option V, σ = [some (.str (SX.S l)), v]) ⟨rfl, by simp, none, rfl⟩ (fun _ _ _ _ => trivial) ?_ ?_
      · rintro i x σ H' hx ⟨rfl, hi, v, rfl⟩
        obtain ⟨c, hc, rfl⟩ : ∃ c, l[i]? = some c ∧ V.str (SX.S [c]) = x := by
          unfold sgs at hx
          rw [List.getElem?_map] at hx
          cases e : l[i]? with
          | none => rw [e] at hx; cases hx
          | some c => rw [e] at hx; exact ⟨c, rfl, Option.some.inj hx⟩
        walk_at "lw"
        refine ifn2 (fun hm => ?_) (fun hm => ?_)
        · walk_at "lw"
          refine ⟨rfl, fun d hd => ?_, _, rfl⟩
          rw [take_ok hc] at hd
          rcases List.mem_append.mp hd with z | z
          · exact hi d z
          · rw [List.mem_singleton.mp z]
            rw [hexS_eq] at hm
            simpa using hm
        · walk_at "lw"
          have e : isAdr l = false := by
            unfold isAdr
            rw [Bool.and_eq_false_iff]
            right
            rw [List.all_eq_false]
            refine ⟨c, List.mem_of_getElem? hc, ?_⟩
            rw [hexS_eq] at hm
            simpa using hm
          rw [e] at q
          exact q
      · rintro σ H' ⟨rfl, hi, v, rfl⟩
        rw [show (sgs l).length = l.length by unfold sgs; rw [List.length_map], List.take_length] at hi
        walk_at "lw"
        have e : isAdr l = true := by
          unfold isAdr
          rw [Bool.and_eq_true]
          exact ⟨by rw [h16]; rfl, List.all_eq_true.mpr fun c hc => decide_eq_true (hi c hc)⟩
        rw [e] at q
        exact q
    · walk_at "lw"
      have e : isAdr l = false := by
        unfold isAdr
        rw [Bool.and_eq_false_iff]
        left
        exact beq_false_of_ne fun z => h16 (by rw [z]; rfl)
      rw [e] at q
      exact q
end
end Lw

/-! ## texts of images and bundles -/
namespace Lw
open PySem L2
open PyProof.Rows (envOfC)
def imgH : List Nat := [105, 109, 97, 103, 101, 10]
def bunH : List Nat := [98, 117, 110, 100, 108, 101, 10]
theorem imgH_eq : ("image\n" : Str) = SX.S imgH := by decide +kernel
theorem bunH_eq : ("bundle\n" : Str) = SX.S bunH := by decide +kernel
theorem nl_eq : ("\n" : Str) = SX.S [10] := by decide +kernel
theorem sp_eq : (" " : Str) = SX.S [32] := by decide +kernel
def imgL (as : List (List Nat)) : List Nat := imgH ++ (as.map fun a => a ++ [10]).flatten
def bunL (es : List (List Nat × List Nat)) : List Nat := bunH ++ (es.map fun e => e.1 ++ [32] ++ e.2 ++ [10]).flatten
def strS (l : List Nat) : V := .str (SX.S l)
def spImg : Sp := fun vs H Q _ => ∃ (p : Addr) (as : List (List Nat)), vs = [.ref p] ∧ H p = some (.lst (as.map strS)) ∧ as.length ≤ 100 ∧ (∀ a ∈ as, a.length ≤ 1000) ∧ ∀ H', Same H H' → Q (.str (SX.S (imgL as))) H'
def spBun : Sp := fun vs H Q _ => ∃ (p : Addr) (es : List (Addr × List Nat × List Nat)), vs = [.ref p] ∧ H p = some (.lst (es.map fun e => V.ref e.1)) ∧ (∀ e ∈ es, H e.1 = some (.tup [strS e.2.1, strS e.2.2])) ∧ es.length ≤ 100 ∧ (∀ e ∈ es, e.2.1.length + e.2.2.length ≤ 1000) ∧
  ∀ H', Same H H' → Q (.str (SX.S (bunL (es.map (·.2))))) H'
theorem flat_le {l : List (List Nat)} {m : Nat} (h : ∀ a ∈ l, a.length ≤ m) : l.flatten.length ≤ l.length * m := by
  induction l with
  | nil => simp
  | cons a r ih =>
    rw [List.flatten_cons, List.length_append, List.length_cons]
    have := ih fun b hb => h b (List.mem_cons_of_mem _ hb)
    have := h a List.mem_cons_self
    rw [Nat.succ_mul]
    omega
section
variable {P : Program} {w : World} {K : PySem.W.Frag} {mg : Str → Option Value} {base : Heap} {C_Claims C_Collector C_Store C_Uploads C_Registry C_Refused C_Malformed a_KINDS a_BELOW a_CLAIMED : Addr}
theorem ok_image_text (T : Txt w K mg C_Claims C_Collector C_Store C_Uploads C_Registry C_Refused C_Malformed a_KINDS a_BELOW a_CLAIMED) : Cal P w K mg base 1 "image_text" spImg := by
  refine cal_mk T.d_image_text sc_image_text (fun vs H Q E h => ?_) (fun f cdv A outer s H vs Q E hr h => ?_)
  · obtain ⟨p, as, rfl, _⟩ := h
    rfl
  · obtain ⟨p, as, rfl, hp, hz, hl, k⟩ := h
    refine ⟨_, (pss_one (ps_ret (pe_op op_cat_str (pe_str) (pe_join (pe_str) (pe_lc (own := [("address", 1)]) (g := (gName 1)) (by rfl) sc_image_text.nd (pi_list (pv 0)) (blkOk_by (own := [("address", 1)]) (N := n_image_text) (sc := defScope s_image_text) (by decide +kernel)) (fun _ _ _ _ _ => (pg_name (i := 1) sc_image_text.nd rfl (by first | exact Or.inl rfl | exact Or.inr rfl))) (fun _ _ _ _ _ => pts_nil) (fun _ _ _ _ _ => (pe_op op_cat_str (pv 1) (pe_str)))))))), ?_⟩
    walk_at "lw"
    refine g_ritL (SqL.of hp) ?_
    refine lc_map (G := fun H' => SqL K H' p (as.map strS)) walk_list (fun H' s => SqL.of (s _ _ hp)) (by rw [List.length_map]; omega) (fun _ => true) (fun v => match v with | .str x => .str (x ++ SX.S [10]) | _ => v) ?_ ?_
    · intro x hx H' R s1 kk
      obtain ⟨a, ha, rfl⟩ := List.mem_map.mp hx
      walk_at "lw"
      refine kk _ rfl (fun H'' R s2 r => ?_) (fun hp' H'' R s2 r => ?_)
      · walk_at "lw"
        exact r
      · walk_at "lw"
        refine g_cat_str (a := SX.S a) (b := "\n") (by rw [nl_eq, SX.S_len, SX.S_len]; exact Nat.le_trans (Nat.add_le_add (hl a ha) (Nat.le_refl 1)) (by decide)) ?_
        rw [nl_eq]
        exact r _ (Same.refl _)
    · intro q H' nq s1 hq
      rw [List.filter_eq_self.mpr (fun _ _ => rfl), List.map_map] at hq
      have e : (as.map ((fun v => match v with | V.str x => V.str (x ++ SX.S [10]) | _ => v) ∘ strS)) = ((as.map fun a => a ++ [10]).map SX.S).map V.str := by
        rw [List.map_map, List.map_map]
        refine List.map_congr_left fun a _ => ?_
        show V.str (SX.S a ++ SX.S [10]) = V.str (SX.S (a ++ [10]))
        rw [SX.S_cat]
      rw [e] at hq
      have hf : (as.map fun a => a ++ [10]).flatten.length ≤ 100 * 1001 := by
        refine Nat.le_trans (flat_le (m := 1001) fun b hb => ?_) ?_
        · obtain ⟨a, ha, rfl⟩ := List.mem_map.mp hb
          rw [List.length_append]
          have := hl a ha
          show _ + 1 ≤ _
          omega
        · rw [List.length_map]
          exact Nat.mul_le_mul_right _ hz
      refine ⟨"", q, _, rfl, rfl, Or.inl (SqL.of hq), ?_, ?_⟩
      · rw [sum_flat]
        show _ + _ * 0 ≤ 16777216
        omega
      · rw [join_flat]
        refine g_cat_str (a := "image\n") (b := SX.S _) (by rw [imgH_eq, SX.S_len, SX.S_len]; exact Nat.le_trans (Nat.add_le_add (Nat.le_refl 6) hf) (by decide)) ?_
        rw [imgH_eq, SX.S_cat]
        walk_at "lw"
        exact k H' s1
theorem ok_bundle_text (T : Txt w K mg C_Claims C_Collector C_Store C_Uploads C_Registry C_Refused C_Malformed a_KINDS a_BELOW a_CLAIMED) : Cal P w K mg base 1 "bundle_text" spBun := by
  refine cal_mk T.d_bundle_text sc_bundle_text (fun vs H Q E h => ?_) (fun f cdv A outer s H vs Q E hr h => ?_)
  · obtain ⟨p, es, rfl, _⟩ := h
    rfl
  · obtain ⟨p, es, rfl, hp, ht, hz, hl, k⟩ := h
    refine ⟨_, (pss_one (ps_ret (pe_op op_cat_str (pe_str) (pe_join (pe_str) (pe_lc (own := [("platform", 1), ("address", 2)]) (g := (gTup K 2 (gCons (gName 1) (gCons (gName 2) gNil)))) (by rfl) sc_bundle_text.nd (pi_list (pv 0)) (blkOk_by (own := [("platform", 1), ("address", 2)]) (N := n_bundle_text) (sc := defScope s_bundle_text) (by decide +kernel)) (fun _ _ _ _ _ => (pg_tup (by rfl) (pgs_cons (pg_name (i := 1) sc_bundle_text.nd rfl (by first | exact Or.inl rfl | exact Or.inr rfl)) (pgs_cons (pg_name (i := 2) sc_bundle_text.nd rfl (by first | exact Or.inl rfl | exact Or.inr rfl)) pgs_nil)))) (fun _ _ _ _ _ => pts_nil) (fun _ _ _ _ _ => (pe_op op_cat_str (pe_op op_cat_str (pe_op op_cat_str (pv 1) (pe_str)) (pv 2)) (pe_str)))))))), ?_⟩
    walk_at "lw"
    refine g_ritL (SqL.of hp) ?_
    refine lc_map (G := fun H' => SqL K H' p (es.map fun e => V.ref e.1)) walk_list (fun H' s => SqL.of (s _ _ hp)) (by rw [List.length_map]; omega) (fun _ => true)
      (fun v => match v with | .ref a => (match H a with | some (.tup [.str x, .str y]) => .str (x ++ SX.S [32] ++ y ++ SX.S [10]) | _ => .non) | _ => .non) ?_ ?_
    · intro x hx H' R s1 kk
      obtain ⟨e, he, rfl⟩ := List.mem_map.mp hx
      have h1 := ht e he
      refine g_gtup (SqT.of (s1 _ _ h1)) rfl ?_
      walk_at "lw"
      refine kk _ rfl (fun H'' R s2 r => ?_) (fun hp' H'' R s2 r => ?_)
      · walk_at "lw"
        exact r
      · have hl1 := hl e he
        walk_at "lw"
        refine g_cat_str (a := SX.S e.2.1) (b := " ") (by rw [sp_eq, SX.S_len, SX.S_len]; exact Nat.le_trans (show e.2.1.length + 1 ≤ 1001 by omega) (by decide)) ?_
        rw [sp_eq, SX.S_cat]
        walk_at "lw"
        refine g_cat_str (a := SX.S (e.2.1 ++ [32])) (b := SX.S e.2.2) (by rw [SX.S_len, SX.S_len, List.length_append]; exact Nat.le_trans (show e.2.1.length + 1 + e.2.2.length ≤ 1001 by omega) (by decide)) ?_
        rw [SX.S_cat]
        walk_at "lw"
        refine g_cat_str (a := SX.S (e.2.1 ++ [32] ++ e.2.2)) (b := "\n") (by rw [nl_eq, SX.S_len, SX.S_len, List.length_append, List.length_append]; exact Nat.le_trans (show e.2.1.length + 1 + e.2.2.length + 1 ≤ 1002 by omega) (by decide)) ?_
        rw [nl_eq, SX.S_cat]
        have r := r H'' (Same.refl _)
        simp only [h1, strS, SX.S_cat] at r
        exact r
    · intro q H' nq s1 hq
      rw [List.filter_eq_self.mpr (fun _ _ => rfl), List.map_map] at hq
      have e : (es.map ((fun v => match v with | .ref a => (match H a with | some (.tup [.str x, .str y]) => .str (x ++ SX.S [32] ++ y ++ SX.S [10]) | _ => .non) | _ => .non) ∘ fun e => V.ref e.1)) = ((es.map fun e => e.2.1 ++ [32] ++ e.2.2 ++ [10]).map SX.S).map V.str := by
        rw [List.map_map, List.map_map]
        refine List.map_congr_left fun e he => ?_
        simp only [Function.comp, ht e he, strS, SX.S_cat]
      rw [e] at hq
      have hf : (es.map fun e => e.2.1 ++ [32] ++ e.2.2 ++ [10]).flatten.length ≤ 100 * 1002 := by
        refine Nat.le_trans (flat_le (m := 1002) fun b hb => ?_) ?_
        · obtain ⟨e, he, rfl⟩ := List.mem_map.mp hb
          simp only [List.length_append]
          have := hl e he
          show _ + 1 + _ + 1 ≤ _
          omega
        · rw [List.length_map]
          exact Nat.mul_le_mul_right _ hz
      refine ⟨"", q, _, rfl, rfl, Or.inl (SqL.of hq), ?_, ?_⟩
      · rw [sum_flat]
        show _ + _ * 0 ≤ 16777216
        omega
      · rw [join_flat]
        refine g_cat_str (a := "bundle\n") (b := SX.S _) (by rw [bunH_eq, SX.S_len, SX.S_len]; exact Nat.le_trans (Nat.add_le_add (Nat.le_refl 7) hf) (by decide)) ?_
        rw [bunH_eq, SX.S_cat]
        walk_at "lw"
        have k := k H' s1
        unfold bunL at k
        rw [List.map_map] at k
        exact k
end
end Lw

/-! ## texts of images and bundles are read -/
namespace Lw
open PySem L2
open PyProof.Rows (envOfC)
theorem atI_map {α β : Type} {f : α → β} {l : List α} {i : Int} {x : α} (h : atI l i = some x) : atI (l.map f) i = some (f x) := by
  unfold atI at h ⊢
  rw [List.length_map]
  cases e : ixN l.length i with
  | none => rw [e] at h; cases h
  | some j =>
    rw [e] at h
    have h : l[j]? = some x := h
    show (l.map f)[j]? = some (f x)
    rw [List.getElem?_map, h]
    rfl
def lnL (t : List Nat) : List (List Nat) := TL.spl [10] 0 [] t
def wdL (t : List Nat) : List (List Nat) := TL.spl [32] 0 [] t
def lowS : List Nat := [97, 98, 99, 100, 101, 102, 103, 104, 105, 106, 107, 108, 109, 110, 111, 112, 113, 114, 115, 116, 117, 118, 119, 120, 121, 122]
theorem lowS_eq : ("abcdefghijklmnopqrstuvwxyz" : Str) = SX.S lowS := by decide +kernel
def isPlat (l : List Nat) : Bool := decide (1 ≤ l.length) && decide (l.length ≤ 10) && l.all fun c => decide (c ∈ lowS)
def imgW : List Nat := [105, 109, 97, 103, 101]
def bunW : List Nat := [98, 117, 110, 100, 108, 101]
theorem imgW_eq : ("image" : Str) = SX.S imgW := by decide +kernel
theorem bunW_eq : ("bundle" : Str) = SX.S bunW := by decide +kernel
/-- the lines between the first and the last -/
def mid (ls : List (List Nat)) : List (List Nat) := (ls.drop 1).dropLast
def w0 (l : List Nat) : List Nat := (wdL l).getD 0 []
def w1 (l : List Nat) : List Nat := (wdL l).getD 1 []
def okLine (b : Bool) (seen : List (List Nat)) (l : List Nat) : Bool := if b = true then decide ((wdL l).length = 2) && (isPlat (w0 l) && (isAdr (w1 l) && !decide (w0 l ∈ seen))) else isAdr l
/-- the number of the first line that has not its form -/
def scan (b : Bool) : List (List Nat) → Nat → List (List Nat) → Option Nat
  | _, _, [] => none
  | seen, i, l :: r => if okLine b seen l = true then scan b (seen ++ [w0 l]) (i + 1) r else some i
def fault3 (h t : List Nat) : Option Nat :=
  if (lnL t).getD 0 [] ≠ h then some 0 else if (lnL t).getD ((lnL t).length - 1) [] ≠ [] then some ((lnL t).length - 1) else if 52 < (lnL t).length then some 51 else none
def kw (b : Bool) : List Nat := if b = true then bunW else imgW
/-- the line at fault -/
def fault (b : Bool) (t : List Nat) : Option Nat :=
  match fault3 (kw b) t with
  | some n => some n
  | none => if b = true ∧ (lnL t).length = 2 then some 1 else scan b [] 1 (mid (lnL t))
theorem spl_ne (s : List Nat) : ∀ (l : List Nat) (k : Nat) (acc : List Nat), TL.spl s k acc l ≠ []
  | [], k, acc => by simp [TL.spl]
  | c :: r, 0, acc => by
    unfold TL.spl
    split
    · simp
    · exact spl_ne s r 0 _
  | c :: r, k + 1, acc => by
    unfold TL.spl
    exact spl_ne s r k acc
theorem spl_len (s : List Nat) : ∀ (l : List Nat) (k : Nat) (acc : List Nat), (TL.spl s k acc l).length ≤ l.length + 1
  | [], k, acc => by simp [TL.spl]
  | c :: r, 0, acc => by
    unfold TL.spl
    split
    · have := spl_len s r (s.length - 1) []
      simp only [List.length_cons]; omega
    · have := spl_len s r 0 (acc ++ [c])
      simp only [List.length_cons]; omega
  | c :: r, k + 1, acc => by
    unfold TL.spl
    have := spl_len s r k acc
    simp only [List.length_cons]; omega
theorem spl_part_len (s : List Nat) : ∀ (l : List Nat) (k : Nat) (acc : List Nat), ∀ p ∈ TL.spl s k acc l, p.length ≤ acc.length + l.length
  | [], k, acc, p, h => by
    simp [TL.spl] at h
    subst h
    simp
  | c :: r, 0, acc, p, h => by
    unfold TL.spl at h
    split at h
    · rcases List.mem_cons.mp h with z | z
      · subst z; simp only [List.length_cons]; omega
      · have := spl_part_len s r _ _ p z
        simp only [List.length_cons, List.length_nil] at this ⊢; omega
    · have := spl_part_len s r _ _ p h
      simp only [List.length_cons, List.length_append, List.length_nil] at this ⊢; omega
  | c :: r, k + 1, acc, p, h => by
    unfold TL.spl at h
    have := spl_part_len s r _ _ p h
    simp only [List.length_cons] at this ⊢; omega
theorem ln_ne (t : List Nat) : lnL t ≠ [] := spl_ne _ _ _ _
theorem ln_pos (t : List Nat) : 0 < (lnL t).length := List.length_pos_iff.mpr (ln_ne t)
theorem ln_le (t : List Nat) : (lnL t).length ≤ t.length + 1 := spl_len _ _ _ _
theorem ln_part {t p : List Nat} (h : p ∈ lnL t) : p.length ≤ t.length := by have := spl_part_len _ _ _ _ p h; simpa using this
theorem wd_le (t : List Nat) : (wdL t).length ≤ t.length + 1 := spl_len _ _ _ _
theorem wd_pos (t : List Nat) : 0 < (wdL t).length := List.length_pos_iff.mpr (spl_ne _ _ _ _)
theorem wd_part {t p : List Nat} (h : p ∈ wdL t) : p.length ≤ t.length := by have := spl_part_len _ _ _ _ p h; simpa using this
theorem mid_len (ls : List (List Nat)) : (mid ls).length = ls.length - 2 := by unfold mid; rw [List.length_dropLast, List.length_drop]; omega
theorem mid_mem {ls : List (List Nat)} {p : List Nat} (h : p ∈ mid ls) : p ∈ ls := List.mem_of_mem_drop ((List.dropLast_sublist _).subset h)
theorem mid_at {ls : List (List Nat)} {i : Nat} (h : i < (mid ls).length) : (mid ls)[i]? = ls[i + 1]? := by
  unfold mid at h ⊢
  rw [List.length_dropLast] at h
  rw [List.getElem?_dropLast, if_pos h, List.getElem?_drop, Nat.add_comm]
theorem split_ln {t : List Nat} : Txt.split (SX.S t) "\n" = (lnL t).map SX.S := by
  rw [show ("\n" : Str) = SX.S [10] by decide +kernel]
  exact SX.split_S (by simp) (by decide)
theorem split_wd {t : List Nat} : Txt.split (SX.S t) " " = (wdL t).map SX.S := by
  rw [show (" " : Str) = SX.S [32] by decide +kernel]
  exact SX.split_S (by simp) (by decide)
theorem cut_mid (ls : List (List Nat)) : cutV (ls.map strS) (some 1) (some (-1)) = (mid ls).map strS := by
  unfold cutV mid
  rw [List.length_map]
  have h1 : HT.sIx ls.length 0 (some 1) = min 1 ls.length := by
    unfold HT.sIx
    simp
  have h2 : HT.sIx ls.length ls.length (some (-1)) = ls.length - 1 := by
    unfold HT.sIx
    simp
    omega
  rw [h1, h2, List.dropLast_eq_take, List.length_drop, ← List.map_drop, ← List.map_take]
  by_cases h : ls.length = 0
  · rw [List.length_eq_zero_iff.mp h]
    rfl
  · rw [Nat.min_eq_left (by omega)]
theorem g_spl {x y : Str} {H : Hp} {Q : VK} (hy : (y.length == 0) = false) (hx : x.length + 2 ≤ sizeLine) (k : ∀ p H', H p = none → Same H H' → H' p = some (.lst ((Txt.split x y).map V.str)) → Q (.ref p) H') :
    ∃ a b, V.str x = .str a ∧ [V.str y] = [.str b] ∧ (b.length == 0) = false ∧ a.length + 2 ≤ sizeLine ∧ rNewStrs (Txt.split a b) H Q :=
  ⟨x, y, rfl, rfl, hy, hx, New.to (Q := fun p H' => Q (.ref p) H') k⟩
theorem scan_at {b : Bool} {s ls : List (List Nat)} {k i : Nat} {l : List Nat} (h : ls[i]? = some l) : scan b s k (ls.drop i) = if okLine b s l = true then scan b (s ++ [w0 l]) (k + 1) (ls.drop (i + 1)) else some k := by
  obtain ⟨hl, e⟩ := List.getElem?_eq_some_iff.mp h
  rw [List.drop_eq_getElem_cons hl, e]
  rfl
def spPlat : Sp := fun vs H Q _ => ∃ (l : List Nat), vs = [.str (SX.S l)] ∧ l.length ≤ 100000 ∧ Q (.bl (isPlat l)) H
/-- the way out of a def that finds the line n at fault -/
def OutX (C : Addr) (H : Hp) (E : XK) (o : Option Nat) : Prop := ∀ n, o = some n → ∀ d H', Same H H' → H' d = some (.xd [("line", .int (n : Int))]) → E (.ref C) (some d) H'
def spLines (C : Addr) : Sp := fun vs H Q E => ∃ (t h : List Nat), vs = [.str (SX.S t), .str (SX.S h)] ∧ t.length ≤ 100000 ∧
  (fault3 h t = none → ∀ q H', Same H H' → H' q = some (.lst ((mid (lnL t)).map strS)) → Q (.ref q) H') ∧ OutX C H E (fault3 h t)
def spReadI (C : Addr) : Sp := fun vs H Q E => ∃ (t : List Nat), vs = [.str (SX.S t)] ∧ t.length ≤ 100000 ∧
  (fault false t = none → ∀ q H', Same H H' → H' q = some (.lst ((mid (lnL t)).map strS)) → Q (.ref q) H') ∧ OutX C H E (fault false t)
/-- a list of pairs of texts at q -/
def PrsAt (H : Hp) (q : Addr) (ps : List (List Nat × List Nat)) : Prop := ∃ es : List (Addr × List Nat × List Nat), es.map (·.2) = ps ∧ H q = some (.lst (es.map fun e => V.ref e.1)) ∧ ∀ e ∈ es, H e.1 = some (.tup [strS e.2.1, strS e.2.2])
def prs (t : List Nat) : List (List Nat × List Nat) := (mid (lnL t)).map fun l => (w0 l, w1 l)
def spReadB (C : Addr) : Sp := fun vs H Q E => ∃ (t : List Nat), vs = [.str (SX.S t)] ∧ t.length ≤ 100000 ∧
  (fault true t = none → ∀ q H', Same H H' → PrsAt H' q (prs t) → Q (.ref q) H') ∧ OutX C H E (fault true t)
def refsL (k : Str) (t : List Nat) : List (List Nat) := if k = "layer" then [] else if k = "image" then mid (lnL t) else (prs t).map (·.2)
def faultK (k : Str) (t : List Nat) : Option Nat := if k = "layer" then none else fault (!decide (k = "image")) t
def spRefs (C : Addr) : Sp := fun vs H Q E => ∃ (k : Str) (t : List Nat), vs = [.str k, .str (SX.S t)] ∧ t.length ≤ 100000 ∧
  (faultK k t = none → ∀ q H', Same H H' → H' q = some (.lst ((refsL k t).map strS)) → Q (.ref q) H') ∧ OutX C H E (faultK k t)
section
variable {P : Program} {w : World} {K : PySem.W.Frag} {mg : Str → Option Value} {base : Heap} {C_Claims C_Collector C_Store C_Uploads C_Registry C_Refused C_Malformed a_KINDS a_BELOW a_CLAIMED : Addr}
theorem ok_Malformed___init__ (T : Txt w K mg C_Claims C_Collector C_Store C_Uploads C_Registry C_Refused C_Malformed a_KINDS a_BELOW a_CLAIMED) : Exo P w K mg base 1 "Malformed" C_Malformed (spXInit C_Malformed "line") := by
  refine exo_mk T.ox_Malformed T.i_Malformed sc_Malformed___init__ (fun vs H Q E h => ?_) (fun f cdv A outer s H vs Q E hr h => ?_)
  · obtain ⟨a, v, rfl, _⟩ := h
    rfl
  · obtain ⟨a, v, rfl, ha, k⟩ := h
    refine ⟨_, (pss_one (ps_ost (pv 0) (pv 1))), ?_⟩
    exact ⟨_, rfl, _, rfl, a, C_Malformed, rfl, T.ox_Malformed, T.na_Malformed_line, .inl ⟨ha, fun dx h1 h2 => k dx h1 h2⟩⟩
theorem ok_is_platform (T : Txt w K mg C_Claims C_Collector C_Store C_Uploads C_Registry C_Refused C_Malformed a_KINDS a_BELOW a_CLAIMED) : Cal P w K mg base 1 "is_platform" spPlat := by
  refine cal_mk T.d_is_platform sc_is_platform (fun vs H Q E h => ?_) (fun f cdv A outer s H vs Q E hr h => ?_)
  · obtain ⟨l, rfl, _⟩ := h
    rfl
  · obtain ⟨l, rfl, hl, q⟩ := h
    refine ⟨_, (pss_cons (ps_if (PW.pt (pw_or (pt_cmpR op_lt (pe_callB call_len_str' (by rfl) T.n_len (by decide +kernel) (pa_cons (pv 0) pa_nil)) (pe_int) (nomark _)) (pw_or1 (pt_cmpR op_gt (pe_callB call_len_str' (by rfl) T.n_len (by decide +kernel) (pa_cons (pv 0) pa_nil)) (pe_int) (nomark _))))) (pss_one (ps_ret (pe_bl))) pss_nil)
      (pss_cons (ps_for PassesOwn.never rfl (pi_str (pv 0)) (pg_name (i := 1) sc_is_platform.nd rfl (by first | exact Or.inl rfl | exact Or.inr rfl)) (pss_one (ps_if (pt_cmpR op_notInSg (pv 1) (pe_gc rfl T.g_LETTERS) (by rfl)) (pss_one (ps_ret (pe_bl))) pss_nil)))
      (pss_one (ps_ret (pe_bl))))), ?_⟩
    have hz : (SX.S l).length ≤ sizeLine := by rw [SX.S_len]; exact Nat.le_trans hl (by decide)
    walk_at "lw"
    refine g_lenT hz ?_
    rw [SX.S_len]
    walk_at "lw"
    refine if2 (fun h1 => ?_) (fun h1 => ?_)
    · walk_at "lw"
      have e : isPlat l = false := by
        unfold isPlat
        rw [decide_eq_false (by omega : ¬ 1 ≤ l.length)]
        rfl
      rw [e] at q
      exact q
    · walk_at "lw"
      refine g_lenT hz ?_
      rw [SX.S_len]
      walk_at "lw"
      refine if2 (fun h2 => ?_) (fun h2 => ?_)
      · walk_at "lw"
        have e : isPlat l = false := by
          unfold isPlat
          rw [decide_eq_false (by omega : ¬ l.length ≤ 10), Bool.and_false]
          rfl
        rw [e] at q
        exact q
      · walk_at "lw"
        refine for_at walk_sgs (fun i σ H' => H' = H ∧ (∀ c ∈ l.take i, c ∈ lowS) ∧ ∃ v : Option V, σ = [some (.str (SX.S l)), v]) ⟨rfl, by simp, none, rfl⟩ (fun _ _ _ _ => trivial) ?_ ?_
        · rintro i x σ H' hx ⟨rfl, hi, v, rfl⟩
          obtain ⟨c, hc, rfl⟩ := sgs_at hx
          walk_at "lw"
          refine ifn2 (fun hm => ?_) (fun hm => ?_)
          · walk_at "lw"
            refine ⟨rfl, fun d hd => ?_, _, rfl⟩
            rw [take_ok hc] at hd
            rcases List.mem_append.mp hd with z | z
            · exact hi d z
            · rw [List.mem_singleton.mp z]
              rw [lowS_eq] at hm
              simpa using hm
          · walk_at "lw"
            have e : isPlat l = false := by
              unfold isPlat
              rw [Bool.and_eq_false_iff]
              right
              rw [List.all_eq_false]
              refine ⟨c, List.mem_of_getElem? hc, ?_⟩
              rw [lowS_eq] at hm
              simpa using hm
            rw [e] at q
            exact q
        · rintro σ H' ⟨rfl, hi, v, rfl⟩
          rw [sgs_len, List.take_length] at hi
          walk_at "lw"
          have e : isPlat l = true := by
            unfold isPlat
            rw [Bool.and_eq_true, Bool.and_eq_true, decide_eq_true_eq, decide_eq_true_eq]
            exact ⟨⟨by omega, by omega⟩, List.all_eq_true.mpr fun c hc => decide_eq_true (hi c hc)⟩
          rw [e] at q
          exact q
theorem ok_lines_of (T : Txt w K mg C_Claims C_Collector C_Store C_Uploads C_Registry C_Refused C_Malformed a_KINDS a_BELOW a_CLAIMED) : CalX P w K mg base 3 "lines_of" (spLines C_Malformed) := by
  have x_Malformed : Exo P w K mg base 1 "Malformed" C_Malformed (spXInit C_Malformed "line") := ok_Malformed___init__ T
  refine calX_mk T.d_lines_of sc_lines_of (fun vs H Q E h => ?_) (fun f cdv A outer s H vs Q E hr h => ?_)
  · obtain ⟨t, h, rfl, _⟩ := h
    rfl
  · obtain ⟨t, h, rfl, hl, k, kx⟩ := h
    refine ⟨_, (pss_cons (ps_set (i := 2) sc_lines_of.nd rfl (by first | exact Or.inl rfl | exact Or.inr rfl) (pe_split (pv 0) (pe_str)))
      (pss_cons (ps_if (pt_cmpR op_ne (pe_ix ix_list (pv 2) (pe_int) (fun _ _ => rfl)) (pv 1) (nomark _)) (pss_one (ps_rs rfl (takes_of rfl rfl rfl rfl) (pmk_x x_Malformed hr (by first | decide | omega) rfl (pa_cons (pe_int) pa_nil)))) pss_nil)
      (pss_cons (ps_if (pt_cmpR op_ne (pe_ix ix_list (pv 2) (pe_un un_neg (pe_int)) (fun _ _ => rfl)) (pe_str) (nomark _)) (pss_one (ps_rs rfl (takes_of rfl rfl rfl rfl) (pmk_x x_Malformed hr (by first | decide | omega) rfl (pa_cons (pe_op op_sub (pe_callB call_len_seq' (by rfl) T.n_len (by decide +kernel) (pa_cons (pv 2) pa_nil)) (pe_int)) pa_nil)))) pss_nil)
      (pss_cons (ps_if (pt_cmpR op_gt (pe_callB call_len_seq' (by rfl) T.n_len (by decide +kernel) (pa_cons (pv 2) pa_nil)) (pe_op op_add (pe_gc rfl T.g_MAX_LINES) (pe_int)) (nomark _)) (pss_one (ps_rs rfl (takes_of rfl rfl rfl rfl) (pmk_x x_Malformed hr (by first | decide | omega) rfl (pa_cons (pe_op op_add (pe_gc rfl T.g_MAX_LINES) (pe_int)) pa_nil)))) pss_nil)
      (pss_one (ps_ret (pe_slice sl_list (pv 2) (po_some (pe_int)) (po_some (pe_un un_neg (pe_int)))))))))), ?_⟩
    have hp := ln_pos t
    have hle := ln_le t
    walk_at "lw"
    refine g_spl (by decide +kernel) (by rw [SX.S_len]; exact Nat.le_trans (show t.length + 2 ≤ 100002 by omega) (by decide)) fun q H1 nq s1 hq => ?_
    rw [split_ln, List.map_map] at hq
    have hq : H1 q = some (.lst ((lnL t).map strS)) := hq
    have a0 : atI (lnL t) 0 = some ((lnL t).getD 0 []) := by
      have := atI_nat (xs := lnL t) (j := 0) (v := (lnL t).getD 0 []) (by rw [List.getD_eq_getElem?_getD, List.getElem?_eq_getElem hp]; rfl)
      exact this
    have a1 : atI (lnL t) (-1) = some ((lnL t).getD ((lnL t).length - 1) []) := by
      have h1 : (lnL t)[(lnL t).length - 1]? = some ((lnL t).getD ((lnL t).length - 1) []) := by rw [List.getD_eq_getElem?_getD, List.getElem?_eq_getElem (by omega)]; rfl
      unfold atI
      rw [show ixN (lnL t).length (-1) = some ((lnL t).length - 1) by unfold ixN; rw [if_neg (by decide), if_pos (by omega)]; congr 1; omega]
      exact h1
    walk_at "lw"
    refine g_rix (SqL.of hq) (atI_map a0) ?_
    walk_at "lw"
    show if (!decide (V.str (SX.S ((lnL t).getD 0 [])) = V.str (SX.S h))) = true then _ else _
    refine ifn2 (fun e0 => ?_) (fun e0 => ?_)
    · have e0 : (lnL t).getD 0 [] = h := SX.S_inj (str_eq.mp e0)
      walk_at "lw"
      refine ⟨_, rfl, ?_⟩
      refine g_rix (SqL.of hq) (atI_map a1) ?_
      walk_at "lw"
      show if (!decide (V.str (SX.S ((lnL t).getD ((lnL t).length - 1) [])) = V.str "")) = true then _ else _
      refine ifn2 (fun e1 => ?_) (fun e1 => ?_)
      · have e1 : (lnL t).getD ((lnL t).length - 1) [] = [] := SX.S_inj (by rw [← empty_S]; exact str_eq.mp e1)
        walk_at "lw"
        rw [List.length_map]
        refine if2 (fun e2 => ?_) (fun e2 => ?_)
        · have e : fault3 h t = some 51 := by
            unfold fault3
            rw [if_neg (fun z => z e0), if_neg (fun z => z e1), if_pos (by omega)]
          walk_at "lw"
          exact g_rmkO fun d H' _ s' hd => kx _ e d H' (s1.trans s') hd
        · have e : fault3 h t = none := by
            unfold fault3
            rw [if_neg (fun z => z e0), if_neg (fun z => z e1), if_neg (by omega)]
          walk_at "lw"
          refine ⟨_, rfl, ?_⟩
          walk_at "lw"
          refine g_slL (SqL.of hq) fun q2 H2 _ s2 hq2 => ?_
          rw [cut_mid] at hq2
          walk_at "lw"
          exact k e q2 H2 (s1.trans s2) hq2
      · have e1 : ¬ (lnL t).getD ((lnL t).length - 1) [] = [] := fun z => e1 (by rw [z]; exact str_eq.mpr empty_S.symm)
        have e : fault3 h t = some ((lnL t).length - 1) := by
          unfold fault3
          rw [if_neg (fun z => z e0), if_pos e1]
        walk_at "lw"
        refine g_rmkO fun d H' _ s' hd => kx _ e d H' (s1.trans s') ?_
        rw [hd, List.length_map]
        congr 6
        omega
    · have e0 : ¬ (lnL t).getD 0 [] = h := fun z => e0 (by rw [z])
      have e : fault3 h t = some 0 := by
        unfold fault3
        rw [if_pos e0]
      walk_at "lw"
      exact g_rmkO fun d H' _ s' hd => kx _ e d H' (s1.trans s') hd
end
end Lw

/-! ## images, bundles, references -/
namespace Lw
open PySem L2
open PyProof.Rows (envOfC)
theorem OutX.mk {C : Addr} {H : Hp} {E : XK} {o : Option Nat} {n : Nat} {z : Int} (k : OutX C H E o) (e : o = some n) (hz : z = (n : Int)) : ∀ d H', Same H H' → H' d = some (.xd [("line", .int z)]) → E (.ref C) (some d) H' := by
  subst hz
  exact fun d H' s h => k n e d H' s h
theorem fault_of3 {b : Bool} {t : List Nat} {n : Nat} (h : fault3 (kw b) t = some n) : fault b t = some n := by
  unfold fault
  rw [h]
theorem fault_one {t : List Nat} (h : fault3 (kw true) t = none) (h2 : (lnL t).length = 2) : fault true t = some 1 := by
  unfold fault
  rw [h]
  exact if_pos ⟨rfl, h2⟩
theorem fault_scan {b : Bool} {t : List Nat} (h : fault3 (kw b) t = none) (h2 : ¬ (b = true ∧ (lnL t).length = 2)) : fault b t = scan b [] 1 (mid (lnL t)) := by
  unfold fault
  rw [h]
  exact if_neg h2
theorem kw_ne (b : Bool) : kw b ≠ [] := by cases b <;> decide
theorem ln_two {b : Bool} {t : List Nat} (h : fault3 (kw b) t = none) : 2 ≤ (lnL t).length := by
  have hp := ln_pos t
  unfold fault3 at h
  split at h
  · cases h
  · rename_i h1
    split at h
    · cases h
    · rename_i h2
      by_cases h3 : (lnL t).length = 1
      · rw [h3] at h2
        have e1 := Classical.not_not.mp h1
        have e2 := Classical.not_not.mp h2
        exact absurd (e1.symm.trans e2) (kw_ne b)
      · omega
theorem _root_.L2.Same.chg {H H' H2 : Hp} {p : Addr} (s : Same H H') (n : H p = none) (k : ∀ b, b ≠ p → H2 b = H' b) : Same H H2 := fun b o e => by rw [k b (ne_of_none e n)]; exact s b o e
section
variable {σ : L2.St} {H : Hp} {D : Ends} {g : TG} {tl : TA}
def kFor2 (g : TG) (tb : TS) (D : Ends) (σ : L2.St) (vs : List V) (H : Hp) : Prop := ∃ a b : Int, vs = [.int a, .int b] ∧ (-(2 ^ 62) ≤ a ∧ a < 2 ^ 62 ∧ -(2 ^ 62) ≤ b ∧ b < 2 ^ 62) ∧ kFor g tb D σ (Itr a (b - a).toNat) H
theorem g_forR2 {tb : TS} (k : tl σ H (kFor2 g tb D σ)) : tFor (iRng2 tl) g tb D σ H := k
theorem g_for2 {tb : TS} {a b : Int} (h0 : 0 ≤ a) (h1 : a ≤ 100000) (h2 : 0 ≤ b) (h3 : b ≤ 100000) (Pv : Nat → L2.St → Hp → Prop) (hi : Pv 0 σ H) (hs : ∀ (i : Nat) σ H, i < (b - a).toNat → Pv i σ H → g (.int (a + (i : Int))) σ H fun σ2 H2 => tb { D with nx := Pv (i + 1), ct := Pv (i + 1), bk := D.nx } σ2 H2)
    (hd : ∀ σ H, Pv (b - a).toNat σ H → D.nx σ H) : kFor2 g tb D σ [.int a, .int b] H :=
  ⟨a, b, rfl, ⟨by omega, by omega, by omega, by omega⟩, for_range Pv hi hs hd⟩
end
theorem w0_at {l : List Nat} : (wdL l)[0]? = some (w0 l) := by
  have h := wd_pos l
  unfold w0
  rw [List.getD_eq_getElem?_getD, List.getElem?_eq_getElem h]
  rfl
theorem w1_at {l : List Nat} (h : (wdL l).length = 2) : (wdL l)[1]? = some (w1 l) := by
  unfold w1
  rw [List.getD_eq_getElem?_getD, List.getElem?_eq_getElem (by omega)]
  rfl
theorem w0_len (l : List Nat) : (w0 l).length ≤ l.length := wd_part (List.mem_of_getElem? w0_at)
theorem w1_len {l : List Nat} (h : (wdL l).length = 2) : (w1 l).length ≤ l.length := wd_part (List.mem_of_getElem? (w1_at h))
theorem S_mem {a : List Nat} {s : List (List Nat)} : SX.S a ∈ s.map SX.S ↔ a ∈ s := by
  rw [List.mem_map]
  exact ⟨fun ⟨b, hb, e⟩ => by rw [← SX.S_inj e]; exact hb, fun h => ⟨a, h, rfl⟩⟩
section
variable {P : Program} {w : World} {K : PySem.W.Frag} {mg : Str → Option Value} {base : Heap} {C_Claims C_Collector C_Store C_Uploads C_Registry C_Refused C_Malformed a_KINDS a_BELOW a_CLAIMED : Addr}
theorem ok_read_image (T : Txt w K mg C_Claims C_Collector C_Store C_Uploads C_Registry C_Refused C_Malformed a_KINDS a_BELOW a_CLAIMED) : CalX P w K mg base 4 "read_image" (spReadI C_Malformed) := by
  have x_Malformed : Exo P w K mg base 1 "Malformed" C_Malformed (spXInit C_Malformed "line") := ok_Malformed___init__ T
  have c_is_address : Cal P w K mg base 1 "is_address" spIsAdr := ok_is_address T
  have c_lines_of : CalX P w K mg base 3 "lines_of" (spLines C_Malformed) := ok_lines_of T
  refine calX_mk T.d_read_image sc_read_image (fun vs H Q E h => ?_) (fun f cdv A outer s H vs Q E hr h => ?_)
  · obtain ⟨t, rfl, _⟩ := h
    rfl
  · obtain ⟨t, rfl, hl, k, kx⟩ := h
    refine ⟨_, (pss_cons (ps_set (i := 1) sc_read_image.nd rfl (by first | exact Or.inl rfl | exact Or.inr rfl) (pe_cX c_lines_of (takes_of rfl rfl rfl rfl) hr (by first | decide | omega) rfl (pa_cons (pv 0) (pa_cons (pe_str) pa_nil))))
      (pss_cons (ps_for (passes_of rfl) rfl (pi_range1 (by rfl) T.n_range (pa_cons (pe_callB call_len_seq' (by rfl) T.n_len (by decide +kernel) (pa_cons (pv 1) pa_nil)) pa_nil)) (pg_name (i := 2) sc_read_image.nd rfl (by first | exact Or.inl rfl | exact Or.inr rfl)) (pss_one (ps_if (pt_not (pt_val (pe_c c_is_address hr (by first | decide | omega) rfl (pa_cons (pe_ix ix_list (pv 1) (pv 2) (fun _ _ => rfl)) pa_nil)))) (pss_one (ps_rs rfl (takes_of rfl rfl rfl rfl) (pmk_x x_Malformed hr (by first | decide | omega) rfl (pa_cons (pe_op op_add (pv 2) (pe_int)) pa_nil)))) pss_nil)))
      (pss_one (ps_ret (pv 1))))), ?_⟩
    walk_at "lw"
    refine ⟨t, imgW, by rw [imgW_eq], hl, fun h3 q H1 s1 hq => ?_, fun n hn d H1 s1 hd => kx.mk (fault_of3 (b := false) hn) rfl d H1 s1 hd⟩
    have hf := fault_scan (b := false) h3 (fun z => by cases z.1)
    have hm : (mid (lnL t)).length ≤ 100000 := by rw [mid_len]; have := ln_le t; omega
    rw [hf] at k kx
    walk_at "lw"
    rw [List.length_map]
    refine g_for1 (by omega) (by omega) (fun i σ H' => H' = H1 ∧ (∃ s, scan false [] 1 (mid (lnL t)) = scan false s (1 + i) ((mid (lnL t)).drop i)) ∧ ∃ v : Option V, σ = [some (.str (SX.S t)), some (.ref q), v]) ⟨rfl, ⟨[], rfl⟩, none, rfl⟩ ?_ ?_
    · rintro i σ H' hi ⟨rfl, ⟨s, hs⟩, v, rfl⟩
      obtain ⟨l, hl2⟩ : ∃ l, (mid (lnL t))[i]? = some l := ⟨_, List.getElem?_eq_getElem (by omega)⟩
      have hlen := ln_part (mid_mem (List.mem_of_getElem? hl2))
      rw [scan_at hl2] at hs
      walk_at "lw"
      refine g_rix (SqL.of hq) (atI_map (atI_nat hl2)) ?_
      walk_at "lw"
      refine ⟨l, rfl, by omega, ?_⟩
      walk_at "lw"
      cases hb : isAdr l with
      | true =>
        walk_at "lw"
        refine ⟨rfl, ⟨_, hs.trans (if_pos ?_)⟩, _, rfl⟩
        exact hb
      | false =>
        have e := hs.trans (if_neg (show ¬ okLine false s l = true by unfold okLine; rw [if_neg (by decide), hb]; decide))
        walk_at "lw"
        exact g_rmkO fun d H2 _ s2 hd => kx.mk e (by omega) d H2 (s1.trans s2) hd
    · rintro σ H' ⟨rfl, ⟨s, hs⟩, v, rfl⟩
      rw [show ((mid (lnL t)).length : Int).toNat = (mid (lnL t)).length by omega, List.drop_length] at hs
      walk_at "lw"
      exact k hs q H' s1 hq
theorem ok_read_bundle (T : Txt w K mg C_Claims C_Collector C_Store C_Uploads C_Registry C_Refused C_Malformed a_KINDS a_BELOW a_CLAIMED) : CalX P w K mg base 4 "read_bundle" (spReadB C_Malformed) := by
  have x_Malformed : Exo P w K mg base 1 "Malformed" C_Malformed (spXInit C_Malformed "line") := ok_Malformed___init__ T
  have c_is_address : Cal P w K mg base 1 "is_address" spIsAdr := ok_is_address T
  have c_is_platform : Cal P w K mg base 1 "is_platform" spPlat := ok_is_platform T
  have c_lines_of : CalX P w K mg base 3 "lines_of" (spLines C_Malformed) := ok_lines_of T
  refine calX_mk T.d_read_bundle sc_read_bundle (fun vs H Q E h => ?_) (fun f cdv A outer s H vs Q E hr h => ?_)
  · obtain ⟨t, rfl, _⟩ := h
    rfl
  · obtain ⟨t, rfl, hl, k, kx⟩ := h
    have hu := hu_of hr
    refine ⟨_, (pss_cons (ps_set (i := 1) sc_read_bundle.nd rfl (by first | exact Or.inl rfl | exact Or.inr rfl) (pe_cX c_lines_of (takes_of rfl rfl rfl rfl) hr (by first | decide | omega) rfl (pa_cons (pv 0) (pa_cons (pe_str) pa_nil))))
      (pss_cons (ps_if (pt_cmpR op_eq (pe_callB call_len_seq' (by rfl) T.n_len (by decide +kernel) (pa_cons (pv 1) pa_nil)) (pe_int) (nomark _)) (pss_one (ps_rs rfl (takes_of rfl rfl rfl rfl) (pmk_x x_Malformed hr (by first | decide | omega) rfl (pa_cons (pe_int) pa_nil)))) pss_nil)
      (pss_cons (ps_set (i := 2) sc_read_bundle.nd rfl (by first | exact Or.inl rfl | exact Or.inr rfl) (pe_lst pa_nil))
      (pss_cons (ps_set (i := 3) sc_read_bundle.nd rfl (by first | exact Or.inl rfl | exact Or.inr rfl) (pe_dnewK))
      (pss_cons (ps_for (passes_of rfl) rfl (pi_range1 (by rfl) T.n_range (pa_cons (pe_callB call_len_seq' (by rfl) T.n_len (by decide +kernel) (pa_cons (pv 1) pa_nil)) pa_nil)) (pg_name (i := 4) sc_read_bundle.nd rfl (by first | exact Or.inl rfl | exact Or.inr rfl)) (pss_cons (ps_set (i := 5) sc_read_bundle.nd rfl (by first | exact Or.inl rfl | exact Or.inr rfl) (pe_split (pe_ix ix_list (pv 1) (pv 4) (fun _ _ => rfl)) (pe_str)))
      (pss_cons (ps_if (PW.pt (pw_or (pt_cmpR op_ne (pe_callB call_len_seq' (by rfl) T.n_len (by decide +kernel) (pa_cons (pv 5) pa_nil)) (pe_int) (nomark _)) (pw_or (pt_not (pt_val (pe_c c_is_platform hr (by first | decide | omega) rfl (pa_cons (pe_ix ix_list (pv 5) (pe_int) (fun _ _ => rfl)) pa_nil)))) (pw_or1 (pt_not (pt_val (pe_c c_is_address hr (by first | decide | omega) rfl (pa_cons (pe_ix ix_list (pv 5) (pe_int) (fun _ _ => rfl)) pa_nil)))))))) (pss_one (ps_rs rfl (takes_of rfl rfl rfl rfl) (pmk_x x_Malformed hr (by first | decide | omega) rfl (pa_cons (pe_op op_add (pv 4) (pe_int)) pa_nil)))) pss_nil)
      (pss_cons (ps_if (pt_cmp (pc_din hu (pe_ix ix_list (pv 5) (pe_int) (fun _ _ => rfl)) (pv 3))) (pss_one (ps_rs rfl (takes_of rfl rfl rfl rfl) (pmk_x x_Malformed hr (by first | decide | omega) rfl (pa_cons (pe_op op_add (pv 4) (pe_int)) pa_nil)))) pss_nil)
      (pss_cons (ps_dput hu (pv 3) (pe_ix ix_list (pv 5) (pe_int) (fun _ _ => rfl)) (pe_bl) rfl)
      (pss_one (ps_expr (pe_bm PySem.F.plainAttrs_list PySem.F.slot_list_append PySem.F.type_list_append mt_append (pv 2) (pa_cons (pe_tup (pa_cons (pe_ix ix_list (pv 5) (pe_int) (fun _ _ => rfl)) (pa_cons (pe_ix ix_list (pv 5) (pe_int) (fun _ _ => rfl)) pa_nil))) pa_nil)))))))))
      (pss_one (ps_ret (pv 2)))))))), ?_⟩
    walk_at "lw"
    refine ⟨t, bunW, by rw [bunW_eq], hl, fun h3 q H1 s1 hq => ?_, fun n hn d H1 s1 hd => kx.mk (fault_of3 (b := true) hn) rfl d H1 s1 hd⟩
    have h2 := ln_two (b := true) h3
    have hm0 := mid_len (lnL t)
    have hm : (mid (lnL t)).length ≤ 100000 := by have := ln_le t; omega
    walk_at "lw"
    rw [List.length_map]
    refine if2 (fun hz => ?_) (fun hz => ?_)
    · have hz : (mid (lnL t)).length = 0 := by have := int_eq.mp hz; omega
      walk_at "lw"
      exact g_rmkO fun d H2 _ s2 hd => kx.mk (fault_one h3 (by omega)) rfl d H2 (s1.trans s2) hd
    · have hf := fault_scan (b := true) h3 (fun z => hz (by rw [hm0, z.2]; rfl))
      rw [hf] at k kx
      walk_at "lw"
      refine g_klst (by show 0 ≤ 100; decide) fun en H2 nen s2 hen => ?_
      walk_at "lw"
      refine g_dnew fun sn H3 nsn s3 hsn => ?_
      have hen3 := s3.at hen
      have neq : q ≠ en := ne_of_none hq nen
      have nes : en ≠ sn := ne_of hen3 hsn (by intro z; cases z)
      have nqs : q ≠ sn := ne_of ((s2.trans s3).at hq) hsn (by intro z; cases z)
      have n0e : H en = none := s1.free nen
      have n0s : H sn = none := (s1.trans s2).free nsn
      walk_at "lw"
      rw [List.length_map]
      refine g_for1 (by omega) (by omega) (fun i σ H' => Same H H' ∧ H' q = some (.lst ((mid (lnL t)).map strS)) ∧ scan true [] 1 (mid (lnL t)) = scan true (((mid (lnL t)).take i).map w0) (1 + i) ((mid (lnL t)).drop i) ∧
        H' sn = some (.dK (mkS ((((mid (lnL t)).take i).map w0).map SX.S) fun _ => .bl true)) ∧ PrsAt H' en (((mid (lnL t)).take i).map fun l => (w0 l, w1 l)) ∧ ∃ v v2 : Option V, σ = [some (.str (SX.S t)), some (.ref q), some (.ref en), some (.ref sn), v, v2]) ?_ ?_ ?_
      · exact ⟨(s1.trans s2).trans s3, (s2.trans s3).at hq, rfl, hsn, ⟨[], rfl, hen3, fun e he => nomatch he⟩, _, _, rfl⟩
      · rintro i σ H4 hi ⟨s4, hq4, hs, hs4, ⟨es, es1, es2, es3⟩, v, v2, rfl⟩
        obtain ⟨l, hl2⟩ : ∃ l, (mid (lnL t))[i]? = some l := ⟨_, List.getElem?_eq_getElem (by omega)⟩
        have hlen := ln_part (mid_mem (List.mem_of_getElem? hl2))
        rw [scan_at hl2] at hs
        have hesl : es.length ≤ 100000 := by
          have := congrArg List.length es1
          rw [List.length_map, List.length_map, List.length_take] at this
          omega
        generalize hseen : ((mid (lnL t)).take i).map w0 = seen at hs hs4
        have hsl : seen.length ≤ i := by rw [← hseen, List.length_map]; exact List.length_take_le _ _
        walk_at "lw"
        refine g_rix (SqL.of hq4) (atI_map (atI_nat hl2)) ?_
        refine g_rstr (x := SX.S l) ?_
        walk_at "lw"
        refine g_spl (by decide +kernel) (by rw [SX.S_len]; exact Nat.le_trans (show l.length + 2 ≤ 100002 by omega) (by decide)) fun wq H5 nwq s5 hwq => ?_
        rw [split_wd, List.map_map] at hwq
        have hwq : H5 wq = some (.lst ((wdL l).map strS)) := hwq
        have s45 := s4.trans s5
        have bad : okLine true seen l = false → scan true [] 1 (mid (lnL t)) = some (1 + i) := fun hb => by
          rw [hs, if_neg (by rw [hb]; decide)]
        walk_at "lw"
        rw [List.length_map]
        refine ifn2 (fun w2 => ?_) (fun w2 => ?_)
        · have w2 : (wdL l).length = 2 := by have := int_eq.mp w2; omega
          have hw0 := w0_len l
          have hw1 := w1_len w2
          walk_at "lw"
          refine g_rix (SqL.of hwq) (atI_map (atI_nat (j := 0) w0_at)) ?_
          walk_at "lw"
          refine ⟨w0 l, rfl, by omega, ?_⟩
          walk_at "lw"
          cases hp : isPlat (w0 l) with
          | false =>
            walk_at "lw"
            exact g_rmkO fun d H6 _ s6 hd => kx.mk (bad (by unfold okLine; rw [if_pos rfl, hp, Bool.false_and, Bool.and_false])) (by omega) d H6 (s45.trans s6) hd
          | true =>
            walk_at "lw"
            refine g_rix (SqL.of hwq) (atI_map (atI_nat (j := 1) (w1_at w2))) ?_
            walk_at "lw"
            refine ⟨w1 l, rfl, by omega, ?_⟩
            walk_at "lw"
            cases ha : isAdr (w1 l) with
            | false =>
              walk_at "lw"
              exact g_rmkO fun d H6 _ s6 hd => kx.mk (bad (by unfold okLine; rw [if_pos rfl, ha, Bool.false_and, Bool.and_false, Bool.and_false])) (by omega) d H6 (s45.trans s6) hd
            | true =>
              walk_at "lw"
              refine g_rix (SqL.of hwq) (atI_map (atI_nat (j := 0) w0_at)) ?_
              walk_at "lw"
              refine g_rdinS (.of (s5.at hs4)) ?_
              rw [valV_mkS]
              by_cases hin : w0 l ∈ seen
              · rw [if_pos (S_mem.mpr hin)]
                walk_at "lw"
                exact g_rmkO fun d H6 _ s6 hd => kx.mk (bad (by unfold okLine; rw [if_pos rfl, decide_eq_true hin, Bool.not_true, Bool.and_false, Bool.and_false, Bool.and_false])) (by omega) d H6 (s45.trans s6) hd
              · rw [if_neg (fun z => hin (S_mem.mp z))]
                have good : okLine true seen l = true := by
                  unfold okLine
                  rw [if_pos rfl, decide_eq_true w2, hp, ha, decide_eq_false hin]
                  rfl
                rw [if_pos good] at hs
                walk_at "lw"
                refine g_rix (SqL.of hwq) (atI_map (atI_nat (j := 0) w0_at)) ?_
                walk_at "lw"
                refine g_rdputS (s5.at hs4) (by rw [mkS_len, List.length_map]; omega) fun H6 h6 k6 => ?_
                rw [putK_mkS_new (fun z => hin (S_mem.mp z))] at h6
                have nws : wq ≠ sn := ne_of hwq (s5.at hs4) (by intro z; cases z)
                have hwq6 : H6 wq = some (.lst ((wdL l).map strS)) := by rw [k6 wq nws]; exact hwq
                have s6 := s45.chg n0s k6
                have en6 : H6 en = some (.lst (es.map fun e => V.ref e.1)) := by rw [k6 en nes]; exact s5.at es2
                have q6 : H6 q = some (.lst ((mid (lnL t)).map strS)) := by rw [k6 q nqs]; exact s5.at hq4
                have t6 : ∀ e ∈ es, H6 e.1 = some (.tup [strS e.2.1, strS e.2.2]) := fun e he => by
                  have := s5.at (es3 e he)
                  rw [k6 e.1 (ne_of this (s5.at hs4) (by intro z; cases z))]
                  exact this
                walk_at "lw"
                refine g_tyL en6 ?_
                walk_at "lw"
                refine g_rix (SqL.of hwq6) (atI_map (atI_nat (j := 0) w0_at)) ?_
                walk_at "lw"
                refine g_rix (SqL.of hwq6) (atI_map (atI_nat (j := 1) (w1_at w2))) ?_
                walk_at "lw"
                refine g_ktup (by show 2 ≤ 100; decide) fun tp H7 _ s7 htp => ?_
                walk_at "lw"
                refine g_append (s7.at en6) (by rw [List.length_map]; have := congrArg List.length es1; rw [List.length_map, List.length_map, List.length_take] at this; omega) fun H8 h8 k8 => ?_
                walk_at "lw"
                have s8 := (s6.trans s7).chg n0e k8
                have hesn : (mid (lnL t)).take (i + 1) = (mid (lnL t)).take i ++ [l] := take_ok hl2
                refine ⟨s8, by rw [k8 q neq]; exact s7.at q6, ?_, ?_, ⟨es ++ [(tp, w0 l, w1 l)], ?_, ?_, fun e he => ?_⟩, _, _, rfl⟩
                · rw [hs, hesn, List.map_append, hseen, Nat.add_assoc]
                  rfl
                · rw [k8 sn nes.symm, s7.at h6, hesn, List.map_append, hseen, List.map_append]
                  congr 2
                  refine mkS_congr fun j _ => ?_
                  split <;> rfl
                · rw [List.map_append, es1, hesn, List.map_append]
                  rfl
                · rw [h8, List.map_append]
                  rfl
                · rcases List.mem_append.mp he with z | z
                  · have := s7.at (t6 e z)
                    rw [k8 e.1 (ne_of this (s7.at en6) (by intro z; cases z))]
                    exact this
                  · rw [List.mem_singleton.mp z, k8 tp (ne_of htp (s7.at en6) (by intro z; cases z))]
                    exact htp
        · have w2 : ¬ (wdL l).length = 2 := fun z => w2 (by rw [z]; rfl)
          walk_at "lw"
          exact g_rmkO fun d H6 _ s6 hd => kx.mk (bad (by unfold okLine; rw [if_pos rfl, decide_eq_false w2, Bool.false_and])) (by omega) d H6 (s45.trans s6) hd
      · rintro σ H4 ⟨s4, hq4, hs, hs4, hes, v, v2, rfl⟩
        rw [show ((mid (lnL t)).length : Int).toNat = (mid (lnL t)).length by omega] at hs hes
        rw [List.drop_length] at hs
        rw [List.take_length] at hes
        walk_at "lw"
        exact k hs en H4 s4 hes
theorem ok_references (T : Txt w K mg C_Claims C_Collector C_Store C_Uploads C_Registry C_Refused C_Malformed a_KINDS a_BELOW a_CLAIMED) : CalX P w K mg base 5 "references" (spRefs C_Malformed) := by
  have c_read_image : CalX P w K mg base 4 "read_image" (spReadI C_Malformed) := ok_read_image T
  have c_read_bundle : CalX P w K mg base 4 "read_bundle" (spReadB C_Malformed) := ok_read_bundle T
  refine calX_mk T.d_references sc_references (fun vs H Q E h => ?_) (fun f cdv A outer s H vs Q E hr h => ?_)
  · obtain ⟨kd, t, rfl, _⟩ := h
    rfl
  · obtain ⟨kd, t, rfl, hl, k, kx⟩ := h
    refine ⟨_, (pss_cons (ps_if (pt_cmpR op_eq (pv 0) (pe_str) (nomark _)) (pss_one (ps_ret (pe_lst pa_nil))) pss_nil)
      (pss_cons (ps_if (pt_cmpR op_eq (pv 0) (pe_str) (nomark _)) (pss_one (ps_ret (pe_cX c_read_image (takes_of rfl rfl rfl rfl) hr (by first | decide | omega) rfl (pa_cons (pv 1) pa_nil)))) pss_nil)
      (pss_one (ps_ret (pe_lc (own := [("platform", 2), ("address", 3)]) (g := (gTup K 2 (gCons (gName 2) (gCons (gName 3) gNil)))) (by rfl) sc_references.nd (pi_list (pe_cX c_read_bundle (takes_of rfl rfl rfl rfl) hr (by first | decide | omega) rfl (pa_cons (pv 1) pa_nil))) (blkOk_by (own := [("platform", 2), ("address", 3)]) (N := n_references) (sc := defScope s_references) (by decide +kernel)) (fun _ _ _ _ _ => (pg_tup (by rfl) (pgs_cons (pg_name (i := 2) sc_references.nd rfl (by first | exact Or.inl rfl | exact Or.inr rfl)) (pgs_cons (pg_name (i := 3) sc_references.nd rfl (by first | exact Or.inl rfl | exact Or.inr rfl)) pgs_nil)))) (fun _ _ _ _ _ => pts_nil) (fun _ _ _ _ _ => (pv 3))))))), ?_⟩
    unfold faultK refsL at k
    unfold faultK at kx
    walk_at "lw"
    refine if2 (fun h1 => ?_) (fun h1 => ?_)
    · have h1 := str_eq.mp h1
      rw [if_pos h1, if_pos h1] at k
      walk_at "lw"
      exact g_klst (by show 0 ≤ 100; decide) fun q H1 _ s1 hq => k rfl q H1 s1 hq
    · have h1 : ¬ kd = "layer" := fun z => h1 (by rw [z])
      rw [if_neg h1] at k kx
      rw [if_neg h1] at k
      walk_at "lw"
      refine if2 (fun h2 => ?_) (fun h2 => ?_)
      · have h2 := str_eq.mp h2
        rw [decide_eq_true h2, Bool.not_true] at kx
        rw [decide_eq_true h2, Bool.not_true, if_pos h2] at k
        walk_at "lw"
        exact ⟨t, rfl, hl, k, kx⟩
      · have h2 : ¬ kd = "image" := fun z => h2 (by rw [z])
        rw [decide_eq_false h2, Bool.not_false] at kx
        rw [decide_eq_false h2, Bool.not_false, if_neg h2] at k
        walk_at "lw"
        refine ⟨t, rfl, hl, fun hf q H1 s1 hq => ?_, kx⟩
        obtain ⟨es, es1, es2, es3⟩ := hq
        have hz : es.length ≤ 100000 := by
          have := congrArg List.length es1
          unfold prs at this
          rw [List.length_map, List.length_map, mid_len] at this
          have := ln_le t
          omega
        refine g_ritL (SqL.of es2) ?_
        refine lc_map (G := fun H' => SqL K H' q (es.map fun e => V.ref e.1)) walk_list (fun H' s => SqL.of (s _ _ es2)) (by rw [List.length_map]; exact hz) (fun _ => true)
          (fun v => match v with | .ref a => (match H1 a with | some (.tup [_, y]) => y | _ => .non) | _ => .non) ?_ ?_
        · intro x hx H' R s2 kk
          obtain ⟨e, he, rfl⟩ := List.mem_map.mp hx
          have h3 := es3 e he
          refine g_gtup (SqT.of (s2 _ _ h3)) rfl ?_
          walk_at "lw"
          refine kk _ rfl (fun H'' R s3 r => ?_) (fun hp' H'' R s3 r => ?_)
          · walk_at "lw"
            exact r
          · walk_at "lw"
            have r := r H'' (Same.refl _)
            simp only [h3] at r
            exact r
        · intro q2 H2 nq2 s2 hq2
          rw [List.filter_eq_self.mpr (fun _ _ => rfl), List.map_map] at hq2
          have e : es.map ((fun v => match v with | .ref a => (match H1 a with | some (.tup [_, y]) => y | _ => .non) | _ => .non) ∘ fun e => V.ref e.1) = ((prs t).map (·.2)).map strS := by
            rw [← es1, List.map_map, List.map_map]
            refine List.map_congr_left fun e he => ?_
            simp only [Function.comp, es3 e he]
          rw [e] at hq2
          walk_at "lw"
          exact k hf q2 H2 (s1.trans s2) hq2
end
end Lw

/-! ## what was written is read -/
namespace Lw
open PySem L2
theorem joinL_lines : ∀ (as : List (List Nat)) (x : List Nat), TL.joinL [10] (x :: (as ++ [[]])) = x ++ [10] ++ (as.map fun a => a ++ [10]).flatten
  | [], x => by simp [TL.joinL]
  | a :: r, x => by
    show x ++ ([10] ++ TL.joinL [10] (a :: (r ++ [[]]))) = _
    rw [joinL_lines r a, List.map_cons, List.flatten_cons]
    simp only [List.append_assoc]
theorem imgL_join (as : List (List Nat)) : imgL as = TL.joinL [10] (imgW :: (as ++ [[]])) := by
  rw [joinL_lines]
  rfl
theorem bunL_join (ps : List (List Nat × List Nat)) : bunL ps = TL.joinL [10] (bunW :: ((ps.map fun e => e.1 ++ [32] ++ e.2) ++ [[]])) := by
  rw [joinL_lines, List.map_map]
  rfl
theorem ln_imgL {as : List (List Nat)} (h : ∀ a ∈ as, 10 ∉ a) : lnL (imgL as) = imgW :: (as ++ [[]]) := by
  unfold lnL
  rw [imgL_join]
  refine TL.spl_join (by simp) fun p hp => ?_
  rcases List.mem_cons.mp hp with z | z
  · rw [z]; decide
  · rcases List.mem_append.mp z with y | y
    · exact h p y
    · rw [List.mem_singleton.mp y]; simp
theorem ln_bunL {ps : List (List Nat × List Nat)} (h : ∀ e ∈ ps, 10 ∉ e.1 ∧ 10 ∉ e.2) : lnL (bunL ps) = bunW :: ((ps.map fun e => e.1 ++ [32] ++ e.2) ++ [[]]) := by
  unfold lnL
  rw [bunL_join]
  refine TL.spl_join (by simp) fun p hp => ?_
  rcases List.mem_cons.mp hp with z | z
  · rw [z]; decide
  · rcases List.mem_append.mp z with y | y
    · obtain ⟨e, he, rfl⟩ := List.mem_map.mp y
      obtain ⟨h1, h2⟩ := h e he
      simp only [List.mem_append, List.mem_singleton]
      rintro ((z | z) | z)
      · exact h1 z
      · cases z
      · exact h2 z
    · rw [List.mem_singleton.mp y]; simp
theorem mid_of (x : List Nat) (as : List (List Nat)) : mid (x :: (as ++ [[]])) = as := by
  unfold mid
  rw [List.drop_succ_cons, List.drop_zero, List.dropLast_concat]
theorem adr_no {a : List Nat} (h : isAdr a = true) {c : Nat} (hc : c ∉ hexS) : c ∉ a := fun z => by
  unfold isAdr at h
  rw [Bool.and_eq_true] at h
  exact hc (of_decide_eq_true (List.all_eq_true.mp h.2 c z))
theorem adr_len {a : List Nat} (h : isAdr a = true) : a.length = 16 := by
  unfold isAdr at h
  rw [Bool.and_eq_true] at h
  exact beq_iff_eq.mp h.1
theorem plat_no {a : List Nat} (h : isPlat a = true) {c : Nat} (hc : c ∉ lowS) : c ∉ a := fun z => by
  unfold isPlat at h
  rw [Bool.and_eq_true] at h
  exact hc (of_decide_eq_true (List.all_eq_true.mp h.2 c z))
theorem plat_len {a : List Nat} (h : isPlat a = true) : a.length ≤ 10 := by
  unfold isPlat at h
  rw [Bool.and_eq_true, Bool.and_eq_true] at h
  exact of_decide_eq_true h.1.2
theorem wd_pair {p a : List Nat} (hp : 32 ∉ p) (ha : 32 ∉ a) : wdL (p ++ [32] ++ a) = [p, a] := by
  unfold wdL
  have e : p ++ [32] ++ a = TL.joinL [32] [p, a] := by show _ = p ++ ([32] ++ a); rw [List.append_assoc]
  rw [e]
  refine TL.spl_join (by simp) fun q hq => ?_
  simp only [List.mem_cons, List.not_mem_nil, or_false] at hq
  rcases hq with rfl | rfl <;> assumption
theorem scan_img : ∀ {as : List (List Nat)} {s : List (List Nat)} {i : Nat}, (∀ a ∈ as, isAdr a = true) → scan false s i as = none
  | [], _, _, _ => rfl
  | a :: r, s, i, h => by
    unfold scan
    rw [if_pos (show okLine false s a = true from by unfold okLine; rw [if_neg (by decide)]; exact h a List.mem_cons_self)]
    exact scan_img fun b hb => h b (List.mem_cons_of_mem _ hb)
theorem fault3_of {h : List Nat} {t : List Nat} {as : List (List Nat)} (e : lnL t = h :: (as ++ [[]])) : fault3 h t = if 50 < as.length then some 51 else none := by
  unfold fault3
  have h1 : (lnL t).getD 0 [] = h := by rw [e]; rfl
  have hl : (lnL t).length = as.length + 2 := by rw [e]; simp
  have h2 : (lnL t).getD ((lnL t).length - 1) [] = [] := by
    rw [hl, e, List.getD_eq_getElem?_getD, show as.length + 2 - 1 = as.length + 1 from rfl, List.getElem?_cons_succ, List.getElem?_append_right (Nat.le_refl _), Nat.sub_self]
    rfl
  rw [if_neg (fun z => z h1), if_neg (fun z => z h2), hl]
  by_cases hh : 50 < as.length
  · rw [if_pos hh, if_pos (by omega)]
  · rw [if_neg hh, if_neg (by omega)]
theorem fault_img {as : List (List Nat)} (h : ∀ a ∈ as, isAdr a = true) (hl : as.length ≤ 50) : fault false (imgL as) = none ∧ mid (lnL (imgL as)) = as := by
  have e := ln_imgL fun a ha => adr_no (h a ha) (c := 10) (by decide)
  have e3 := fault3_of e
  rw [if_neg (by omega)] at e3
  have em : mid (lnL (imgL as)) = as := by rw [e, mid_of]
  refine ⟨?_, em⟩
  rw [fault_scan (b := false) e3 (fun z => by cases z.1), em]
  exact scan_img h
theorem fault_img51 {as : List (List Nat)} (h : ∀ a ∈ as, isAdr a = true) (hl : as.length = 51) : fault false (imgL as) = some 51 := by
  have e := ln_imgL fun a ha => adr_no (h a ha) (c := 10) (by decide)
  have e3 := fault3_of e
  rw [if_pos (by omega)] at e3
  exact fault_of3 (b := false) e3
/-- pairs that a bundle may have -/
structure WFB (ps : List (List Nat × List Nat)) : Prop where
  all : ∀ e ∈ ps, isPlat e.1 = true ∧ isAdr e.2 = true
  nd : (ps.map (·.1)).Nodup
  ne : ps ≠ []
  le : ps.length ≤ 50
theorem w0_pair {e : List Nat × List Nat} (h : isPlat e.1 = true ∧ isAdr e.2 = true) : w0 (e.1 ++ [32] ++ e.2) = e.1 := by
  unfold w0
  rw [wd_pair (plat_no h.1 (by decide)) (adr_no h.2 (by decide))]
  rfl
theorem w1_pair {e : List Nat × List Nat} (h : isPlat e.1 = true ∧ isAdr e.2 = true) : w1 (e.1 ++ [32] ++ e.2) = e.2 := by
  unfold w1
  rw [wd_pair (plat_no h.1 (by decide)) (adr_no h.2 (by decide))]
  rfl
theorem scan_bun : ∀ {ps : List (List Nat × List Nat)} {s : List (List Nat)} {i : Nat}, (∀ e ∈ ps, isPlat e.1 = true ∧ isAdr e.2 = true) → (ps.map (·.1)).Nodup → (∀ e ∈ ps, e.1 ∉ s) → scan true s i (ps.map fun e => e.1 ++ [32] ++ e.2) = none
  | [], _, _, _, _, _ => rfl
  | e :: r, s, i, h, hn, hs => by
    have he := h e List.mem_cons_self
    rw [List.map_cons, List.nodup_cons] at hn
    rw [List.map_cons]
    unfold scan
    have e0 := w0_pair he
    have e1 := w1_pair he
    have ew : (wdL (e.1 ++ [32] ++ e.2)).length = 2 := by rw [wd_pair (plat_no he.1 (by decide)) (adr_no he.2 (by decide))]; rfl
    rw [if_pos (show okLine true s (e.1 ++ [32] ++ e.2) = true from by
      unfold okLine
      rw [if_pos rfl, decide_eq_true ew, e0, e1, he.1, he.2, decide_eq_false (hs e List.mem_cons_self)]
      rfl)]
    rw [e0]
    refine scan_bun (fun b hb => h b (List.mem_cons_of_mem _ hb)) hn.2 fun b hb z => ?_
    rcases List.mem_append.mp z with y | y
    · exact hs b (List.mem_cons_of_mem _ hb) y
    · exact hn.1 (by rw [← List.mem_singleton.mp y]; exact List.mem_map.mpr ⟨b, hb, rfl⟩)
theorem fault_bun {ps : List (List Nat × List Nat)} (W : WFB ps) : fault true (bunL ps) = none ∧ prs (bunL ps) = ps := by
  have e := ln_bunL fun p hp => ⟨plat_no (W.all p hp).1 (c := 10) (by decide), adr_no (W.all p hp).2 (c := 10) (by decide)⟩
  have e3 := fault3_of e
  rw [List.length_map, if_neg (by have := W.le; omega)] at e3
  have em : mid (lnL (bunL ps)) = ps.map fun p => p.1 ++ [32] ++ p.2 := by rw [e, mid_of]
  refine ⟨?_, ?_⟩
  · rw [fault_scan (b := true) e3 (fun z => ?_), em]
    · exact scan_bun W.all W.nd (fun _ _ z => nomatch z)
    · have := z.2
      rw [e] at this
      simp at this
      exact W.ne this
  · unfold prs
    rw [em, List.map_map]
    conv => rhs; rw [← List.map_id ps]
    refine List.map_congr_left fun p hp => ?_
    show (w0 _, w1 _) = p
    rw [w0_pair (W.all p hp), w1_pair (W.all p hp)]
end Lw

namespace Lw
open PySem L2
theorem op_inK {X : Cx} (K : PySem.W.Frag) (h : X.K = K) : OpR X (compareOp .In) (rIn K false) := by subst h; exact op_in_seq
theorem op_notInK {X : Cx} (K : PySem.W.Frag) (h : X.K = K) : OpR X (compareOp .NotIn) (rIn K true) := by subst h; exact op_notIn_seq
/-- a comprehension whose items are drawn and hang on the heap (on tuples alone) -/
theorem lc_drawR {J : It} {xs : List V} {vs : List Nat} {σ : L2.St} {te : TE} {j : Nat} {Q : VK} {c : Addr → Nat} {H : Hp} {S : Addr} (w : Walk J xs.length (fun _ => True) (YAt xs)) (hz : xs.length ≤ 100000) (R : Nat → V → Hp → Prop)
    (mono : ∀ i y H1 H2, (∀ b ys, H1 b = some (.tup ys) → H2 b = some (.tup ys)) → R i y H1 → R i y H2) (hS : StateAt c H S) (hw : ∀ x, wipe ((wipe σ vs).set j (some x)) vs = wipe σ vs)
    (he : ∀ (i : Nat) (x : V) (c1 : Addr → Nat) (H1 : Hp) (Rk : VK), xs[i]? = some x → StateAt c1 H1 S → Stp (fun i => i = 0) c c1 H H1 → (∀ (y : V) (c2 : Addr → Nat) (H2 : Hp), R i y H2 → StateAt c2 H2 S → Stp (fun i => i = 0) c1 c2 H1 H2 → Rk y H2) → te ((wipe σ vs).set j (some x)) H1 Rk)
    (k : ∀ (q : Addr) (ys : List V) (c' : Addr → Nat) (H' : Hp), H q = none → ys.length = xs.length → (∀ (i : Nat) (y : V), ys[i]? = some y → R i y H') → StateAt c' H' S → Stp (fun i => i = 0) c c' H H' → H' q = some (.lst ys) → c' q = 9 → Q (.ref q) H') : kLc (gName j) tYes te vs σ Q J H := by
  intro D hD
  refine lc_it w (fun i H2 => ∃ (l : List V) (c2 : Addr → Nat), l.length = i ∧ (∀ (m : Nat) (y : V), l[m]? = some y → R m y H2) ∧ StateAt c2 H2 S ∧ Stp (fun i => i = 0) c c2 H H2 ∧ c2 D = 9 ∧ H2 D = some (.lst l))
    ⟨[], Stp.paint c D 9, rfl, (fun m y h => (by cases h)), hS.frame (I := fun _ => False) (Stp.newc hD) (by decide), Stp.newc hD, Stp.paint_same, upd_same⟩ (fun _ _ _ _ => trivial) (fun i x H2 H2' hi h y => ?_) (fun H2 h => ?_)
  · obtain ⟨e, hx⟩ := y
    subst e
    obtain ⟨l, c2, h1, h2, S2, st2, cD, hl⟩ := h
    refine ⟨hw x, ?_⟩
    show te _ H2' _
    refine he i x c2 H2' _ hx S2 st2 fun a c3 H3 ga S3 st3 => ?_
    have hD3 := st3.keep _ _ hl (by rw [cD]; decide)
    have tk : ∀ b zs, H3 b = some (.tup zs) → (upd H3 D (.lst (l ++ [a]))) b = some (.tup zs) := fun b zs e => by rw [upd_ne (ne_of e hD3 (by intro z; cases z))]; exact e
    refine ⟨l, hD3, ?_, l ++ [a], c3, by rw [List.length_append, h1]; rfl, fun m y hm => ?_, S3.frame (I := fun i => i = 9) (Stp.own hD3 (by rw [st3.col _ _ hl, cD]) (fun xs z => by cases z)) (by decide), ?_, by rw [st3.col _ _ hl, cD], upd_same⟩
    · rw [h1]
      exact Nat.lt_of_lt_of_le (show i < 200000 by omega) (by decide)
    · by_cases hj : m < l.length
      · rw [List.getElem?_append_left hj] at hm
        exact mono _ _ _ _ (fun b zs e => tk b zs (st3.tup _ _ e)) (h2 m y hm)
      · rw [List.getElem?_append_right (by omega)] at hm
        cases hq : m - l.length with
        | zero =>
          rw [hq] at hm
          cases hm
          have : m = i := by omega
          subst this
          exact mono _ _ _ _ tk ga
        | succ n => rw [hq] at hm; cases hm
    · have st4 := st2.trans st3
      exact ⟨fun b o e n => by rw [upd_ne (ne_of_none e hD)]; exact st4.keep b o e n, st4.col, fun b xs e => by rw [upd_ne (ne_of_none e hD)]; exact st4.tup b xs e, fun b e => by
        by_cases z : b = D
        · subst z; rw [upd_same] at e; cases e
        · rw [upd_ne z] at e; exact st4.fre b e⟩
  · obtain ⟨l, c2, h1, h2, S2, st2, cD, hl⟩ := h
    exact k D l c2 H2 hD h1 h2 S2 st2 hl cD
theorem choose_list {α : Type} {F : α → V} : ∀ {ys : List V} {P : Nat → α → Prop}, (∀ i y, ys[i]? = some y → ∃ a, y = F a ∧ P i a) → ∃ as : List α, ys = as.map F ∧ ∀ i a, as[i]? = some a → P i a
  | [], _, _ => ⟨[], rfl, fun i a h => by cases h⟩
  | y :: ys, P, h => by
    obtain ⟨a, e, p⟩ := h 0 y rfl
    obtain ⟨as, e2, p2⟩ := choose_list (ys := ys) (P := fun i => P (i + 1)) fun i z hz => h (i + 1) z hz
    refine ⟨a :: as, by rw [List.map_cons, e, e2], fun i b hb => ?_⟩
    cases i with
    | zero => cases hb; exact p
    | succ i => exact p2 i b hb
end Lw

/-! ## signs -/
namespace Lw
open PySem L2
open PyProof.Rows (envOfC)
def okC (l : List Nat) : Prop := ∀ c ∈ l, c < 0x110000
theorem spl_chars (s : List Nat) : ∀ (l : List Nat) (k : Nat) (acc : List Nat), ∀ p ∈ TL.spl s k acc l, ∀ c ∈ p, c ∈ acc ∨ c ∈ l
  | [], k, acc, p, h, c, hc => by
    simp [TL.spl] at h
    subst h
    exact .inl hc
  | x :: r, 0, acc, p, h, c, hc => by
    unfold TL.spl at h
    split at h
    · rcases List.mem_cons.mp h with z | z
      · subst z; exact .inl hc
      · rcases spl_chars s r _ _ p z c hc with y | y
        · cases y
        · exact .inr (List.mem_cons_of_mem _ y)
    · rcases spl_chars s r _ _ p h c hc with y | y
      · rcases List.mem_append.mp y with u | u
        · exact .inl u
        · rw [List.mem_singleton.mp u]; exact .inr List.mem_cons_self
      · exact .inr (List.mem_cons_of_mem _ y)
  | x :: r, k + 1, acc, p, h, c, hc => by
    unfold TL.spl at h
    rcases spl_chars s r _ _ p h c hc with y | y
    · exact .inl y
    · exact .inr (List.mem_cons_of_mem _ y)
theorem ln_okC {t p : List Nat} (h : okC t) (hp : p ∈ lnL t) : okC p := fun c hc => by
  rcases spl_chars _ _ _ _ p hp c hc with z | z
  · cases z
  · exact h c z
theorem wd_okC {t p : List Nat} (h : okC t) (hp : p ∈ wdL t) : okC p := fun c hc => by
  rcases spl_chars _ _ _ _ p hp c hc with z | z
  · cases z
  · exact h c z
theorem okS {l : List Nat} (h : okC l) : PyData.strOk (SX.S l) = true := by
  unfold PyData.strOk
  rw [← Array.all_toList, List.all_eq_true]
  intro c hc
  exact decide_eq_true (h c hc)
theorem sh_strs : ∀ (as : List (List Nat)), (∀ a ∈ as, okC a) → PyData.canLayAll0 (as.map fun a => PyData.str (SX.S a)) = true ∧ PyData.depthAll (as.map fun a => PyData.str (SX.S a)) = 0
  | [], _ => ⟨rfl, rfl⟩
  | a :: r, h => by
    obtain ⟨h1, h2⟩ := sh_strs r fun b hb => h b (List.mem_cons_of_mem _ hb)
    have h3 := okS (h a List.mem_cons_self)
    refine ⟨?_, ?_⟩
    · simp only [List.map_cons, PyData.canLayAll0, PyData.canLay0, h1, h3, Bool.and_true]
    · simp only [List.map_cons, PyData.depthAll, PyData.depth, h2, Nat.max_self]
theorem shaped_strs {as : List (List Nat)} (h : ∀ a ∈ as, okC a) : SeqAt.shaped (.list (as.map fun a => PyData.str (SX.S a))) = true := by
  obtain ⟨h1, h2⟩ := sh_strs as h
  unfold SeqAt.shaped
  rw [Bool.and_eq_true, decide_eq_true_eq]
  exact ⟨h1, by simp only [PyData.depth, h2]; decide⟩
theorem dp_strs {K : PySem.W.Frag} {H : Hp} : ∀ (as : List (List Nat)), DpAll K H (as.map strS) (as.map fun a => PyData.str (SX.S a))
  | [] => .nil
  | _ :: r => .cons (.str _) (dp_strs r)
theorem dp_list {K : PySem.W.Frag} {H : Hp} {q : Addr} {as : List (List Nat)} (h : H q = some (.lst (as.map strS))) : Dp K H (.ref q) (.list (as.map fun a => PyData.str (SX.S a))) := .lst (SqL.of h) (dp_strs as)
theorem adr_okC {a : List Nat} (h : isAdr a = true) : okC a := fun c hc => by
  unfold isAdr at h
  rw [Bool.and_eq_true] at h
  have h2 := of_decide_eq_true (List.all_eq_true.mp h.2 c hc)
  have : ∀ c ∈ hexS, c < 0x110000 := by decide
  exact this c h2
theorem plat_okC {a : List Nat} (h : isPlat a = true) : okC a := fun c hc => by
  unfold isPlat at h
  rw [Bool.and_eq_true] at h
  have h2 := of_decide_eq_true (List.all_eq_true.mp h.2 c hc)
  have : ∀ c ∈ lowS, c < 0x110000 := by decide
  exact this c h2
theorem okC_app {a b : List Nat} (h1 : okC a) (h2 : okC b) : okC (a ++ b) := fun c hc => (List.mem_append.mp hc).elim (h1 c) (h2 c)
theorem okC_flat {l : List (List Nat)} (h : ∀ a ∈ l, okC a) : okC l.flatten := fun c hc => by
  obtain ⟨a, ha, hc⟩ := List.mem_flatten.mp hc
  exact h a ha c hc
theorem img_t {as : List (List Nat)} (h : ∀ a ∈ as, isAdr a = true) (hl : as.length ≤ 51) : okC (imgL as) ∧ (imgL as).length ≤ 10000 := by
  unfold imgL
  refine ⟨okC_app (show ∀ c ∈ imgH, c < 0x110000 by decide) (okC_flat fun x hx => ?_), ?_⟩
  · obtain ⟨a, ha, rfl⟩ := List.mem_map.mp hx
    exact okC_app (adr_okC (h a ha)) (show ∀ c ∈ [10], c < 0x110000 by decide)
  · rw [List.length_append]
    have := flat_le (l := as.map fun a => a ++ [10]) (m := 17) fun x hx => by
      obtain ⟨a, ha, rfl⟩ := List.mem_map.mp hx
      rw [List.length_append, adr_len (h a ha)]
      decide
    rw [List.length_map] at this
    have h6 : imgH.length = 6 := rfl
    omega
theorem bun_t {ps : List (List Nat × List Nat)} (W : WFB ps) : okC (bunL ps) ∧ (bunL ps).length ≤ 10000 := by
  unfold bunL
  refine ⟨okC_app (show ∀ c ∈ bunH, c < 0x110000 by decide) (okC_flat fun x hx => ?_), ?_⟩
  · obtain ⟨e, he, rfl⟩ := List.mem_map.mp hx
    obtain ⟨h1, h2⟩ := W.all e he
    exact okC_app (okC_app (okC_app (plat_okC h1) (show ∀ c ∈ [32], c < 0x110000 by decide)) (adr_okC h2)) (show ∀ c ∈ [10], c < 0x110000 by decide)
  · rw [List.length_append]
    have := flat_le (l := ps.map fun e => e.1 ++ [32] ++ e.2 ++ [10]) (m := 28) fun x hx => by
      obtain ⟨e, he, rfl⟩ := List.mem_map.mp hx
      obtain ⟨h1, h2⟩ := W.all e he
      simp only [List.length_append, List.length_cons, List.length_nil]
      have := plat_len h1
      have := adr_len h2
      omega
    rw [List.length_map] at this
    have h7 : bunH.length = 7 := rfl
    have := W.le
    omega
end Lw

/-! ## the store -/
namespace Lw
open PySem L2
open PyProof.Rows (envOfC sortedS)
inductive Kd | lay | img | bun
  deriving DecidableEq
def Kd.s : Kd → Str
  | .lay => "layer" | .img => "image" | .bun => "bundle"
def Kd.rk : Kd → Nat
  | .lay => 0 | .img => 1 | .bun => 2
/-- the kind below -/
def Kd.lo : Kd → Option Kd
  | .lay => none | .img => some .lay | .bun => some .img
theorem Kd.s_inj {a b : Kd} : a.s = b.s ↔ a = b := by
  constructor
  · intro h
    cases a <;> cases b <;> first | rfl | exact absurd h (by decide +kernel)
  · intro h; rw [h]
theorem Kd.s_kind (a : Kd) : a.s ∈ kinds3 := by cases a <;> decide +kernel
theorem Kd.s_ok (a : Kd) : PyData.strOk a.s = true := by cases a <;> decide +kernel
theorem Kd.lo_rk {a b : Kd} (h : a.lo = some b) : b.rk < a.rk := by
  cases a <;> cases h <;> decide
structure Bl where
  k : Kd
  t : List Nat
  deriving DecidableEq
def Bl.refs (b : Bl) : List (List Nat) := refsL b.k.s b.t
structure Bl.Ok (b : Bl) : Prop where
  f : faultK b.k.s b.t = none
  l : b.t.length ≤ 10000
  c : okC b.t
def adrB (b : Bl) : Str := SX.S (adrL b.k.s b.t)
def putS (ks : List Str) (a : Str) : List Str := if a ∈ ks then ks else ks ++ [a]
def updB (B : Str → Bl) (a : Str) (b : Bl) : Str → Bl := fun x => if x = a then b else B x
theorem updB_same {B : Str → Bl} {a : Str} {b : Bl} : updB B a b a = b := if_pos rfl
theorem updB_ne {B : Str → Bl} {a x : Str} {b : Bl} (h : x ≠ a) : updB B a b x = B x := if_neg h
theorem mem_putS {ks : List Str} {a x : Str} : x ∈ putS ks a ↔ x ∈ ks ∨ x = a := by
  unfold putS
  split
  · rename_i h
    exact ⟨.inl, fun z => z.elim id fun e => by rw [e]; exact h⟩
  · rw [List.mem_append, List.mem_singleton]
theorem putS_nd {ks : List Str} {a : Str} (h : ks.Nodup) : (putS ks a).Nodup := by
  unfold putS
  split
  · exact h
  · rename_i z
    rw [List.nodup_append]
    exact ⟨h, by simp, fun x hx y hy e => z (by rw [← List.mem_singleton.mp hy, ← e]; exact hx)⟩
theorem putS_len {ks : List Str} {a : Str} : (putS ks a).length ≤ ks.length + 1 := by
  unfold putS
  split
  · omega
  · rw [List.length_append]; exact Nat.le_refl _
theorem putK_S {ks : List Str} {A : Str → V} {a : Str} {v : V} : putK (mkS ks A) (kS a) v = mkS (putS ks a) (fun j => if j = a then v else A j) := by
  unfold putS
  split
  · rename_i h; exact putK_mkS_old h
  · rename_i h; exact putK_mkS_new h
/-- a dict d of the blobs B at the addresses ks; A: where their pairs lie -/
def BlobD (H : Hp) (d : Addr) (ks : List Str) (B : Str → Bl) : Prop := ∃ A : Str → Addr, H d = some (.dK (mkS ks fun a => .ref (A a))) ∧ ∀ a ∈ ks, H (A a) = some (.tup [.str (B a).k.s, strS (B a).t])
theorem BlobD.tup {H H' : Hp} {d : Addr} {ks : List Str} {B : Str → Bl} (h : BlobD H d ks B) (h1 : H' d = H d) (h2 : ∀ b xs, H b = some (.tup xs) → H' b = some (.tup xs)) : BlobD H' d ks B := by
  obtain ⟨A, a1, a2⟩ := h
  exact ⟨A, by rw [h1]; exact a1, fun a ha => h2 _ _ (a2 a ha)⟩
theorem BlobD.same {H H' : Hp} {d : Addr} {ks : List Str} {B : Str → Bl} (h : BlobD H d ks B) (s : Same H H') : BlobD H' d ks B := by
  obtain ⟨A, a1, a2⟩ := id h
  exact h.tup (by rw [a1]; exact s.at a1) fun b xs e => s.at e
/-- the dict behind d[a] = (kind, text) -/
theorem BlobD.put {H H' : Hp} {d t : Addr} {ks : List Str} {B : Str → Bl} {b : Bl} {a : Str} {A : Str → Addr} (h1 : H d = some (.dK (mkS ks fun a => .ref (A a)))) (h2 : ∀ a ∈ ks, H (A a) = some (.tup [.str (B a).k.s, strS (B a).t])) (ht : H t = some (.tup [.str b.k.s, strS b.t]))
    (hd : H' d = some (.dK (putK (mkS ks fun a => .ref (A a)) (kS a) (.ref t)))) (k : ∀ x, x ≠ d → H' x = H x) : BlobD H' d (putS ks a) (updB B a b) := by
  refine ⟨fun x => if x = a then t else A x, ?_, fun x hx => ?_⟩
  · rw [hd, putK_S]
    congr 2
    refine mkS_congr fun j _ => ?_
    dsimp only
    split <;> rfl
  · dsimp only
    by_cases e : x = a
    · subst e
      rw [if_pos rfl, updB_same, k t (ne_of ht h1 (by intro z; cases z))]
      exact ht
    · rw [if_neg e, updB_ne e]
      have hk : x ∈ ks := (mem_putS.mp hx).resolve_right e
      have := h2 x hk
      rw [k _ (ne_of this h1 (by intro z; cases z))]
      exact this
theorem BlobD.del {H H' : Hp} {d : Addr} {ks : List Str} {B : Str → Bl} {a : Str} {A : Str → Addr} (h1 : H d = some (.dK (mkS ks fun a => .ref (A a)))) (h2 : ∀ a ∈ ks, H (A a) = some (.tup [.str (B a).k.s, strS (B a).t]))
    (hd : H' d = some (.dK (dropK (mkS ks fun a => .ref (A a)) (kS a)))) (k : ∀ x, x ≠ d → H' x = H x) : BlobD H' d (ks.filter fun j => decide (j ≠ a)) B := by
  refine ⟨A, by rw [hd, dropK_mkS], fun x hx => ?_⟩
  have := h2 x (List.mem_filter.mp hx).1
  rw [k _ (ne_of this h1 (by intro z; cases z))]
  exact this
structure StoreAt (C : Addr) (c : Addr → Nat) (H : Hp) (p : Addr) (ks : List Str) (B : Str → Bl) : Prop where
  ex : ∃ (dx d : Addr), c p = 1 ∧ H p = some (.ins C dx (f_Store (.ref d))) ∧ c d = 1 ∧ BlobD H d ks B
theorem StoreAt.frame {I : Nat → Prop} {C : Addr} {c c' : Addr → Nat} {H H' : Hp} {p : Addr} {ks : List Str} {B : Str → Bl} (h : StoreAt C c H p ks B) (s : Stp I c c' H H') (hi : ¬ I 1) : StoreAt C c' H' p ks B := by
  obtain ⟨dx, d, h1, h2, h3, A, h4, h5⟩ := h.ex
  exact ⟨dx, d, by rw [s.col _ _ h2, h1], s.keep _ _ h2 (by rw [h1]; exact hi), by rw [s.col _ _ h4, h3], A, s.keep _ _ h4 (by rw [h3]; exact hi), fun a ha => s.tup _ _ (h5 a ha)⟩
theorem StoreAt.same {C : Addr} {c : Addr → Nat} {H H' : Hp} {p : Addr} {ks : List Str} {B : Str → Bl} (h : StoreAt C c H p ks B) (s : Same H H') : StoreAt C c H' p ks B := h.frame (Stp.same (I := fun _ => False) s) (fun z => z)
/-- the blobs below are there, of the kind below, and whole -/
def wh (ks : List Str) (B : Str → Bl) : Nat → Str → Bool
  | 0, _ => false
  | n + 1, a => decide (a ∈ ks) && (B a).refs.all fun r => decide (SX.S r ∈ ks) && (decide ((B a).k.lo = some (B (SX.S r)).k) && wh ks B n (SX.S r))
def addD (l : List Str) (x : Str) : List Str := if x ∈ l then l else l ++ [x]
def clo (B : Str → Bl) : Nat → Str → List Str
  | 0, a => [a]
  | n + 1, a => (B a).refs.foldl (fun f r => (clo B n (SX.S r)).foldl addD f) [a]
structure SWf (ks : List Str) (B : Str → Bl) : Prop where
  nd : ks.Nodup
  ok : ∀ a ∈ ks, (B a).Ok
theorem SWf.put {ks : List Str} {B : Str → Bl} (h : SWf ks B) {a : Str} {b : Bl} (hb : b.Ok) : SWf (putS ks a) (updB B a b) := by
  refine ⟨putS_nd h.nd, fun x hx => ?_⟩
  by_cases e : x = a
  · subst e; rw [updB_same]; exact hb
  · rw [updB_ne e]; exact h.ok x ((mem_putS.mp hx).resolve_right e)
theorem SWf.del {ks : List Str} {B : Str → Bl} (h : SWf ks B) (a : Str) : SWf (ks.filter fun j => decide (j ≠ a)) B := ⟨h.nd.filter _, fun x hx => h.ok x (List.mem_filter.mp hx).1⟩
theorem refs_lay {b : Bl} (h : b.k = .lay) : b.refs = [] := by
  unfold Bl.refs refsL
  rw [h]
  exact if_pos rfl
theorem fault_lay (t : List Nat) : faultK "layer" t = none := if_pos rfl
theorem refs_len {b : Bl} (h : b.Ok) : b.refs.length ≤ 10001 := by
  have h1 := ln_le b.t
  have h2 := h.l
  have h3 := mid_len (lnL b.t)
  unfold Bl.refs refsL prs
  split
  · exact Nat.zero_le _
  · split
    · omega
    · rw [List.length_map, List.length_map]; omega
theorem dec_in {ks : List Str} {A : Str → V} {a : Str} : (valV (mkS ks A) (kS a)).isSome = decide (a ∈ ks) := by
  rw [valV_mkS]
  by_cases h : a ∈ ks
  · rw [if_pos h, decide_eq_true h]; rfl
  · rw [if_neg h, decide_eq_false h]; rfl
def spSInit (C : Addr) : Sp := fun vs H Q _ => ∃ (p dx : Addr), vs = [.ref p] ∧ H p = some (.ins C dx []) ∧
  ∀ d H', H d = none → H' p = some (.ins C dx (f_Store (.ref d))) → H' d = some (.dK []) → (∀ b o, H b = some o → b ≠ p → H' b = some o) → Q .non H'
def spKeep (C : Addr) : Sp := fun vs H Q _ => ∃ (c : Addr → Nat) (p : Addr) (ks : List Str) (B : Str → Bl) (b : Bl), vs = [.ref p, .str b.k.s, .str (SX.S b.t)] ∧ StoreAt C c H p ks B ∧ ks.length ≤ 10000 ∧
  ∀ H', StoreAt C c H' p (putS ks (adrB b)) (updB B (adrB b) b) → Stp (fun i => i = 1) c c H H' → Q (.str (adrB b)) H'
def spBlob (C : Addr) : Sp := fun vs H Q _ => ∃ (c : Addr → Nat) (p : Addr) (ks : List Str) (B : Str → Bl) (a : Str), vs = [.ref p, .str a] ∧ StoreAt C c H p ks B ∧
  (a ∉ ks → Q .non H) ∧ (a ∈ ks → ∀ t, H t = some (.tup [.str (B a).k.s, strS (B a).t]) → Q (.ref t) H)
def spRemove (C : Addr) : Sp := fun vs H Q _ => ∃ (c : Addr → Nat) (p : Addr) (ks : List Str) (B : Str → Bl) (a : Str), vs = [.ref p, .str a] ∧ StoreAt C c H p ks B ∧ a ∈ ks ∧
  ∀ H', StoreAt C c H' p (ks.filter fun j => decide (j ≠ a)) B → Stp (fun i => i = 1) c c H H' → Q .non H'
def spAdrs (C : Addr) : Sp := fun vs H Q _ => ∃ (c : Addr → Nat) (p : Addr) (ks : List Str) (B : Str → Bl), vs = [.ref p] ∧ StoreAt C c H p ks B ∧ ks.length < 100000 ∧
  ∀ (ys : List Str) (r : Addr) H', ys.Perm ks → sortedS ys = true → Same H H' → H' r = some (.lst (ys.map V.str)) → Q (.ref r) H'
def spBelow (C : Addr) : Sp := fun vs H Q _ => ∃ (c : Addr → Nat) (p : Addr) (ks : List Str) (B : Str → Bl) (a : Str), vs = [.ref p, .str a] ∧ StoreAt C c H p ks B ∧ SWf ks B ∧ a ∈ ks ∧
  ∀ r H', Same H H' → H' r = some (.lst ((B a).refs.map strS)) → Q (.ref r) H'
def spWhx (C : Addr) (n : Nat) : Sp := fun vs H Q _ => ∃ (c : Addr → Nat) (p : Addr) (ks : List Str) (B : Str → Bl) (a : Str), vs = [.ref p, .str a] ∧ StoreAt C c H p ks B ∧ SWf ks B ∧ (a ∈ ks → (B a).k.rk ≤ n) ∧
  ∀ H', Same H H' → Q (.bl (wh ks B (n + 1) a)) H'
def spClo (C : Addr) (n : Nat) : Sp := fun vs H Q _ => ∃ (c : Addr → Nat) (p : Addr) (ks : List Str) (B : Str → Bl) (a : Str), vs = [.ref p, .str a] ∧ StoreAt C c H p ks B ∧ SWf ks B ∧ a ∈ ks ∧ (B a).k.rk ≤ n ∧ wh ks B (n + 1) a = true ∧ ks.length ≤ 10000 ∧
  ∀ r H', Same H H' → H' r = some (.lst ((clo B n a).map V.str)) → Q (.ref r) H'
/-- as the call wants it -/
def WhC (C : Addr) (n : Nat) (sp : Sp) : Prop := ∀ (c : Addr → Nat) (H : Hp) (Q : VK) (p : Addr) (ks : List Str) (B : Str → Bl) (a : Str), StoreAt C c H p ks B → SWf ks B → a ∈ ks → (B a).k.rk < n → (∀ H', Same H H' → Q (.bl (wh ks B n a)) H') → sp [.ref p, .str a] H Q E0
def CloC (C : Addr) (n : Nat) (sp : Sp) : Prop := ∀ (c : Addr → Nat) (H : Hp) (Q : VK) (p : Addr) (ks : List Str) (B : Str → Bl) (a : Str), StoreAt C c H p ks B → SWf ks B → a ∈ ks → (B a).k.rk < n → wh ks B n a = true → ks.length ≤ 10000 → (∀ r H', Same H H' → H' r = some (.lst ((clo B (n - 1) a).map V.str)) → Q (.ref r) H') → sp [.ref p, .str a] H Q E0
theorem addD_nd {x : Str} : ∀ {l : List Str}, l.Nodup → (addD l x).Nodup := putS_nd
theorem foldl_addD_len : ∀ (l f : List Str), (l.foldl addD f).length ≤ f.length + l.length
  | [], f => Nat.le_refl _
  | x :: l, f => by
    have := foldl_addD_len l (addD f x)
    have h2 : (addD f x).length ≤ f.length + 1 := putS_len
    show (l.foldl addD (addD f x)).length ≤ _
    rw [List.length_cons]; omega
theorem mem_foldl_addD : ∀ {l f : List Str} {y : Str}, y ∈ l.foldl addD f ↔ y ∈ f ∨ y ∈ l
  | [], f, y => by simp
  | x :: l, f, y => by
    show y ∈ l.foldl addD (addD f x) ↔ _
    rw [mem_foldl_addD, show y ∈ addD f x ↔ y ∈ f ∨ y = x from mem_putS, List.mem_cons]
    constructor
    · rintro ((h | h) | h)
      · exact .inl h
      · exact .inr (.inl h)
      · exact .inr (.inr h)
    · rintro (h | h | h)
      · exact .inl (.inl h)
      · exact .inl (.inr h)
      · exact .inr h
theorem foldl_addD_nd : ∀ {l f : List Str}, f.Nodup → (l.foldl addD f).Nodup
  | [], _, h => h
  | x :: l, f, h => foldl_addD_nd (l := l) (addD_nd h)
theorem clo_nd (B : Str → Bl) : ∀ (n : Nat) (a : Str), (clo B n a).Nodup
  | 0, a => by simp [clo]
  | n + 1, a => by
    unfold clo
    have : ∀ (rs : List (List Nat)) (f : List Str), f.Nodup → (rs.foldl (fun f r => (clo B n (SX.S r)).foldl addD f) f).Nodup := by
      intro rs
      induction rs with
      | nil => intro f h; exact h
      | cons r rs ih => intro f h; exact ih _ (foldl_addD_nd h)
    exact this _ _ (by simp)
/-- all of a whole blob's closure is there -/
theorem clo_mem {ks : List Str} {B : Str → Bl} : ∀ {n : Nat} {a : Str}, wh ks B (n + 1) a = true → ∀ x ∈ clo B n a, x ∈ ks
  | 0, a, h, x, hx => by
    simp only [clo, List.mem_singleton] at hx
    subst hx
    unfold wh at h
    rw [Bool.and_eq_true, decide_eq_true_eq] at h
    exact h.1
  | n + 1, a, h, x, hx => by
    unfold wh at h
    rw [Bool.and_eq_true, decide_eq_true_eq, List.all_eq_true] at h
    unfold clo at hx
    have : ∀ (rs : List (List Nat)) (f : List Str), (∀ r ∈ rs, wh ks B (n + 1) (SX.S r) = true) → (∀ y ∈ f, y ∈ ks) → ∀ y ∈ rs.foldl (fun f r => (clo B n (SX.S r)).foldl addD f) f, y ∈ ks := by
      intro rs
      induction rs with
      | nil => intro f _ hf; exact hf
      | cons r rs ih =>
        intro f hr hf
        refine ih _ (fun z hz => hr z (List.mem_cons_of_mem _ hz)) fun y hy => ?_
        rcases mem_foldl_addD.mp hy with z | z
        · exact hf y z
        · exact clo_mem (hr r List.mem_cons_self) y z
    refine this _ _ (fun r hr => ?_) (fun y hy => by rw [List.mem_singleton.mp hy]; exact h.1) x hx
    have := h.2 r hr
    rw [Bool.and_eq_true, Bool.and_eq_true] at this
    exact this.2.2
theorem few_len {l ks : List Str} (h : l.Nodup) (h2 : ∀ x ∈ l, x ∈ ks) : l.length ≤ ks.length := nodup_few h h2
section
variable {P : Program} {w : World} {K : PySem.W.Frag} {mg : Str → Option Value} {base : Heap} {C_Claims C_Collector C_Store C_Uploads C_Registry C_Refused C_Malformed a_KINDS a_BELOW a_CLAIMED : Addr}
theorem ok_Store___init__ (T : Txt w K mg C_Claims C_Collector C_Store C_Uploads C_Registry C_Refused C_Malformed a_KINDS a_BELOW a_CLAIMED) : Mak P w K mg base 1 "Store" C_Store (spSInit C_Store) := by
  refine mak_mk T.i_Store sc_Store___init__ (fun vs H Q E h => ?_) (fun f cdv A outer s H vs Q E hr h => ?_)
  · obtain ⟨p, dx, rfl, _⟩ := h
    rfl
  · obtain ⟨p, dx, rfl, hp, k⟩ := h
    refine ⟨_, (pss_one (ps_fld (pv 0) (pe_dnewK) rfl)), ?_⟩
    walk_at "lw"
    refine g_dnew fun d H1 nd s1 hd => ?_
    have hp1 := s1.at hp
    walk_at "lw"
    refine g_rsfld hp1 T.cl_Store T.na_Store_blobs (by show 0 < 1000; decide) fun H2 p2 k2 => ?_
    rw [f_Store_mk] at p2
    walk_at "lw"
    exact k d H2 nd p2 (by rw [k2 d (ne_of hp1 hd (by intro z; cases z)).symm]; exact hd) fun b o e hb => by rw [k2 b hb]; exact s1.at e
theorem ok_Store_keep (T : Txt w K mg C_Claims C_Collector C_Store C_Uploads C_Registry C_Refused C_Malformed a_KINDS a_BELOW a_CLAIMED) : Met P w K mg base 2 C_Store "keep" (spKeep C_Store) := by
  have c_address_of : Cal P w K mg base 1 "address_of" spAddr := ok_address_of T
  refine met_mk T.cl_Store T.m_Store_keep sc_Store_keep (fun vs H Q E h => ?_) (fun f cdv A outer s H vs Q E hr h => ?_)
  · obtain ⟨c, p, ks, B, b, rfl, _⟩ := h
    rfl
  · obtain ⟨c, p, ks, B, b, rfl, W, hl, k⟩ := h
    have hu := hu_of hr
    obtain ⟨dx, d, h1, h2, h3, A', h4, h5⟩ := W.ex
    refine ⟨_, (pss_cons (ps_set (i := 3) sc_Store_keep.nd rfl (by first | exact Or.inl rfl | exact Or.inr rfl) (pe_c c_address_of hr (by first | decide | omega) rfl (pa_cons (pv 1) (pa_cons (pv 2) pa_nil))))
      (pss_cons (ps_dput hu (pe_fld (pv 0) rfl) (pv 3) (pe_tup (pa_cons (pv 1) (pa_cons (pv 2) pa_nil))) rfl)
      (pss_one (ps_ret (pv 3))))), ?_⟩
    walk_at "lw"
    refine ⟨b.k.s, b.t, rfl, b.k.s_kind, ?_⟩
    walk_at "lw"
    refine g_ktup (by show 2 ≤ 100; decide) fun t H1 nt s1 ht => ?_
    have h21 := s1.at h2
    have h41 := s1.at h4
    have h51 : ∀ a ∈ ks, H1 (A' a) = some (.tup [.str (B a).k.s, strS (B a).t]) := fun a ha => s1.at (h5 a ha)
    walk_at "lw"
    refine g_rdputS h41 (by rw [mkS_len]; omega) fun H2 d2 k2 => ?_
    walk_at "lw"
    have hpd : p ≠ d := ne_of h21 h41 (by intro z; cases z)
    refine k H2 ⟨dx, d, h1, by rw [k2 p hpd]; exact h21, h3, BlobD.put h41 h51 ht d2 k2⟩ ((Stp.same s1).trans (Stp.ch h41 h3 (fun xs z => by cases z) d2 k2))
theorem ok_Store_blob (T : Txt w K mg C_Claims C_Collector C_Store C_Uploads C_Registry C_Refused C_Malformed a_KINDS a_BELOW a_CLAIMED) : Met P w K mg base 1 C_Store "blob" (spBlob C_Store) := by
  refine met_mk T.cl_Store T.m_Store_blob sc_Store_blob (fun vs H Q E h => ?_) (fun f cdv A outer s H vs Q E hr h => ?_)
  · obtain ⟨c, p, ks, B, a, rfl, _⟩ := h
    rfl
  · obtain ⟨c, p, ks, B, a, rfl, W, k1, k2⟩ := h
    have hu := hu_of hr
    obtain ⟨dx, d, h1, h2, h3, A', h4, h5⟩ := W.ex
    refine ⟨_, (pss_one (ps_ret (pe_dget1 hu (pe_fld (pv 0) rfl) (pv 1) ⟨rfl, by rfl, rfl, rfl⟩))), ?_⟩
    walk_at "lw"
    refine g_risd (.of h4) ?_
    walk_at "lw"
    refine g_rdget1S (.of h4) ?_
    rw [valV_mkS]
    walk_at "lw"
    by_cases h : a ∈ ks
    · rw [if_pos h]
      exact k2 h _ (h5 a h)
    · rw [if_neg h]
      exact k1 h
theorem ok_Store_remove_blob (T : Txt w K mg C_Claims C_Collector C_Store C_Uploads C_Registry C_Refused C_Malformed a_KINDS a_BELOW a_CLAIMED) : Met P w K mg base 1 C_Store "remove_blob" (spRemove C_Store) := by
  refine met_mk T.cl_Store T.m_Store_remove_blob sc_Store_remove_blob (fun vs H Q E h => ?_) (fun f cdv A outer s H vs Q E hr h => ?_)
  · obtain ⟨c, p, ks, B, a, rfl, _⟩ := h
    rfl
  · obtain ⟨c, p, ks, B, a, rfl, W, hm, k⟩ := h
    have hu := hu_of hr
    obtain ⟨dx, d, h1, h2, h3, A', h4, h5⟩ := W.ex
    refine ⟨_, (pss_one (ps_ddel (pe_fld (pv 0) rfl) (pv 1))), ?_⟩
    walk_at "lw"
    refine g_rddelS h4 (by rw [valV_mkS, if_pos hm]; rfl) fun H2 d2 k2 => ?_
    walk_at "lw"
    have hpd : p ≠ d := ne_of h2 h4 (by intro z; cases z)
    exact k H2 ⟨dx, d, h1, by rw [k2 p hpd]; exact h2, h3, BlobD.del h4 h5 d2 k2⟩ (Stp.ch h4 h3 (fun xs z => by cases z) d2 k2)
theorem ok_Store_addresses (T : Txt w K mg C_Claims C_Collector C_Store C_Uploads C_Registry C_Refused C_Malformed a_KINDS a_BELOW a_CLAIMED) : Met P w K mg base 1 C_Store "addresses" (spAdrs C_Store) := by
  refine met_mk T.cl_Store T.m_Store_addresses sc_Store_addresses (fun vs H Q E h => ?_) (fun f cdv A outer s H vs Q E hr h => ?_)
  · obtain ⟨c, p, ks, B, rfl, _⟩ := h
    rfl
  · obtain ⟨c, p, ks, B, rfl, W, hl, k⟩ := h
    obtain ⟨dx, d, h1, h2, h3, A', h4, h5⟩ := W.ex
    refine ⟨_, (pss_one (ps_ret (pe_callB (call_sortedD' rfl) (by rfl) T.n_sorted (by decide +kernel) (pa_cons (pe_fld (pv 0) rfl) pa_nil)))), ?_⟩
    walk_at "lw"
    exact ⟨d, _, ks, rfl, .of h4, mkS_keys, hl, fun ys r hp hs nr => k ys r _ hp hs (Same.new nr) upd_same⟩
theorem ok_Store_below (T : Txt w K mg C_Claims C_Collector C_Store C_Uploads C_Registry C_Refused C_Malformed a_KINDS a_BELOW a_CLAIMED) : Met P w K mg base 6 C_Store "below" (spBelow C_Store) := by
  have c_references : CalX P w K mg base 5 "references" (spRefs C_Malformed) := ok_references T
  refine met_mk T.cl_Store T.m_Store_below sc_Store_below (fun vs H Q E h => ?_) (fun f cdv A outer s H vs Q E hr h => ?_)
  · obtain ⟨c, p, ks, B, a, rfl, _⟩ := h
    rfl
  · obtain ⟨c, p, ks, B, a, rfl, W, wf, hm, k⟩ := h
    have hu := hu_of hr
    obtain ⟨dx, d, h1, h2, h3, A', h4, h5⟩ := W.ex
    have ok := wf.ok a hm
    refine ⟨_, (pss_cons (ps_asg (pe_dget hu (pe_fld (pv 0) rfl) (pv 1) (fun _ _ => rfl)) (pg_tup (by rfl) (pgs_cons (pg_name (i := 2) sc_Store_below.nd rfl (by first | exact Or.inl rfl | exact Or.inr rfl)) (pgs_cons (pg_name (i := 3) sc_Store_below.nd rfl (by first | exact Or.inl rfl | exact Or.inr rfl)) pgs_nil))))
      (pss_one (ps_ret (pe_cX c_references takes0 hr (by first | decide | omega) rfl (pa_cons (pv 2) (pa_cons (pv 3) pa_nil)))))), ?_⟩
    walk_at "lw"
    refine g_rdgetS (.of h4) (by rw [valV_mkS, if_pos hm]) ?_
    refine g_gtup (SqT.of (h5 a hm)) rfl ?_
    walk_at "lw"
    refine ⟨(B a).k.s, (B a).t, rfl, by have := ok.l; omega, fun _ q H1 s1 hq => ?_, fun n hn => by rw [ok.f] at hn; cases hn⟩
    exact k q H1 s1 hq
theorem isw_step (T : Txt w K mg C_Claims C_Collector C_Store C_Uploads C_Registry C_Refused C_Malformed a_KINDS a_BELOW a_CLAIMED) {n k' j : Nat} {sp' : Sp} (h6 : 6 ≤ j) (hk : k' ≤ j) (t_Store_is_whole : Met P w K mg base k' C_Store "is_whole" sp') (hs : WhC C_Store n sp') : Met P w K mg base (j + 1) C_Store "is_whole" (spWhx C_Store n) := by
  have t_Store_below : Met P w K mg base 6 C_Store "below" (spBelow C_Store) := ok_Store_below T
  refine met_mk T.cl_Store T.m_Store_is_whole sc_Store_is_whole (fun vs H Q E h => ?_) (fun f cdv A outer s H vs Q E hr h => ?_)
  · obtain ⟨c, p, ks, B, a, rfl, _⟩ := h
    rfl
  · obtain ⟨c, p, ks, B, a, rfl, W, wf, hrk, k⟩ := h
    have hu := hu_of hr
    obtain ⟨dx, d, h1, h2, h3, A', h4, h5⟩ := W.ex
    refine ⟨_, (pss_cons (ps_if (pt_cmp (pc_dnotin hu (pv 1) (pe_fld (pv 0) rfl))) (pss_one (ps_ret (pe_bl))) pss_nil)
      (pss_cons (ps_set (i := 2) sc_Store_is_whole.nd rfl (by first | exact Or.inl rfl | exact Or.inr rfl) (pe_ix ix_tup (pe_dget hu (pe_fld (pv 0) rfl) (pv 1) (fun _ _ => rfl)) (pe_int) (fun _ _ => rfl)))
      (pss_cons (ps_for PassesOwn.never rfl (pi_list (pe_mt t_Store_below hr (by first | decide | omega) (pv 0) (pa_cons (pv 1) pa_nil))) (pg_name (i := 3) sc_Store_is_whole.nd rfl (by first | exact Or.inl rfl | exact Or.inr rfl)) (pss_one (ps_if (PW.pt (pw_or (pt_cmp (pc_dnotin hu (pv 3) (pe_fld (pv 0) rfl))) (pw_or (pt_cmpR op_ne (pe_ix ix_tup (pe_dget hu (pe_fld (pv 0) rfl) (pv 3) (fun _ _ => rfl)) (pe_int) (fun _ _ => rfl)) (pe_ix ix_kdict (pe_gc rfl T.g_BELOW) (pv 2) (fun _ _ => rfl)) (nomark _)) (pw_or1 (pt_not (pt_val (pe_mt t_Store_is_whole hr (by first | decide | omega) (pv 0) (pa_cons (pv 3) pa_nil)))))))) (pss_one (ps_ret (pe_bl))) pss_nil)))
      (pss_one (ps_ret (pe_bl)))))), ?_⟩
    walk_at "lw"
    refine g_rdnotinS (.of h4) ?_
    rw [dec_in]
    walk_at "lw"
    refine ifn2 (fun hm => ?_) (fun hm => ?_)
    rotate_left
    · walk_at "lw"
      have k := k H (Same.refl _)
      unfold wh at k
      rw [decide_eq_false hm, Bool.false_and] at k
      exact k
    · have hrk := hrk hm
      walk_at "lw"
      refine g_rdgetS (.of h4) (by rw [valV_mkS, if_pos hm]) ?_
      walk_at "lw"
      refine g_rixT (SqT.of (h5 a hm)) (v := .str (B a).k.s) rfl ?_
      walk_at "lw"
      refine ⟨c, p, ks, B, a, rfl, W, wf, hm, fun r H1 s1 hr1 => ?_⟩
      have hrl := refs_len (wf.ok a hm)
      refine g_ritL (SqL.of hr1) ?_
      refine for_at (G := fun H' => SqL K H' r ((B a).refs.map strS)) walk_list (fun i σ H' => Same H1 H' ∧ (∀ x ∈ (B a).refs.take i, (decide (SX.S x ∈ ks) && (decide ((B a).k.lo = some (B (SX.S x)).k) && wh ks B n (SX.S x))) = true) ∧
        ∃ v : Option V, σ = [some (.ref p), some (.str a), some (.str (B a).k.s), v]) ⟨Same.refl _, (fun x hx => nomatch hx), none, rfl⟩ (fun i σ H' h => SqL.of (h.1.at hr1)) ?_ ?_
      · rintro i x σ H2 hx ⟨s2, hall, v, rfl⟩
        obtain ⟨y, hy, rfl⟩ := map_at hx
        have hi : i < (B a).refs.length := (List.getElem?_eq_some_iff.mp hy).1
        have s02 := s1.trans s2
        have h22 := s02.at h2
        have h42 := s02.at h4
        have W2 := W.same s02
        have bad : (decide (SX.S y ∈ ks) && (decide ((B a).k.lo = some (B (SX.S y)).k) && wh ks B n (SX.S y))) = false → ∀ H', Same H H' → Q (.bl false) H' := fun hb H' s' => by
          have k := k H' s'
          unfold wh at k
          rw [show (List.all (B a).refs fun r => decide (SX.S r ∈ ks) && (decide ((B a).k.lo = some (B (SX.S r)).k) && wh ks B n (SX.S r))) = false by
            rw [List.all_eq_false]
            exact ⟨y, List.mem_of_getElem? hy, by rw [hb]; decide⟩, Bool.and_false] at k
          exact k
        have hkd : (B a).k ≠ .lay := fun z => by
          rw [refs_lay z] at hi
          exact absurd hi (Nat.not_lt_zero _)
        obtain ⟨lo, hlo, hkb⟩ : ∃ lo : Kd, (B a).k.lo = some lo ∧ KDct K w a_BELOW (B a).k.s (.str lo.s) := by
          cases hq : (B a).k with
          | lay => exact absurd hq hkd
          | img => exact ⟨.lay, rfl, T.k_BELOW_image⟩
          | bun => exact ⟨.img, rfl, T.k_BELOW_bundle⟩
        walk_at "lw"
        refine g_rdnotinS (.of h42) ?_
        rw [dec_in]
        walk_at "lw"
        refine ifn2 (fun hm2 => ?_) (fun hm2 => ?_)
        · have h52 : H2 (A' (SX.S y)) = some (.tup [.str (B (SX.S y)).k.s, strS (B (SX.S y)).t]) := s02.at (h5 _ hm2)
          walk_at "lw"
          refine g_rdgetS (.of h42) (by rw [valV_mkS, if_pos hm2]) ?_
          walk_at "lw"
          refine g_rixT (SqT.of h52) (j := 0) (v := .str (B (SX.S y)).k.s) rfl ?_
          walk_at "lw"
          refine ⟨a_BELOW, (B a).k.s, .str lo.s, rfl, rfl, hkb, ?_⟩
          walk_at "lw"
          refine ifn2 (fun he => ?_) (fun he => ?_)
          · have he : lo = (B (SX.S y)).k := (Kd.s_inj.mp (str_eq.mp he)).symm
            rw [he] at hlo
            have hlt := Kd.lo_rk hlo
            walk_at "lw"
            refine hs c H2 _ p ks B (SX.S y) W2 wf hm2 (by omega) fun H3 s3 => ?_
            walk_at "lw"
            cases hw : wh ks B n (SX.S y) with
            | true =>
              walk_at "lw"
              refine ⟨s2.trans s3, fun x hx => ?_, _, rfl⟩
              rw [take_ok hy] at hx
              rcases List.mem_append.mp hx with z | z
              · exact hall x z
              · rw [List.mem_singleton.mp z, decide_eq_true hm2, decide_eq_true hlo, hw]
                rfl
            | false =>
              walk_at "lw"
              exact bad (by rw [hw, Bool.and_false, Bool.and_false]) H3 (s02.trans s3)
          · have he : ¬ lo = (B (SX.S y)).k := fun z => he (by rw [z])
            walk_at "lw"
            exact bad (by rw [decide_eq_false (fun z => he (Option.some.inj (hlo.symm.trans z))), Bool.false_and, Bool.and_false]) H2 s02
        · walk_at "lw"
          exact bad (by rw [decide_eq_false hm2, Bool.false_and]) H2 s02
      · rintro σ H2 ⟨s2, hall, v, rfl⟩
        rw [List.length_map, List.take_length] at hall
        walk_at "lw"
        have k := k H2 (s1.trans s2)
        unfold wh at k
        rw [decide_eq_true hm, List.all_eq_true.mpr hall] at k
        exact k
theorem no_whole (T : Txt w K mg C_Claims C_Collector C_Store C_Uploads C_Registry C_Refused C_Malformed a_KINDS a_BELOW a_CLAIMED) : Met P w K mg base 1 C_Store "is_whole" (fun _ _ _ _ => False) :=
  met_mk T.cl_Store T.m_Store_is_whole sc_Store_is_whole (fun vs H Q E h => h.elim) (fun f cdv A outer s H vs Q E hr h => h.elim)
theorem ok_Store_is_whole (T : Txt w K mg C_Claims C_Collector C_Store C_Uploads C_Registry C_Refused C_Malformed a_KINDS a_BELOW a_CLAIMED) : Met P w K mg base 9 C_Store "is_whole" (spWhx C_Store 2) := by
  have t0 : Met P w K mg base 7 C_Store "is_whole" (spWhx C_Store 0) := isw_step T (j := 6) (by decide) (by decide) (no_whole T) (fun c H Q p ks B a _ _ _ h _ => absurd h (Nat.not_lt_zero _))
  have t1 : Met P w K mg base 8 C_Store "is_whole" (spWhx C_Store 1) := isw_step T (j := 7) (by decide) (by decide) t0 (fun c H Q p ks B a W wf hm h k => ⟨c, p, ks, B, a, rfl, W, wf, fun _ => by omega, k⟩)
  exact isw_step T (j := 8) (by decide) (by decide) t1 (fun c H Q p ks B a W wf hm h k => ⟨c, p, ks, B, a, rfl, W, wf, fun _ => by omega, k⟩)
theorem clo_step (T : Txt w K mg C_Claims C_Collector C_Store C_Uploads C_Registry C_Refused C_Malformed a_KINDS a_BELOW a_CLAIMED) {n k' j : Nat} {sp' : Sp} (h6 : 6 ≤ j) (hk : k' ≤ j) (t_Store_closure : Met P w K mg base k' C_Store "closure" sp') (hs : CloC C_Store n sp') : Met P w K mg base (j + 1) C_Store "closure" (spClo C_Store n) := by
  have t_Store_below : Met P w K mg base 6 C_Store "below" (spBelow C_Store) := ok_Store_below T
  refine met_mk T.cl_Store T.m_Store_closure sc_Store_closure (fun vs H Q E h => ?_) (fun f cdv A outer s H vs Q E hr h => ?_)
  · obtain ⟨c, p, ks, B, a, rfl, _⟩ := h
    rfl
  · obtain ⟨c, p, ks, B, a, rfl, W, wf, hm, hrk, hw, hkl, k⟩ := h
    have hu := hu_of hr
    refine ⟨_, (pss_cons (ps_set (i := 2) sc_Store_closure.nd rfl (by first | exact Or.inl rfl | exact Or.inr rfl) (pe_disp (pps_cons (pv 1) (pe_bl) pps_nil) (by rfl) (by rfl) (fun z => by cases z) (by decide)))
      (pss_cons (ps_for PassesOwn.never rfl (pi_list (pe_mt t_Store_below hr (by first | decide | omega) (pv 0) (pa_cons (pv 1) pa_nil))) (pg_name (i := 3) sc_Store_closure.nd rfl (by first | exact Or.inl rfl | exact Or.inr rfl)) (pss_one (ps_for PassesOwn.never rfl (pi_list (pe_mt t_Store_closure hr (by first | decide | omega) (pv 0) (pa_cons (pv 3) pa_nil))) (pg_name (i := 4) sc_Store_closure.nd rfl (by first | exact Or.inl rfl | exact Or.inr rfl)) (pss_one (ps_dput hu (pv 2) (pv 4) (pe_bl) rfl)))))
      (pss_one (ps_ret (pe_callTy (call_list_dK rfl) (by rfl) T.n_list (by decide +kernel) (pa_cons (pv 2) pa_nil)))))), ?_⟩
    obtain ⟨dx0, d0, h10, h20, _⟩ := id W.ex
    walk_at "lw"
    refine g_disp fun fd H1 nfd s1 hfd => ?_
    walk_at "lw"
    refine g_rdisp (kvs := [(kS a, .bl true)]) hfd rfl (by show 1 ≤ 15; decide) fun H2 hf2 k2 => ?_
    have hf2 : H2 fd = some (.dK (mkS [a] fun _ => .bl true)) := hf2
    have s2 : Same H H2 := s1.chg nfd k2
    have W2 := W.same s2
    obtain ⟨dx, d, h1, h2, h3, A', h4, h5⟩ := id W2.ex
    walk_at "lw"
    refine ⟨c, p, ks, B, a, rfl, W2, wf, hm, fun r H3 s3 hr3 => ?_⟩
    refine g_ritL (SqL.of hr3) ?_
    have hrs : ∀ y ∈ (B a).refs, SX.S y ∈ ks ∧ (B (SX.S y)).k.rk < n ∧ wh ks B n (SX.S y) = true := fun y hy => by
      unfold wh at hw
      rw [Bool.and_eq_true, List.all_eq_true] at hw
      have := hw.2 y hy
      rw [Bool.and_eq_true, Bool.and_eq_true, decide_eq_true_eq, decide_eq_true_eq] at this
      have hlt := Kd.lo_rk this.2.1
      exact ⟨this.1, by omega, this.2.2⟩
    have W3 := W2.same s3
    refine for_at (G := fun H' => SqL K H' r ((B a).refs.map strS)) walk_list (fun i σ H' => Same H H' ∧ H' r = some (.lst ((B a).refs.map strS)) ∧ H' fd = some (.dK (mkS (((B a).refs.take i).foldl (fun f y => (clo B (n - 1) (SX.S y)).foldl addD f) [a]) fun _ => .bl true)) ∧ StoreAt C_Store c H' p ks B ∧
      (((B a).refs.take i).foldl (fun f y => (clo B (n - 1) (SX.S y)).foldl addD f) [a]).Nodup ∧ (∀ x ∈ ((B a).refs.take i).foldl (fun f y => (clo B (n - 1) (SX.S y)).foldl addD f) [a], x ∈ ks) ∧
      ∃ v v2 : Option V, σ = [some (.ref p), some (.str a), some (.ref fd), v, v2]) ⟨s2.trans s3, hr3, s3.at hf2, W3, (by simp), (fun x hx => by rw [List.mem_singleton.mp hx]; exact hm), none, none, rfl⟩ (fun i σ H' h => SqL.of h.2.1) ?_ ?_
    · rintro i x σ H4 hx ⟨s4, hr4, hf4, W4, hnd, hin, v, v2, rfl⟩
      obtain ⟨y, hy, rfl⟩ := map_at hx
      obtain ⟨q1, q2, q3⟩ := hrs y (List.mem_of_getElem? hy)
      have hn1 : n - 1 + 1 = n := by omega
      rw [take_ok hy, List.foldl_append]
      show (gName 3) _ _ _ _
      generalize hfo : ((B a).refs.take i).foldl (fun f y => (clo B (n - 1) (SX.S y)).foldl addD f) [a] = fo at hf4 hnd hin
      obtain ⟨dx4, d4, _, h24, _⟩ := id W4.ex
      walk_at "lw"
      refine hs c H4 _ p ks B (SX.S y) W4 wf q1 q2 q3 hkl fun r5 H5 s5 hr5 => ?_
      have hci : ∀ x ∈ clo B (n - 1) (SX.S y), x ∈ ks := clo_mem (n := n - 1) (by rw [hn1]; exact q3)
      have nfr : fd ≠ r := ne_of hf4 hr4 (by intro z; cases z)
      have nfr5 : fd ≠ r5 := ne_of (s5.at hf4) hr5 (by intro z; cases z)
      refine g_ritL (SqL.of hr5) ?_
      refine for_at (G := fun H' => SqL K H' r5 ((clo B (n - 1) (SX.S y)).map V.str)) walk_list (fun i2 σ H' => Same H H' ∧ H' r = some (.lst ((B a).refs.map strS)) ∧ H' r5 = some (.lst ((clo B (n - 1) (SX.S y)).map V.str)) ∧ H' fd = some (.dK (mkS (((clo B (n - 1) (SX.S y)).take i2).foldl addD fo) fun _ => .bl true)) ∧ StoreAt C_Store c H' p ks B ∧
        (((clo B (n - 1) (SX.S y)).take i2).foldl addD fo).Nodup ∧ (∀ x ∈ ((clo B (n - 1) (SX.S y)).take i2).foldl addD fo, x ∈ ks) ∧
        ∃ v : Option V, σ = [some (.ref p), some (.str a), some (.ref fd), some (strS y), v]) ⟨s4.trans s5, s5.at hr4, hr5, s5.at hf4, W4.same s5, hnd, hin, v2, rfl⟩ (fun i σ H' h => SqL.of h.2.2.1) ?_ ?_
      · rintro i2 x σ H6 hx2 ⟨s6, hr6, hr56, hf6, W6, hnd6, hin6, v6, rfl⟩
        obtain ⟨z, hz, rfl⟩ := map_at hx2
        rw [take_ok hz, List.foldl_append]
        generalize hfo6 : ((clo B (n - 1) (SX.S y)).take i2).foldl addD fo = fo6 at hf6 hnd6 hin6
        have hl6 := few_len hnd6 hin6
        walk_at "lw"
        refine g_rdputS hf6 (by rw [mkS_len]; omega) fun H7 h7 k7 => ?_
        walk_at "lw"
        rw [putK_S] at h7
        have n0f : H fd = none := nfd
        have hp7 : StoreAt C_Store c H7 p ks B := by
          obtain ⟨dx6, d6, e1, e2, e3, A6, e4, e5⟩ := W6.ex
          have npf : p ≠ fd := ne_of_none h20 nfd
          have ndf : d6 ≠ fd := fun z => by
            obtain ⟨dx0', d0', _, f2, _, A0, f4, _⟩ := W.ex
            have e2' := s6.at f2
            rw [e2] at e2'
            cases e2'
            rw [z, nfd] at f4
            cases f4
          exact ⟨dx6, d6, e1, by rw [k7 p npf]; exact e2, e3, A6, by rw [k7 d6 ndf]; exact e4, fun a ha => by rw [k7 _ (ne_of (e5 a ha) hf6 (by intro z; cases z))]; exact e5 a ha⟩
        refine ⟨s6.chg n0f k7, by rw [k7 r nfr.symm]; exact hr6, by rw [k7 r5 nfr5.symm]; exact hr56, ?_, hp7, addD_nd hnd6, fun x hx => ?_, _, rfl⟩
        · rw [h7]
          congr 2
          refine mkS_congr fun j _ => ?_
          split <;> rfl
        · rcases mem_putS.mp hx with u | u
          · exact hin6 x u
          · rw [u]; exact hci z (List.mem_of_getElem? hz)
      · rintro σ H6 ⟨s6, hr6, hr56, hf6, W6, hnd6, hin6, v6, rfl⟩
        rw [List.length_map, List.take_length] at hf6 hnd6 hin6
        exact ⟨s6, hr6, hf6, W6, hnd6, hin6, _, _, rfl⟩
    · rintro σ H4 ⟨s4, hr4, hf4, W4, hnd, hin, v, v2, rfl⟩
      rw [List.length_map, List.take_length] at hf4
      walk_at "lw"
      refine ⟨fd, _, rfl, hf4, fun q nq => ?_⟩
      rw [mkS_kV]
      refine k q _ (s4.thenNew nq) ?_
      rw [upd_same]
      congr 2
      cases n with
      | zero =>
        have e : (B a).refs = [] := by
          cases hr : (B a).refs with
          | nil => rfl
          | cons y ys => exact absurd (hrs y (by rw [hr]; exact List.mem_cons_self)).2.1 (Nat.not_lt_zero _)
        rw [e]
        rfl
      | succ n => rfl
theorem no_closure (T : Txt w K mg C_Claims C_Collector C_Store C_Uploads C_Registry C_Refused C_Malformed a_KINDS a_BELOW a_CLAIMED) : Met P w K mg base 1 C_Store "closure" (fun _ _ _ _ => False) :=
  met_mk T.cl_Store T.m_Store_closure sc_Store_closure (fun vs H Q E h => h.elim) (fun f cdv A outer s H vs Q E hr h => h.elim)
theorem ok_Store_closure (T : Txt w K mg C_Claims C_Collector C_Store C_Uploads C_Registry C_Refused C_Malformed a_KINDS a_BELOW a_CLAIMED) : Met P w K mg base 9 C_Store "closure" (spClo C_Store 2) := by
  have t0 : Met P w K mg base 7 C_Store "closure" (spClo C_Store 0) := clo_step T (j := 6) (by decide) (by decide) (no_closure T) (fun c H Q p ks B a _ _ _ h _ _ _ => absurd h (Nat.not_lt_zero _))
  have t1 : Met P w K mg base 8 C_Store "closure" (spClo C_Store 1) := clo_step T (j := 7) (by decide) (by decide) t0 (fun c H Q p ks B a W wf hm h hw hl k => ⟨c, p, ks, B, a, rfl, W, wf, hm, by omega, hw, hl, k⟩)
  exact clo_step T (j := 8) (by decide) (by decide) t1 (fun c H Q p ks B a W wf hm h hw hl k => ⟨c, p, ks, B, a, rfl, W, wf, hm, by omega, hw, hl, k⟩)
end
end Lw

/-! ## the registry: what stands in it, and what a request does -/
namespace Lw
open PySem L2
open PyProof.Rows (envOfC sortedS)
def KOk (ks : List Str) : Prop := ∀ a ∈ ks, ∃ l, a = SX.S l ∧ isAdr l = true
theorem Kd.rk2 (k : Kd) : k.rk ≤ 2 := by cases k <;> decide
structure Rg where
  ks : List Str
  B : Str → Bl
  nk : List Str
  N : Str → Str
  n : Int
  cs : List Int
  L : Int → List Str
  un : Int
  ts : List Int
  X : Int → List Nat
  ph : Str
  mr : List Str
  td : List Str
  dm : List Str
structure Rx where
  R : Addr
  p : Addr
  nd : Addr
  cp : Addr
  up : Addr
  co : Addr
structure CoAt (C : Addr) (c : Addr → Nat) (H : Hp) (o p : Addr) (ph : Str) (mk td dm : List Str) : Prop where
  ex : ∃ (dx m t d : Addr), c o = 6 ∧ H o = some (.ins C dx (f_Collector (.ref p) (.str ph) (.ref m) (.ref t) (.ref d))) ∧ c m = 6 ∧ H m = some (.dK (mkS mk fun _ => .bl true)) ∧ c t = 6 ∧ H t = some (.lst (td.map V.str)) ∧ c d = 6 ∧ H d = some (.lst (dm.map V.str)) ∧ t ≠ d
theorem CoAt.frame {C : Addr} {I : Nat → Prop} {c c' : Addr → Nat} {H H' : Hp} {o p : Addr} {ph : Str} {mk td dm : List Str} (h : CoAt C c H o p ph mk td dm) (s : Stp I c c' H H') (hi : ¬ I 6) : CoAt C c' H' o p ph mk td dm := by
  obtain ⟨dx, m, t, d, h1, h2, h3, h4, h5, h6, h7, h8, h9⟩ := h.ex
  exact ⟨dx, m, t, d, by rw [s.col _ _ h2, h1], s.keep _ _ h2 (by rw [h1]; exact hi), by rw [s.col _ _ h4, h3], s.keep _ _ h4 (by rw [h3]; exact hi), by rw [s.col _ _ h6, h5], s.keep _ _ h6 (by rw [h5]; exact hi), by rw [s.col _ _ h8, h7], s.keep _ _ h8 (by rw [h7]; exact hi), h9⟩
structure RegAt (CS CC CU CO CR : Addr) (c : Addr → Nat) (H : Hp) (x : Rx) (s : Rg) : Prop where
  re : c x.R = 5 ∧ ∃ dx, H x.R = some (.ins CR dx (f_Registry (.ref x.p) (.ref x.nd) (.ref x.cp) (.ref x.up) (.ref x.co)))
  nm : c x.nd = 5 ∧ H x.nd = some (.dK (mkS s.nk fun a => .str (s.N a)))
  st : StoreAt CS c H x.p s.ks s.B
  cl : ClaimsAt CC c H x.cp s.n s.cs s.L
  up : UpAt CU c H x.up s.un s.ts s.X
  co : CoAt CO c H x.co x.p s.ph s.mr s.td s.dm
def IReg : Nat → Prop := fun i => i = 1 ∨ i = 3 ∨ i = 4 ∨ i = 5 ∨ i = 6
section
variable {CS CC CU CO CR : Addr} {c c' : Addr → Nat} {H H' : Hp} {x : Rx} {s : Rg} {I : Nat → Prop}
theorem RegAt.frame (W : RegAt CS CC CU CO CR c H x s) (st : Stp I c c' H H') (hi : ∀ i, I i → ¬ IReg i) : RegAt CS CC CU CO CR c' H' x s := by
  have n1 : ¬ I 1 := fun z => hi 1 z (.inl rfl)
  have n3 : ¬ I 3 := fun z => hi 3 z (.inr (.inl rfl))
  have n4 : ¬ I 4 := fun z => hi 4 z (.inr (.inr (.inl rfl)))
  have n5 : ¬ I 5 := fun z => hi 5 z (.inr (.inr (.inr (.inl rfl))))
  have n6 : ¬ I 6 := fun z => hi 6 z (.inr (.inr (.inr (.inr rfl))))
  obtain ⟨r1, dx, r2⟩ := W.re
  obtain ⟨m1, m2⟩ := W.nm
  exact ⟨⟨by rw [st.col _ _ r2, r1], dx, st.keep _ _ r2 (by rw [r1]; exact n5)⟩, ⟨by rw [st.col _ _ m2, m1], st.keep _ _ m2 (by rw [m1]; exact n5)⟩, W.st.frame st n1, W.cl.frame st n4, W.up.frame st n3, W.co.frame st n6⟩
theorem RegAt.same (W : RegAt CS CC CU CO CR c H x s) (st : Same H H') : RegAt CS CC CU CO CR c H' x s := W.frame (Stp.same (I := fun _ => False) st) (fun i z => z.elim)
theorem RegAt.store (W : RegAt CS CC CU CO CR c H x s) {ks : List Str} {B : Str → Bl} (h : StoreAt CS c' H' x.p ks B) (st : Stp (fun i => i = 1) c c' H H') : RegAt CS CC CU CO CR c' H' x { s with ks := ks, B := B } := by
  obtain ⟨r1, dx, r2⟩ := W.re
  obtain ⟨m1, m2⟩ := W.nm
  exact ⟨⟨by rw [st.col _ _ r2, r1], dx, st.keep _ _ r2 (by rw [r1]; decide)⟩, ⟨by rw [st.col _ _ m2, m1], st.keep _ _ m2 (by rw [m1]; decide)⟩, h, W.cl.frame st (by decide), W.up.frame st (by decide), W.co.frame st (by decide)⟩
theorem RegAt.claims (W : RegAt CS CC CU CO CR c H x s) {n : Int} {cs : List Int} {L : Int → List Str} (h : ClaimsAt CC c' H' x.cp n cs L) (st : Stp (fun i => i = 4) c c' H H') : RegAt CS CC CU CO CR c' H' x { s with n := n, cs := cs, L := L } := by
  obtain ⟨r1, dx, r2⟩ := W.re
  obtain ⟨m1, m2⟩ := W.nm
  exact ⟨⟨by rw [st.col _ _ r2, r1], dx, st.keep _ _ r2 (by rw [r1]; decide)⟩, ⟨by rw [st.col _ _ m2, m1], st.keep _ _ m2 (by rw [m1]; decide)⟩, W.st.frame st (by decide), h, W.up.frame st (by decide), W.co.frame st (by decide)⟩
theorem RegAt.ups (W : RegAt CS CC CU CO CR c H x s) {n : Int} {ts : List Int} {X : Int → List Nat} (h : UpAt CU c' H' x.up n ts X) (st : Stp (fun i => i = 3) c c' H H') : RegAt CS CC CU CO CR c' H' x { s with un := n, ts := ts, X := X } := by
  obtain ⟨r1, dx, r2⟩ := W.re
  obtain ⟨m1, m2⟩ := W.nm
  exact ⟨⟨by rw [st.col _ _ r2, r1], dx, st.keep _ _ r2 (by rw [r1]; decide)⟩, ⟨by rw [st.col _ _ m2, m1], st.keep _ _ m2 (by rw [m1]; decide)⟩, W.st.frame st (by decide), W.cl.frame st (by decide), h, W.co.frame st (by decide)⟩
theorem RegAt.coll (W : RegAt CS CC CU CO CR c H x s) {ph : Str} {mk td dm : List Str} (h : CoAt CO c' H' x.co x.p ph mk td dm) (st : Stp (fun i => i = 6) c c' H H') : RegAt CS CC CU CO CR c' H' x { s with ph := ph, mr := mk, td := td, dm := dm } := by
  obtain ⟨r1, dx, r2⟩ := W.re
  obtain ⟨m1, m2⟩ := W.nm
  exact ⟨⟨by rw [st.col _ _ r2, r1], dx, st.keep _ _ r2 (by rw [r1]; decide)⟩, ⟨by rw [st.col _ _ m2, m1], st.keep _ _ m2 (by rw [m1]; decide)⟩, W.st.frame st (by decide), W.cl.frame st (by decide), W.up.frame st (by decide), h⟩
/-- the names' dict changed -/
theorem RegAt.names (W : RegAt CS CC CU CO CR c H x s) {nk : List Str} {N : Str → Str} (h : H' x.nd = some (.dK (mkS nk fun a => .str (N a)))) (k : ∀ b, b ≠ x.nd → H' b = H b) : RegAt CS CC CU CO CR c H' x { s with nk := nk, N := N } ∧ Stp (fun i => i = 5) c c H H' := by
  obtain ⟨r1, dx, r2⟩ := W.re
  obtain ⟨m1, m2⟩ := W.nm
  have st : Stp (fun i => i = 5) c c H H' := Stp.ch m2 m1 (fun xs z => by cases z) h k
  exact ⟨⟨⟨r1, dx, by rw [k _ (ne_of r2 m2 (by intro z; cases z))]; exact r2⟩, ⟨m1, h⟩, W.st.frame st (by decide), W.cl.frame st (by decide), W.up.frame st (by decide), W.co.frame st (by decide)⟩, st⟩
/-- its objects -/
theorem RegAt.hs (W : RegAt CS CC CU CO CR c H x s) : ∃ (d1 d2 d3 d4 d5 : Addr) (v1 v2 v3 v4 v5 v6 v7 v8 : V), H x.R = some (.ins CR d1 (f_Registry (.ref x.p) (.ref x.nd) (.ref x.cp) (.ref x.up) (.ref x.co))) ∧ H x.p = some (.ins CS d2 (f_Store v1)) ∧ H x.cp = some (.ins CC d3 (f_Claims v2 v3)) ∧ H x.up = some (.ins CU d4 (f_Uploads v4 v5)) ∧
    H x.co = some (.ins CO d5 (f_Collector (.ref x.p) (.str s.ph) v6 v7 v8)) ∧ H x.nd = some (.dK (mkS s.nk fun a => .str (s.N a))) := by
  obtain ⟨_, d1, r2⟩ := W.re
  obtain ⟨d2, _, _, s2, _⟩ := W.st.ex
  obtain ⟨d3, _, _, _, c2, _⟩ := W.cl.ex
  obtain ⟨d4, _, _, u2, _⟩ := W.up.ex
  obtain ⟨d5, _, _, _, _, o2, _⟩ := W.co.ex
  exact ⟨d1, d2, d3, d4, d5, _, _, _, _, _, _, _, _, r2, s2, c2, u2, o2, W.nm.2⟩
end
theorem IReg.of {i : Nat} (h : i = 1 ∨ i = 3 ∨ i = 4 ∨ i = 5 ∨ i = 6) : IReg i := h
/-! ### pure -/
def shd (s : Rg) (a : Str) : Rg := { s with mr := if s.ph = "idle" then s.mr else (clo s.B 2 a).foldl addD s.mr }
def pin (s : Rg) (c : Int) (a : Str) : Rg := { s with L := fun j => if j = c then s.L c ++ [a] else s.L j }
def keepR (s : Rg) (c : Int) (a : Str) : Rg × List Key := (shd (pin s c a) a, [.inr "kept", .inr a])
def sto (s : Rg) (b : Bl) : Rg := { s with ks := putS s.ks (adrB b), B := updB s.B (adrB b) b }
def goodR (s : Rg) (k : Kd) (r : List Nat) : Bool := decide (SX.S r ∈ s.ks) && (decide (k.lo = some (s.B (SX.S r)).k) && wh s.ks s.B 3 (SX.S r))
def badR (s : Rg) (k : Kd) (rs : List (List Nat)) : Option (List Nat) := rs.find? fun r => !goodR s k r
inductive Rq
  | opn | has (c : Int) (a : Str) | start (c : Int) | part (u i : Int) (t : List Nat) | fin (u c : Int) (a : Str) | put (c : Int) (k : Kd) (t : List Nat) | name (c : Int) (nm a : Str) | close (c : Int) | look (nm : Str) | get (a : Str) (i m : Int) | drop (nm : Str)
def Rq.b : Rq → List Key
  | .opn => [.inr "open"]
  | .has c a => [.inr "has", .inl c, .inr a]
  | .start c => [.inr "start", .inl c]
  | .part u i t => [.inr "part", .inl u, .inl i, .inr (SX.S t)]
  | .fin u c a => [.inr "finish", .inl u, .inl c, .inr "layer", .inr a]
  | .put c k t => [.inr "put", .inl c, .inr k.s, .inr (SX.S t)]
  | .name c nm a => [.inr "name", .inl c, .inr nm, .inr a]
  | .close c => [.inr "close", .inl c]
  | .look nm => [.inr "look", .inr nm]
  | .get a i m => [.inr "get", .inr a, .inl i, .inl m]
  | .drop nm => [.inr "drop", .inr nm]
def lapsedR (c : Int) : List Key := [.inr "lapsed", .inl c]
def lacksR (a : Str) : List Key := [.inr "lacks", .inr a]
def hasR (s : Rg) (c : Int) (a : Str) : Rg × List Key := if wh s.ks s.B 3 a = true then keepR s c a else (s, lacksR a)
def partR (s : Rg) (u i : Int) (t : List Nat) : Rg × List Key :=
  if u ∈ s.ts then (if i = (s.X u).length then ({ s with X := fun j => if j = u then s.X u ++ t else s.X j }, [.inr "have", .inl u, .inl ((s.X u ++ t).length : Int)]) else (s, [.inr "have", .inl u, .inl ((s.X u).length : Int)])) else (s, [.inr "gone", .inl u])
def unup (s : Rg) (u : Int) : Rg := { s with ts := s.ts.filter fun j => decide (j ≠ u) }
def finR (s : Rg) (u c : Int) (a : Str) : Rg × List Key :=
  if c ∈ s.cs then (if u ∈ s.ts then (if adrB ⟨.lay, s.X u⟩ = a then keepR (sto (unup s u) ⟨.lay, s.X u⟩) c a else (unup s u, [.inr "wrong", .inr a])) else if wh s.ks s.B 3 a = true then keepR s c a else (s, [.inr "gone", .inl u])) else (s, lapsedR c)
def putR (s : Rg) (c : Int) (k : Kd) (t : List Nat) : Rg × List Key :=
  match faultK k.s t with
  | some _ => (s, [.inr "malformed"])
  | none => match badR s k (refsL k.s t) with
    | some r => (s, lacksR (SX.S r))
    | none => keepR (sto s ⟨k, t⟩) c (adrB ⟨k, t⟩)
def nameR (s : Rg) (c : Int) (nm a : Str) : Rg × List Key :=
  if a ∈ s.ks ∧ (s.B a).k ≠ .lay ∧ wh s.ks s.B 3 a = true then ({ (keepR s c a).1 with nk := putS s.nk nm, N := fun j => if j = nm then a else s.N j }, [.inr "named", .inr nm, .inr a]) else (s, lacksR a)
def getR (s : Rg) (a : Str) (i m : Int) : List Key := if a ∈ s.ks then [.inr "piece", .inr a, .inr (s.B a).k.s, .inl i, .inr (Txt.slice (SX.S (s.B a).t) (some i) (some (i + m))), .inl ((s.B a).t.length : Int)] else lacksR a
def ans (s : Rg) : Rq → Rg × List Key
  | .opn => ({ s with n := s.n + 1, cs := s.cs ++ [s.n + 1], L := fun j => if j = s.n + 1 then [] else s.L j }, [.inr "claim", .inl (s.n + 1)])
  | .has c a => if c ∈ s.cs then hasR s c a else (s, lapsedR c)
  | .start c => if c ∈ s.cs then ({ s with un := s.un + 1, ts := s.ts ++ [s.un + 1], X := fun j => if j = s.un + 1 then [] else s.X j }, [.inr "upload", .inl (s.un + 1)]) else (s, lapsedR c)
  | .part u i t => partR s u i t
  | .fin u c a => finR s u c a
  | .put c k t => if c ∈ s.cs then putR s c k t else (s, lapsedR c)
  | .name c nm a => if c ∈ s.cs then nameR s c nm a else (s, lapsedR c)
  | .close c => ({ s with cs := s.cs.filter fun j => decide (j ≠ c) }, [.inr "closed", .inl c])
  | .look nm => (s, if nm ∈ s.nk then [.inr "leads", .inr nm, .inr (s.N nm)] else [.inr "nothing", .inr nm])
  | .get a i m => (s, getR s a i m)
  | .drop nm => ({ s with nk := s.nk.filter fun j => decide (j ≠ nm) }, [.inr "dropped", .inr nm])
/-- a request's texts -/
def Rq.Ok : Rq → Prop
  | .part _ _ t => okC t ∧ t.length ≤ 1000
  | .put _ k t => k ≠ .lay ∧ okC t ∧ t.length ≤ 10000
  | _ => True
structure RWf (s : Rg) : Prop where
  sw : SWf s.ks s.B
  kl : s.ks.length ≤ 900
  cle : ∀ k ∈ s.cs, k ≤ s.n
  cl : s.cs.length ≤ 900
  Ll : ∀ i, (s.L i).length ≤ 900
  ule : ∀ k ∈ s.ts, k ≤ s.un
  ul : s.ts.length ≤ 900
  Xl : ∀ i, (s.X i).length ≤ 9000 ∧ okC (s.X i)
  nl : s.nk.length ≤ 900
  cn : s.cs.Nodup
  nn : s.nk.Nodup
/-- as far as keeping asks for it -/
structure KWf (s : Rg) : Prop where
  sw : SWf s.ks s.B
  kl : s.ks.length ≤ 1000
  Ll : ∀ i, (s.L i).length ≤ 1000
theorem RWf.k {s : Rg} (h : RWf s) : KWf s := ⟨h.sw, Nat.le_trans h.kl (by decide), fun i => Nat.le_trans (h.Ll i) (by decide)⟩
theorem RWf.unup {s : Rg} (h : RWf s) (u : Int) : RWf (unup s u) := ⟨h.sw, h.kl, h.cle, h.cl, h.Ll, fun k hk => h.ule k (List.mem_filter.mp hk).1, Nat.le_trans (List.length_filter_le _ _) h.ul, h.Xl, h.nl, h.cn, h.nn⟩
theorem RWf.sto {s : Rg} (h : RWf s) {b : Bl} (hb : b.Ok) : KWf (sto s b) := ⟨h.sw.put hb, by have := @putS_len s.ks (adrB b); have := h.kl; show (putS s.ks (adrB b)).length ≤ 1000; omega, fun i => Nat.le_trans (h.Ll i) (by decide)⟩
/-- what is shaded is whole -/
def ShOk (s : Rg) (a : Str) : Prop := s.ph = "idle" ∨ (a ∈ s.ks ∧ wh s.ks s.B 3 a = true ∧ s.mr.length ≤ 9000)
def AnsOk (s : Rg) : Rq → Prop
  | .put _ k t => s.ph = "idle" ∨ ((badR s k (refsL k.s t) = none → wh (sto s ⟨k, t⟩).ks (sto s ⟨k, t⟩).B 3 (adrB ⟨k, t⟩) = true) ∧ s.mr.length ≤ 9000)
  | _ => s.ph = "idle" ∨ s.mr.length ≤ 9000
theorem wh_in {ks : List Str} {B : Str → Bl} {n : Nat} {a : Str} (h : wh ks B (n + 1) a = true) : a ∈ ks := by
  unfold wh at h
  rw [Bool.and_eq_true, decide_eq_true_eq] at h
  exact h.1
theorem lay_wh {ks : List Str} {B : Str → Bl} {n : Nat} {a : Str} (h : a ∈ ks) (hk : (B a).k = .lay) : wh ks B (n + 1) a = true := by
  unfold wh
  rw [decide_eq_true h, refs_lay hk]
  rfl
theorem ded_le (l : List Str) : (ded l).length ≤ l.length := by
  have : ∀ (l acc : List Str), (addTo acc l).length ≤ acc.length + l.length := by
    intro l
    induction l with
    | nil => intro acc; exact Nat.le_refl _
    | cons y r ih =>
      intro acc
      show (addTo (if y ∈ acc then acc else acc ++ [y]) r).length ≤ _
      refine Nat.le_trans (ih _) ?_
      split
      · rw [List.length_cons]; omega
      · simp only [List.length_append, List.length_cons, List.length_nil]; omega
  have h := this l []
  simpa [ded] using h
theorem badR_nil {s : Rg} {k : Kd} {rs : List (List Nat)} (h : ∀ r ∈ rs, goodR s k r = true) : badR s k rs = none := by
  unfold badR
  rw [List.find?_eq_none]
  intro r hr
  rw [h r hr]; decide
theorem badR_at {s : Rg} {k : Kd} {rs : List (List Nat)} {i : Nat} {y : List Nat} (h : ∀ r ∈ rs.take i, goodR s k r = true) (hy : rs[i]? = some y) (hb : goodR s k y = false) : badR s k rs = some y := by
  unfold badR
  have e : rs = rs.take i ++ y :: rs.drop (i + 1) := by
    have hi := (List.getElem?_eq_some_iff.mp hy)
    obtain ⟨hi, he⟩ := hi
    conv => lhs; rw [← List.take_append_drop i rs, List.drop_eq_getElem_cons hi, he]
  rw [e, List.find?_append, show List.find? (fun r => !goodR s k r) (rs.take i) = none by
    rw [List.find?_eq_none]
    intro r hr
    rw [h r hr]; decide]
  show (List.find? (fun r => !goodR s k r) (y :: rs.drop (i + 1))) = some y
  rw [List.find?_cons_of_pos (by rw [hb]; decide)]
/-! ### promises -/
section
variable (CS CC CU CO CR : Addr)
/-- a reply of s' comes, the registry is then as s' says -/
def RpQ (c : Addr → Nat) (H : Hp) (x : Rx) (r : Rg × List Key) (Q : VK) : Prop := ∀ (c' : Addr → Nat) (H' : Hp) (t : Addr), RegAt CS CC CU CO CR c' H' x r.1 → Stp IReg c c' H H' → H' t = some (.tup (r.2.map kV)) → Q (.ref t) H'
def spShade : Sp := fun vs H Q _ => ∃ (c : Addr → Nat) (x : Rx) (s : Rg) (a : Str), vs = [.ref x.co, .str a] ∧ RegAt CS CC CU CO CR c H x s ∧ SWf s.ks s.B ∧ s.ks.length ≤ 1000 ∧ ShOk s a ∧ ∀ c' H', RegAt CS CC CU CO CR c' H' x (shd s a) → Stp (fun i => i = 6) c c' H H' → Q .non H'
def spKeptR : Sp := fun vs H Q _ => ∃ (c : Addr → Nat) (x : Rx) (s : Rg) (i : Int) (a : Str), vs = [.ref x.R, .int i, .str a] ∧ RegAt CS CC CU CO CR c H x s ∧ KWf s ∧ i ∈ s.cs ∧ ShOk s a ∧ RpQ CS CC CU CO CR c H x (keepR s i a) Q
def spAHas : Sp := fun vs H Q _ => ∃ (c : Addr → Nat) (x : Rx) (s : Rg) (i : Int) (a : Str), vs = [.ref x.R, .int i, .str a] ∧ RegAt CS CC CU CO CR c H x s ∧ RWf s ∧ i ∈ s.cs ∧ (s.ph = "idle" ∨ s.mr.length ≤ 9000) ∧ RpQ CS CC CU CO CR c H x (hasR s i a) Q
def spAPart : Sp := fun vs H Q _ => ∃ (c : Addr → Nat) (x : Rx) (s : Rg) (u i : Int) (t : List Nat), vs = [.ref x.R, .int u, .int i, .str (SX.S t)] ∧ RegAt CS CC CU CO CR c H x s ∧ RWf s ∧ t.length ≤ 1000 ∧ RpQ CS CC CU CO CR c H x (partR s u i t) Q
def spAFin : Sp := fun vs H Q _ => ∃ (c : Addr → Nat) (x : Rx) (s : Rg) (u i : Int) (a : Str), vs = [.ref x.R, .int u, .int i, .str a] ∧ RegAt CS CC CU CO CR c H x s ∧ RWf s ∧ (s.ph = "idle" ∨ s.mr.length ≤ 9000) ∧ RpQ CS CC CU CO CR c H x (finR s u i a) Q
def spAPut : Sp := fun vs H Q _ => ∃ (c : Addr → Nat) (x : Rx) (s : Rg) (i : Int) (k : Kd) (t : List Nat), vs = [.ref x.R, .int i, .str k.s, .str (SX.S t)] ∧ RegAt CS CC CU CO CR c H x s ∧ RWf s ∧ i ∈ s.cs ∧ (Rq.put i k t).Ok ∧ AnsOk s (.put i k t) ∧ RpQ CS CC CU CO CR c H x (putR s i k t) Q
def spAName : Sp := fun vs H Q _ => ∃ (c : Addr → Nat) (x : Rx) (s : Rg) (i : Int) (nm a : Str), vs = [.ref x.R, .int i, .str nm, .str a] ∧ RegAt CS CC CU CO CR c H x s ∧ RWf s ∧ i ∈ s.cs ∧ (s.ph = "idle" ∨ s.mr.length ≤ 9000) ∧ RpQ CS CC CU CO CR c H x (nameR s i nm a) Q
def spAGet : Sp := fun vs H Q _ => ∃ (c : Addr → Nat) (x : Rx) (s : Rg) (a : Str) (i m : Int), vs = [.ref x.R, .str a, .int i, .int m] ∧ RegAt CS CC CU CO CR c H x s ∧ RWf s ∧ RpQ CS CC CU CO CR c H x (s, getR s a i m) Q
def spDrop : Sp := fun vs H Q _ => ∃ (c : Addr → Nat) (x : Rx) (s : Rg) (nm : Str), vs = [.ref x.R, .str nm] ∧ RegAt CS CC CU CO CR c H x s ∧ ∀ c' H', RegAt CS CC CU CO CR c' H' x { s with nk := s.nk.filter fun j => decide (j ≠ nm) } → Stp IReg c c' H H' → Q .non H'
def spLapse : Sp := fun vs H Q _ => ∃ (c : Addr → Nat) (x : Rx) (s : Rg) (i : Int), vs = [.ref x.R, .int i] ∧ RegAt CS CC CU CO CR c H x s ∧ ∀ c' H', RegAt CS CC CU CO CR c' H' x { s with cs := s.cs.filter fun j => decide (j ≠ i) } → Stp IReg c c' H H' → Q .non H'
def spFall : Sp := fun vs H Q _ => ∃ (c : Addr → Nat) (x : Rx) (s : Rg), vs = [.ref x.R] ∧ RegAt CS CC CU CO CR c H x s ∧ ∀ c' H', RegAt CS CC CU CO CR c' H' x { s with ts := [], ph := "idle", mr := [], td := [], dm := [] } → Stp IReg c c' H H' → Q .non H'
def spStop : Sp := fun vs H Q _ => ∃ (c : Addr → Nat) (x : Rx) (s : Rg), vs = [.ref x.co] ∧ RegAt CS CC CU CO CR c H x s ∧ ∀ c' H', RegAt CS CC CU CO CR c' H' x { s with ph := "idle", mr := [], td := [], dm := [] } → Stp (fun i => i = 6) c c' H H' → Q .non H'
/-- the addresses to which names lead or which claims pin -/
def isRoot (s : Rg) (y : Str) : Prop := (∃ i ∈ s.cs, y ∈ s.L i) ∨ ∃ a ∈ s.nk, s.N a = y
def spRoots : Sp := fun vs H Q _ => ∃ (c : Addr → Nat) (x : Rx) (s : Rg) (D : List Str), vs = [.ref x.R] ∧ RegAt CS CC CU CO CR c H x s ∧ (∀ y, isRoot s y → y ∈ D) ∧ D.length < 64 ∧ s.nk.length ≤ 900 ∧
  ∀ (r : Addr) (ys : List Str) H', ys.Nodup → sortedS ys = true → (∀ y, y ∈ ys ↔ isRoot s y) → Same H H' → H' r = some (.lst (ys.map V.str)) → Q (.ref r) H'
def Rq.plain : Rq → Prop
  | .close _ => True | .look _ => True | .get _ _ _ => True | .drop _ => True | _ => False
def spPlain : Sp := fun vs H Q _ => ∃ (c : Addr → Nat) (x : Rx) (s : Rg) (q : Rq) (t : Addr), vs = [.ref x.R, .ref t] ∧ H t = some (.tup (q.b.map kV)) ∧ RegAt CS CC CU CO CR c H x s ∧ RWf s ∧ q.plain ∧ RpQ CS CC CU CO CR c H x (ans s q) Q
def spAns : Sp := fun vs H Q _ => ∃ (c : Addr → Nat) (x : Rx) (s : Rg) (q : Rq) (t : Addr), vs = [.ref x.R, .ref t] ∧ H t = some (.tup (q.b.map kV)) ∧ RegAt CS CC CU CO CR c H x s ∧ RWf s ∧ q.Ok ∧ AnsOk s q ∧ RpQ CS CC CU CO CR c H x (ans s q) Q
end
end Lw

/-! ## try .. except X: without a name -/
namespace Lw
open PySem L2
section
variable {X : Cx} {x : Str} {pos : Pos}
def tTryOnly (K : PySem.W.Frag) (c : Value) (tb : WX → TS) (ts : Addr → Value → Option Addr → TS) (Wout : WX) : TS := fun D σ H => tb (wOnly K c ts Wout D) D σ H
theorem ps_tryOnly {c : Value} {body suite : List Stmt} {b₀ : Stmt} {np pos' : Pos} {tb : WX → TS} {ts : Addr → Value → Option Addr → TS} {Wout : WX}
    (hs : X.stack = X.env :: X.outer) (hf : X.env.frame = some X.env.locals) (hc : Names X x c) (tk : Takes X Wout)
    (hb : ∀ (W : WX) (pn : List (Addr × Obj)) (xe : Value → Shared → Prop), Takes (X.tr pn xe) W → PassesOwn (model X.prog X.w) X.A X.env xe → PSs (X.tr pn xe) body (tb W))
    (hsu : ∀ (a : Addr) (oe : Obj) (cls : Value) (d : Option Addr) (pn : List (Addr × Obj)), Zc cls d oe → (∃ vs, oe.data = .fields vs) → PSs (X.suite a ((a, oe) :: pn)) (b₀ :: suite) (ts a cls d)) :
    PS X (.Try body [.ExceptHandler (some (.Name x np)) none (b₀ :: suite) pos'] [] [] pos) (tTryOnly X.K c tb ts Wout) := ps_try_only hs hf hc tk hb hsu
end
section
variable {σ : L2.St} {H : Hp} {K : PySem.W.Frag} {D : Ends}
theorem g_tryOnly {c : Value} {tb : WX → TS} {ts : Addr → Value → Option Addr → TS} {Wout : WX} (k : tb (wOnly K c ts Wout D) D σ H) : tTryOnly K c tb ts Wout D σ H := k
theorem g_caughtOnly {C : Addr} {ts : Addr → Value → Option Addr → TS} {Wout : WX} {d : Option Addr} (te : PySem.W.exmOne K (.ref C) (.ref C) = some true)
    (k : ∀ a, H a = none → ts a (.ref C) d D σ H) : wOnly K (.ref C) ts Wout D (.ref C) d σ H :=
  ⟨true, te, fun _ a ha => k a ha, fun q => Bool.noConfusion q⟩
end
end Lw

/-! ## the registry's walks -/
namespace Lw
open PySem L2
open PyProof.Rows (envOfC sortedS)
def spCoInit (C : Addr) : Sp := fun vs H Q _ => ∃ (p dx q : Addr), vs = [.ref p, .ref q] ∧ H p = some (.ins C dx []) ∧
  ∀ m t d H', H m = none → H t = none → H d = none → t ≠ d → m ≠ p → t ≠ p → d ≠ p → H' p = some (.ins C dx (f_Collector (.ref q) (.str "idle") (.ref m) (.ref t) (.ref d))) → H' m = some (.dK []) → H' t = some (.lst []) → H' d = some (.lst []) → (∀ b o, H b = some o → b ≠ p → H' b = some o) → Q .non H'
def Rg0 : Rg := { ks := [], B := fun _ => ⟨.lay, []⟩, nk := [], N := fun _ => "", n := 0, cs := [], L := fun _ => [], un := 0, ts := [], X := fun _ => [], ph := "idle", mr := [], td := [], dm := [] }
def spRInit (CS CC CU CO CR : Addr) : Sp := fun vs H Q _ => ∃ (c : Addr → Nat) (R dx : Addr), vs = [.ref R] ∧ H R = some (.ins CR dx []) ∧
  ∀ c' H' x, x.R = R → RegAt CS CC CU CO CR c' H' x Rg0 → (∀ b o, H b = some o → b ≠ R → H' b = some o ∧ c' b = c b) → Q .non H'
section
variable {P : Program} {w : World} {K : PySem.W.Frag} {mg : Str → Option Value} {base : Heap} {C_Claims C_Collector C_Store C_Uploads C_Registry C_Refused C_Malformed a_KINDS a_BELOW a_CLAIMED : Addr}
theorem ok_Collector___init__ (T : Txt w K mg C_Claims C_Collector C_Store C_Uploads C_Registry C_Refused C_Malformed a_KINDS a_BELOW a_CLAIMED) : Mak P w K mg base 1 "Collector" C_Collector (spCoInit C_Collector) := by
  refine mak_mk T.i_Collector sc_Collector___init__ (fun vs H Q E h => ?_) (fun f cdv A outer s H vs Q E hr h => ?_)
  · obtain ⟨p, dx, q, rfl, _⟩ := h
    rfl
  · obtain ⟨p, dx, q, rfl, hp, k⟩ := h
    refine ⟨_, (pss_cons (ps_fld (pv 0) (pv 1) rfl)
      (pss_cons (ps_fld (pv 0) (pe_str) rfl)
      (pss_cons (ps_fld (pv 0) (pe_dnewK) rfl)
      (pss_cons (ps_fld (pv 0) (pe_lst pa_nil) rfl)
      (pss_one (ps_fld (pv 0) (pe_lst pa_nil) rfl)))))), ?_⟩
    walk_at "lw"
    refine g_rsfld hp T.cl_Collector T.na_Collector_store (by show 0 < 1000; decide) fun H2 h2 k2 => ?_
    walk_at "lw"
    refine g_rsfld h2 T.cl_Collector T.na_Collector_phase (by show 1 < 1000; decide) fun H3 h3 k3 => ?_
    walk_at "lw"
    refine g_dnew fun m H4 nm s4 hm => ?_
    walk_at "lw"
    refine g_rsfld (s4 _ _ h3) T.cl_Collector T.na_Collector_marked (by show 2 < 1000; decide) fun H5 h5 k5 => ?_
    walk_at "lw"
    refine g_klst (by show 0 ≤ 100; decide) fun t H6 nt s6 ht => ?_
    walk_at "lw"
    refine g_rsfld (s6 _ _ h5) T.cl_Collector T.na_Collector_todo (by show 3 < 1000; decide) fun H7 h7 k7 => ?_
    walk_at "lw"
    refine g_klst (by show 0 ≤ 100; decide) fun d H8 nd s8 hd => ?_
    walk_at "lw"
    refine g_rsfld (s8 _ _ h7) T.cl_Collector T.na_Collector_doomed (by show 4 < 1000; decide) fun H9 h9 k9 => ?_
    rw [f_Collector_mk] at h9
    walk_at "lw"
    have mp : m ≠ p := (ne_of_none h3 nm).symm
    have tp : t ≠ p := (ne_of_none h5 nt).symm
    have dp : d ≠ p := (ne_of_none h7 nd).symm
    have ht7 : H7 t = some (.lst []) := by rw [k7 t tp]; exact ht
    have hm5 : H5 m = some (.dK []) := by rw [k5 m mp]; exact hm
    have hm7 : H7 m = some (.dK []) := by rw [k7 m mp]; exact s6.at hm5
    have up : ∀ b o, H b = some o → b ≠ p → H9 b = some o := fun b o e hb => by
      rw [k9 b hb]
      refine s8.at ?_
      rw [k7 b hb]
      refine s6.at ?_
      rw [k5 b hb]
      refine s4.at ?_
      rw [k3 b hb, k2 b hb]
      exact e
    have n0 : ∀ b, b ≠ p → H9 b = none → H b = none := fun b hb e => by
      cases q : H b with
      | none => rfl
      | some o => rw [up b o q hb] at e; cases e
    refine k m t d H9 (by rw [← k2 m mp, ← k3 m mp]; exact nm) ?_ ?_ (ne_of_none ht7 nd) mp tp dp h9 (by rw [k9 m mp]; exact s8.at hm7) (by rw [k9 t tp]; exact s8.at ht7) (by rw [k9 d dp]; exact hd) up
    · have e : H4 t = none := by rw [← k5 t tp]; exact nt
      have e := s4.free e
      rw [← k2 t tp, ← k3 t tp]; exact e
    · have e : H6 d = none := by rw [← k7 d dp]; exact nd
      have e := s6.free e
      have e : H4 d = none := by rw [← k5 d dp]; exact e
      have e := s4.free e
      rw [← k2 d dp, ← k3 d dp]; exact e
theorem RegAt.recol {CS CC CU CO CR : Addr} {c c' : Addr → Nat} {H : Hp} {x : Rx} {s : Rg} (W : RegAt CS CC CU CO CR c H x s) (h : ∀ b i, i ≠ 0 → c b = i → c' b = i) : RegAt CS CC CU CO CR c' H x s := by
  obtain ⟨r1, dx, r2⟩ := W.re
  obtain ⟨m1, m2⟩ := W.nm
  obtain ⟨sx, sd, s1, s2, s3, s4⟩ := W.st.ex
  obtain ⟨cx, cd, cA, c1, c2, c3, c4, c5, c6⟩ := W.cl.ex
  obtain ⟨ux, ud, u1, u2, u3, u4⟩ := W.up.ex
  obtain ⟨ox, om, ot, od, o1, o2, o3, o4, o5, o6, o7, o8, o9⟩ := W.co.ex
  exact ⟨⟨h _ _ (by decide) r1, dx, r2⟩, ⟨h _ _ (by decide) m1, m2⟩, ⟨sx, sd, h _ _ (by decide) s1, s2, h _ _ (by decide) s3, s4⟩, ⟨cx, cd, cA, h _ _ (by decide) c1, c2, h _ _ (by decide) c3, c4, fun i hi => ⟨h _ _ (by decide) (c5 i hi).1, (c5 i hi).2⟩, c6⟩, ⟨ux, ud, h _ _ (by decide) u1, u2, h _ _ (by decide) u3, u4⟩, ⟨ox, om, ot, od, h _ _ (by decide) o1, o2, h _ _ (by decide) o3, o4, h _ _ (by decide) o5, o6, h _ _ (by decide) o7, o8, o9⟩⟩
theorem lk_pf {k f : Str} {y : V} (h : ¬ f = k) : ∀ {fs : List (Str × V)}, (putF f y fs).lookup k = fs.lookup k := by
  intro fs
  induction fs with
  | nil =>
    show List.lookup k ((f, y) :: []) = _
    rw [lk_ne (by simpa using fun z => h z.symm)]
  | cons q r ih =>
    obtain ⟨g, u⟩ := q
    unfold putF
    split
    · rename_i e
      subst e
      rw [lk_ne (by simpa using fun z => h z.symm), lk_ne (by simpa using fun z => h z.symm)]
    · by_cases e : k = g
      · subst e; rw [lk_eq, lk_eq]
      · rw [lk_ne (by simpa using e), lk_ne (by simpa using e), ih]
theorem ok_Registry___init__ (T : Txt w K mg C_Claims C_Collector C_Store C_Uploads C_Registry C_Refused C_Malformed a_KINDS a_BELOW a_CLAIMED) : Mak P w K mg base 3 "Registry" C_Registry (spRInit C_Store C_Claims C_Uploads C_Collector C_Registry) := by
  have m_Store : Mak P w K mg base 1 "Store" C_Store (spSInit C_Store) := ok_Store___init__ T
  have m_Claims : Mak P w K mg base 1 "Claims" C_Claims (spCInit C_Claims) := ok_Claims___init__ T
  have m_Uploads : Mak P w K mg base 1 "Uploads" C_Uploads (spUInit C_Uploads) := ok_Uploads___init__ T
  have m_Collector : Mak P w K mg base 1 "Collector" C_Collector (spCoInit C_Collector) := ok_Collector___init__ T
  refine mak_mk T.i_Registry sc_Registry___init__ (fun vs H Q E h => ?_) (fun f cdv A outer s H vs Q E hr h => ?_)
  · obtain ⟨c, p, dx, rfl, _⟩ := h
    rfl
  · obtain ⟨c, p, dx, rfl, hp, k⟩ := h
    refine ⟨_, (pss_cons (ps_fld (pv 0) (pe_mk0 m_Store hr (by first | decide | omega) rfl) rfl)
      (pss_cons (ps_fld (pv 0) (pe_dnewK) rfl)
      (pss_cons (ps_fld (pv 0) (pe_mk0 m_Claims hr (by first | decide | omega) rfl) rfl)
      (pss_cons (ps_fld (pv 0) (pe_mk0 m_Uploads hr (by first | decide | omega) rfl) rfl)
      (pss_one (ps_fld (pv 0) (pe_mk m_Collector hr (by first | decide | omega) rfl (pa_cons (pe_fld (pv 0) rfl) pa_nil)) rfl)))))), ?_⟩
    walk_at "lw"
    have hc0 : ∃ c0 : Addr → Nat, c0 p = 5 ∧ ∀ b, b ≠ p → c0 b = 0 := ⟨Stp.paint (fun _ => 0) p 5, Stp.paint_same, fun b hb => Stp.paint_ne hb⟩
    obtain ⟨c0, hc0, hcb⟩ := hc0
    intro p1 dx1 np ndx nex
    refine ⟨p1, dx1, rfl, upd_same, fun l H1 nl hp1 hl kp => ⟨rfl, ?_⟩⟩
    have s1 : Same H H1 := Same.made np ndx kp
    have s1' : Same H (upd (upd H dx1 (.own p1)) p1 (.ins C_Store dx1 [])) := (Same.new ndx).thenNew (by rw [upd_ne nex.symm]; exact np)
    have npl : p1 ≠ l := fun z => by subst z; rw [upd_same] at nl; cases nl
    have nl1 : H l = none := s1'.free nl
    have st1 : Stp IReg c0 (Stp.paint (Stp.paint c0 p1 1) l 1) H H1 := Stp.sameC s1 fun b o e => by
      rw [Stp.paint_ne (ne_of_none e nl1), Stp.paint_ne (ne_of_none e np)]
    have S1 : StoreAt C_Store (Stp.paint (Stp.paint c0 p1 1) l 1) H1 p1 [] (fun _ => ⟨.lay, []⟩) := ⟨dx1, l, by rw [Stp.paint_ne npl]; exact Stp.paint_same, hp1, Stp.paint_same, fun _ => l, hl, fun a ha => nomatch ha⟩
    have hp := s1.at hp
    have hc1 : (Stp.paint (Stp.paint c0 p1 1) l 1) p = 5 := by rw [st1.col p _ (by assumption), hc0]
    generalize Stp.paint (Stp.paint c0 p1 1) l 1 = c1 at st1 S1 hc1
    clear s1 s1' kp hp1 hl npl nl1 nl np ndx nex
    walk_at "lw"
    refine g_rsfld hp T.cl_Registry T.na_Registry_store (by show 0 < 1000; decide) fun H2 h2 k2 => ?_
    have st2 : Stp (fun i => i = 5) c1 c1 H1 H2 := Stp.ch hp hc1 (fun xs z => by cases z) h2 k2
    have S2 := S1.frame st2 (by decide)
    have st := st1.trans (st2.mono fun i e => .inr (.inr (.inr (.inl e))))
    clear S1 st1 st2 k2 hp
    walk_at "lw"
    refine g_dnew fun nd H3 nnd s3 hnd => ?_
    have st3 : Stp (fun _ => False) c1 (Stp.paint c1 nd 5) H2 H3 := L2x_sameN s3 nnd
    have S3 := S2.frame st3 (fun z => z)
    have hc3 : Stp.paint c1 nd 5 p = 5 := by rw [st3.col p _ h2, hc1]
    have hcn3 : Stp.paint c1 nd 5 nd = 5 := Stp.paint_same
    have h3 := s3.at h2
    have st := st.trans (st3.mono fun i z => z.elim)
    have pnd : nd ≠ p := (ne_of_none h2 nnd).symm
    generalize Stp.paint c1 nd 5 = c3 at st3 S3 hc3 hcn3 st
    clear st3 s3 S2 hc1 nnd h2
    walk_at "lw"
    refine g_rsfld h3 T.cl_Registry T.na_Registry_names (by show 1 < 1000; decide) fun H4 h4 k4 => ?_
    have st4 : Stp (fun i => i = 5) c3 c3 H3 H4 := Stp.ch h3 hc3 (fun xs z => by cases z) h4 k4
    have S4 := S3.frame st4 (by decide)
    have hnd4 : H4 nd = some (.dK []) := by rw [k4 nd pnd]; exact hnd
    have st := st.trans (st4.mono fun i e => .inr (.inr (.inr (.inl e))))
    clear st4 k4 S3 h3 hnd
    walk_at "lw"
    intro p2 dx2 np ndx nex
    refine ⟨p2, dx2, rfl, upd_same, fun l H5 nl hp2 hl kp => ⟨rfl, ?_⟩⟩
    have s5 : Same H4 H5 := Same.made np ndx kp
    have s5' : Same H4 (upd (upd H4 dx2 (.own p2)) p2 (.ins C_Claims dx2 [])) := (Same.new ndx).thenNew (by rw [upd_ne nex.symm]; exact np)
    have npl : p2 ≠ l := fun z => by subst z; rw [upd_same] at nl; cases nl
    have nl1 : H4 l = none := s5'.free nl
    have st5 : Stp (fun _ => False) c3 (Stp.paint (Stp.paint c3 p2 4) l 4) H4 H5 := Stp.sameC s5 fun b o e => by
      rw [Stp.paint_ne (ne_of_none e nl1), Stp.paint_ne (ne_of_none e np)]
    have W5 : ClaimsAt C_Claims (Stp.paint (Stp.paint c3 p2 4) l 4) H5 p2 0 [] (fun _ => []) := ⟨dx2, l, fun _ => l, by rw [Stp.paint_ne npl]; exact Stp.paint_same, hp2, Stp.paint_same, hl, (by simp), (by simp), (by simp)⟩
    have S5 := S4.frame st5 (fun z => z)
    have hc5 : (Stp.paint (Stp.paint c3 p2 4) l 4) p = 5 := by rw [st5.col p _ h4, hc3]
    have hcn5 : (Stp.paint (Stp.paint c3 p2 4) l 4) nd = 5 := by rw [st5.col nd _ hnd4, hcn3]
    have h5 := s5.at h4
    have hnd5 := s5.at hnd4
    have st := st.trans (st5.mono fun i z => z.elim)
    generalize Stp.paint (Stp.paint c3 p2 4) l 4 = c5 at st W5 S5 hc5 hcn5
    clear st5 s5 s5' npl nl1 nl np ndx nex kp hp2 hl S4 hc3 hcn3 h4 hnd4
    walk_at "lw"
    refine g_rsfld h5 T.cl_Registry T.na_Registry_claims (by show 2 < 1000; decide) fun H6 h6 k6 => ?_
    have st6 : Stp (fun i => i = 5) c5 c5 H5 H6 := Stp.ch h5 hc5 (fun xs z => by cases z) h6 k6
    have S6 := S5.frame st6 (by decide)
    have W6 := W5.frame st6 (by decide)
    have hnd6 : H6 nd = some (.dK []) := by rw [k6 nd pnd]; exact hnd5
    have st := st.trans (st6.mono fun i e => .inr (.inr (.inr (.inl e))))
    clear st6 k6 S5 W5 h5 hnd5
    walk_at "lw"
    intro p3 dx3 np ndx nex
    refine ⟨p3, dx3, rfl, upd_same, fun l H7 nl hp3 hl kp => ⟨rfl, ?_⟩⟩
    have s7 : Same H6 H7 := Same.made np ndx kp
    have s7' : Same H6 (upd (upd H6 dx3 (.own p3)) p3 (.ins C_Uploads dx3 [])) := (Same.new ndx).thenNew (by rw [upd_ne nex.symm]; exact np)
    have npl : p3 ≠ l := fun z => by subst z; rw [upd_same] at nl; cases nl
    have nl1 : H6 l = none := s7'.free nl
    have st7 : Stp (fun _ => False) c5 (Stp.paint (Stp.paint c5 p3 3) l 3) H6 H7 := Stp.sameC s7 fun b o e => by
      rw [Stp.paint_ne (ne_of_none e nl1), Stp.paint_ne (ne_of_none e np)]
    have U7 : UpAt C_Uploads (Stp.paint (Stp.paint c5 p3 3) l 3) H7 p3 0 [] (fun _ => []) := ⟨dx3, l, by rw [Stp.paint_ne npl]; exact Stp.paint_same, hp3, Stp.paint_same, hl⟩
    have S7 := S6.frame st7 (fun z => z)
    have W7 := W6.frame st7 (fun z => z)
    have hc7 : (Stp.paint (Stp.paint c5 p3 3) l 3) p = 5 := by rw [st7.col p _ h6, hc5]
    have hcn7 : (Stp.paint (Stp.paint c5 p3 3) l 3) nd = 5 := by rw [st7.col nd _ hnd6, hcn5]
    have h7 := s7.at h6
    have hnd7 := s7.at hnd6
    have st := st.trans (st7.mono fun i z => z.elim)
    generalize Stp.paint (Stp.paint c5 p3 3) l 3 = c7 at st U7 W7 S7 hc7 hcn7
    clear st7 s7 s7' npl nl1 nl np ndx nex kp hp3 hl S6 W6 hc5 hcn5 h6 hnd6
    walk_at "lw"
    refine g_rsfld h7 T.cl_Registry T.na_Registry_uploads (by show 3 < 1000; decide) fun H8 h8 k8 => ?_
    have st8 : Stp (fun i => i = 5) c7 c7 H7 H8 := Stp.ch h7 hc7 (fun xs z => by cases z) h8 k8
    have S8 := S7.frame st8 (by decide)
    have W8 := W7.frame st8 (by decide)
    have U8 := U7.frame st8 (by decide)
    have hnd8 : H8 nd = some (.dK []) := by rw [k8 nd pnd]; exact hnd7
    have st := st.trans (st8.mono fun i e => .inr (.inr (.inr (.inl e))))
    clear st8 k8 S7 W7 U7 h7 hnd7
    walk_at "lw"
    refine g_rfld h8 T.cl_Registry T.na_Registry_store ((lk_pf (by decide +kernel)).trans ((lk_pf (by decide +kernel)).trans ((lk_pf (by decide +kernel)).trans (by first | exact lk_eq | rfl)))) ?_
    walk_at "lw"
    intro p4 dx4 np ndx nex
    refine ⟨p4, dx4, p1, rfl, upd_same, fun m t d H9 nm nt nd' htd nmp ntp ndp hp4 hm ht hd kp => ⟨rfl, ?_⟩⟩
    have s9 : Same H8 H9 := Same.made np ndx kp
    have s9' : Same H8 (upd (upd H8 dx4 (.own p4)) p4 (.ins C_Collector dx4 [])) := (Same.new ndx).thenNew (by rw [upd_ne nex.symm]; exact np)
    have nm1 := s9'.free nm
    have nt1 := s9'.free nt
    have nd1 := s9'.free nd'
    let c9 : Addr → Nat := fun b => if b = p4 ∨ b = m ∨ b = t ∨ b = d then 6 else c7 b
    have st9 : Stp (fun _ => False) c7 c9 H8 H9 := Stp.sameC s9 fun b o e => if_neg (by
      rintro (z | z | z | z)
      · exact ne_of_none e np z
      · exact ne_of_none e nm1 z
      · exact ne_of_none e nt1 z
      · exact ne_of_none e nd1 z)
    have O9 : CoAt C_Collector c9 H9 p4 p1 "idle" [] [] [] := ⟨dx4, m, t, d, if_pos (.inl rfl), hp4, if_pos (.inr (.inl rfl)), hm, if_pos (.inr (.inr (.inl rfl))), ht, if_pos (.inr (.inr (.inr rfl))), hd, htd⟩
    have S9 := S8.frame st9 (fun z => z)
    have W9 := W8.frame st9 (fun z => z)
    have U9 := U8.frame st9 (fun z => z)
    have hc9 : c9 p = 5 := by rw [st9.col p _ h8, hc7]
    have hcn9 : c9 nd = 5 := by rw [st9.col nd _ hnd8, hcn7]
    have h9 := s9.at h8
    have hnd9 := s9.at hnd8
    have st := st.trans (st9.mono fun i z => z.elim)
    clear_value c9
    clear st9 s9 s9' nm1 nt1 nd1 nm nt nd' htd nmp ntp ndp hp4 hm ht hd kp np ndx nex S8 W8 U8 hc7 hcn7 h8 hnd8
    walk_at "lw"
    refine g_rsfld h9 T.cl_Registry T.na_Registry_collector (by show 4 < 1000; decide) fun H10 h10 k10 => ?_
    have st10 : Stp (fun i => i = 5) c9 c9 H9 H10 := Stp.ch h9 hc9 (fun xs z => by cases z) h10 k10
    rw [f_Registry_mk] at h10
    walk_at "lw"
    have stF := st.trans (st10.mono fun i e => (.inr (.inr (.inr (.inl e))) : IReg i))
    have WF : RegAt C_Store C_Claims C_Uploads C_Collector C_Registry c9 H10 ⟨p, p1, nd, p2, p3, p4⟩ Rg0 := ⟨⟨hc9, dx, h10⟩, ⟨hcn9, by rw [k10 nd pnd]; exact hnd9⟩, S9.frame st10 (by decide), W9.frame st10 (by decide), U9.frame st10 (by decide), O9.frame st10 (by decide)⟩
    refine k (fun b => if c9 b = 0 then c b else c9 b) H10 _ rfl (WF.recol fun b i hi e => by rw [if_neg (by omega)]; exact e) fun b o e hb => ?_
    have hb0 : c0 b = 0 := hcb b hb
    have hb9 : c9 b = 0 := by rw [stF.col b o e, hb0]
    exact ⟨stF.keep b o e (by rw [hb0]; rintro (z | z | z | z | z) <;> cases z), if_pos hb9⟩
end
end Lw

/-! ## the registry's walks, on -/
namespace Lw
open PySem L2
open PyProof.Rows (envOfC sortedS)
theorem RpQ.shift {CS CC CU CO CR : Addr} {c c1 : Addr → Nat} {H H1 : Hp} {x : Rx} {r : Rg × List Key} {Q : VK} (k : RpQ CS CC CU CO CR c H x r Q) (st : Stp IReg c c1 H H1) : RpQ CS CC CU CO CR c1 H1 x r Q := fun c' H' t W st' ht => k c' H' t W (st.trans st') ht
theorem i6 : ∀ i, i = 6 → IReg i := fun _ h => .inr (.inr (.inr (.inr h)))
theorem i5 : ∀ i, i = 5 → IReg i := fun _ h => .inr (.inr (.inr (.inl h)))
theorem i4 : ∀ i, i = 4 → IReg i := fun _ h => .inr (.inr (.inl h))
theorem i3 : ∀ i, i = 3 → IReg i := fun _ h => .inr (.inl h)
theorem i1 : ∀ i, i = 1 → IReg i := fun _ h => .inl h
section
variable {P : Program} {w : World} {K : PySem.W.Frag} {mg : Str → Option Value} {base : Heap} {C_Claims C_Collector C_Store C_Uploads C_Registry C_Refused C_Malformed a_KINDS a_BELOW a_CLAIMED : Addr}
theorem ok_Collector_stop (T : Txt w K mg C_Claims C_Collector C_Store C_Uploads C_Registry C_Refused C_Malformed a_KINDS a_BELOW a_CLAIMED) : Met P w K mg base 1 C_Collector "stop" (spStop C_Store C_Claims C_Uploads C_Collector C_Registry) := by
  refine met_mk T.cl_Collector T.m_Collector_stop sc_Collector_stop (fun vs H Q E h => ?_) (fun f cdv A outer s H vs Q E hr h => ?_)
  · obtain ⟨c, x, s, rfl, _⟩ := h
    rfl
  · obtain ⟨c, x, s', rfl, W, k⟩ := h
    obtain ⟨dx, m0, t0, d0, h1, hp, h3, h4, h5, h6, h7, h8, h9⟩ := W.co.ex
    refine ⟨_, (pss_cons (ps_fld (pv 0) (pe_str) rfl)
      (pss_cons (ps_fld (pv 0) (pe_dnewK) rfl)
      (pss_cons (ps_fld (pv 0) (pe_lst pa_nil) rfl)
      (pss_one (ps_fld (pv 0) (pe_lst pa_nil) rfl))))), ?_⟩
    walk_at "lw"
    refine g_rsfld hp T.cl_Collector T.na_Collector_phase f_Collector_len fun H3 p3 k3 => ?_
    rw [f_Collector_put_phase] at p3
    have st3 : Stp (fun i => i = 6) c c H H3 := Stp.ch hp h1 (fun xs z => by cases z) p3 k3
    walk_at "lw"
    refine g_dnew fun m H4 nm s4 hm => ?_
    have st4 : Stp (fun i => i = 6) c (Stp.paint c m 6) H3 H4 := L2x_sameN s4 nm
    have q4 : Stp.paint c m 6 x.co = 6 := by rw [st4.col _ _ p3, h1]
    have cm4 : Stp.paint c m 6 m = 6 := Stp.paint_same
    have mp : m ≠ x.co := (ne_of_none p3 nm).symm
    have st := st3.trans st4
    have p4 := s4.at p3
    generalize Stp.paint c m 6 = c4 at st q4 cm4
    clear st3 st4 s4 nm k3 p3
    walk_at "lw"
    refine g_rsfld p4 T.cl_Collector T.na_Collector_marked f_Collector_len fun H5 p5 k5 => ?_
    rw [f_Collector_put_marked] at p5
    have st := st.trans (Stp.ch p4 q4 (fun xs z => by cases z) p5 k5)
    have hm5 : H5 m = some (.dK []) := by rw [k5 m mp]; exact hm
    clear k5 p4 hm
    walk_at "lw"
    refine g_klst (by show 0 ≤ 100; decide) fun t H6 nt s6 ht => ?_
    have st6 : Stp (fun i => i = 6) c4 (Stp.paint c4 t 6) H5 H6 := L2x_sameN s6 nt
    have q6 : Stp.paint c4 t 6 x.co = 6 := by rw [st6.col _ _ p5, q4]
    have cm6 : Stp.paint c4 t 6 m = 6 := by rw [st6.col _ _ hm5, cm4]
    have ct6 : Stp.paint c4 t 6 t = 6 := Stp.paint_same
    have tp : t ≠ x.co := (ne_of_none p5 nt).symm
    have st := st.trans st6
    have p6 := s6.at p5
    have hm6 := s6.at hm5
    generalize Stp.paint c4 t 6 = c6 at st q6 cm6 ct6
    clear st6 s6 nt p5 hm5
    walk_at "lw"
    refine g_rsfld p6 T.cl_Collector T.na_Collector_todo f_Collector_len fun H7 p7 k7 => ?_
    rw [f_Collector_put_todo] at p7
    have st := st.trans (Stp.ch p6 q6 (fun xs z => by cases z) p7 k7)
    have hm7 : H7 m = some (.dK []) := by rw [k7 m mp]; exact hm6
    have ht7 : H7 t = some (.lst []) := by rw [k7 t tp]; exact ht
    clear k7 p6 hm6 ht
    walk_at "lw"
    refine g_klst (by show 0 ≤ 100; decide) fun d H8 nd s8 hd => ?_
    have st8 : Stp (fun i => i = 6) c6 (Stp.paint c6 d 6) H7 H8 := L2x_sameN s8 nd
    have q8 : Stp.paint c6 d 6 x.co = 6 := by rw [st8.col _ _ p7, q6]
    have cm8 : Stp.paint c6 d 6 m = 6 := by rw [st8.col _ _ hm7, cm6]
    have ct8 : Stp.paint c6 d 6 t = 6 := by rw [st8.col _ _ ht7, ct6]
    have cd8 : Stp.paint c6 d 6 d = 6 := Stp.paint_same
    have dp : d ≠ x.co := (ne_of_none p7 nd).symm
    have td : t ≠ d := ne_of_none ht7 nd
    have st := st.trans st8
    have p8 := s8.at p7
    have hm8 := s8.at hm7
    have ht8 := s8.at ht7
    generalize Stp.paint c6 d 6 = c8 at st q8 cm8 ct8 cd8
    clear st8 s8 nd p7 hm7 ht7
    walk_at "lw"
    refine g_rsfld p8 T.cl_Collector T.na_Collector_doomed f_Collector_len fun H9 p9 k9 => ?_
    rw [f_Collector_put_doomed] at p9
    have st := st.trans (Stp.ch p8 q8 (fun xs z => by cases z) p9 k9)
    walk_at "lw"
    exact k c8 H9 (W.coll ⟨dx, m, t, d, q8, p9, cm8, by rw [k9 m mp]; exact hm8, ct8, by rw [k9 t tp]; exact ht8, cd8, by rw [k9 d dp]; exact hd, td⟩ st) st
theorem ok_Collector_shade (T : Txt w K mg C_Claims C_Collector C_Store C_Uploads C_Registry C_Refused C_Malformed a_KINDS a_BELOW a_CLAIMED) : Met P w K mg base 10 C_Collector "shade" (spShade C_Store C_Claims C_Uploads C_Collector C_Registry) := by
  have t_Store_closure : Met P w K mg base 9 C_Store "closure" (spClo C_Store 2) := ok_Store_closure T
  refine met_mk T.cl_Collector T.m_Collector_shade sc_Collector_shade (fun vs H Q E h => ?_) (fun f cdv A outer s H vs Q E hr h => ?_)
  · obtain ⟨c, x, s, a, rfl, _⟩ := h
    rfl
  · obtain ⟨c, x, s', a, rfl, W, sw, kl, sh, k⟩ := h
    have hu := hu_of hr
    obtain ⟨d1, d2, d3, d4, d5, v1, v2, v3, v4, v5, v6, v7, v8, e1, e2, e3, e4, e5, e6⟩ := W.hs
    refine ⟨_, (pss_one (ps_if (pt_cmpR op_ne (pe_fld (pv 0) rfl) (pe_str) (nomark _)) (pss_one (ps_for PassesOwn.never rfl (pi_list (pe_mt t_Store_closure hr (by first | decide | omega) (pe_fld (pv 0) rfl) (pa_cons (pv 1) pa_nil))) (pg_name (i := 2) sc_Collector_shade.nd rfl (by first | exact Or.inl rfl | exact Or.inr rfl)) (pss_one (ps_dput hu (pe_fld (pv 0) rfl) (pv 2) (pe_bl) rfl)))) pss_nil)), ?_⟩
    walk_at "lw"
    unfold shd at k
    refine ifn2 (fun he => ?_) (fun he => ?_)
    · have he := str_eq.mp he
      rw [if_pos he] at k
      walk_at "lw"
      exact k c H W Stp.refl
    · have he : ¬ s'.ph = "idle" := fun z => he (by rw [z])
      rw [if_neg he] at k
      obtain ⟨ha, hw, hl⟩ := sh.resolve_left he
      walk_at "lw"
      refine ⟨c, x.p, s'.ks, s'.B, a, rfl, W.st, sw, ha, Kd.rk2 _, hw, by omega, fun r H1 s1 hr1 => ?_⟩
      have hcl := few_len (clo_nd s'.B 2 a) (clo_mem hw)
      refine g_ritL (SqL.of hr1) ?_
      refine for_at (G := fun H' => SqL K H' r ((clo s'.B 2 a).map V.str)) walk_list (fun i σ H' => H' r = some (.lst ((clo s'.B 2 a).map V.str)) ∧ RegAt C_Store C_Claims C_Uploads C_Collector C_Registry c H' x { s' with mr := ((clo s'.B 2 a).take i).foldl addD s'.mr } ∧ Stp (fun i => i = 6) c c H H' ∧ ∃ v : Option V, σ = [some (.ref x.co), some (.str a), v]) ⟨hr1, W.same s1, Stp.same s1, none, rfl⟩ (fun i σ H' h => SqL.of h.1) ?_ ?_
      · rintro i y σ H2 hy ⟨hr2, W2, st2, v, rfl⟩
        obtain ⟨z, hz, rfl⟩ := map_at hy
        obtain ⟨dx, m0, t0, d0, h1, hp, h3, h4, h5, h6, h7, h8, h9⟩ := W2.co.ex
        walk_at "lw"
        refine g_rdputS h4 ?_ fun H3 m3 k3 => ?_
        · rw [mkS_len]
          have := foldl_addD_len ((clo s'.B 2 a).take i) s'.mr
          have := (List.take_sublist i (clo s'.B 2 a)).length_le
          show (List.foldl addD s'.mr ((clo s'.B 2 a).take i)).length < 100000
          omega
        walk_at "lw"
        rw [putK_S] at m3
        have st3 : Stp (fun i => i = 6) c c H2 H3 := Stp.ch h4 h3 (fun xs z => by cases z) m3 k3
        have e : (fun j => if j = z then V.bl true else V.bl true) = (fun _ : Str => V.bl true) := funext fun j => ite_self _
        rw [e] at m3
        refine ⟨by rw [k3 r (ne_of hr2 h4 (by intro z; cases z))]; exact hr2, ?_, st2.trans st3, _, rfl⟩
        rw [take_ok hz, List.foldl_append]
        exact W2.coll (mk := addD (List.foldl addD s'.mr ((clo s'.B 2 a).take i)) z) ⟨dx, m0, t0, d0, h1, by rw [k3 _ (ne_of hp h4 (by intro z; cases z))]; exact hp, h3, m3, h5, by rw [k3 _ (ne_of h6 h4 (by intro z; cases z))]; exact h6, h7, by rw [k3 _ (ne_of h8 h4 (by intro z; cases z))]; exact h8, h9⟩ st3
      · rintro σ H2 ⟨hr2, W2, st2, v, rfl⟩
        rw [List.length_map, List.take_length] at W2
        walk_at "lw"
        exact k c H2 W2 st2
theorem ok_Registry_kept (T : Txt w K mg C_Claims C_Collector C_Store C_Uploads C_Registry C_Refused C_Malformed a_KINDS a_BELOW a_CLAIMED) : Met P w K mg base 11 C_Registry "kept" (spKeptR C_Store C_Claims C_Uploads C_Collector C_Registry) := by
  have t_Claims_pin : Met P w K mg base 1 C_Claims "pin" (spCPin C_Claims) := ok_Claims_pin T
  have t_Collector_shade : Met P w K mg base 10 C_Collector "shade" (spShade C_Store C_Claims C_Uploads C_Collector C_Registry) := ok_Collector_shade T
  refine met_mk T.cl_Registry T.m_Registry_kept sc_Registry_kept (fun vs H Q E h => ?_) (fun f cdv A outer s H vs Q E hr h => ?_)
  · obtain ⟨c, x, s, i, a, rfl, _⟩ := h
    rfl
  · obtain ⟨c, x, s', i, a, rfl, W, wf, hi, sh, k⟩ := h
    have hu := hu_of hr
    obtain ⟨d1, d2, d3, d4, d5, v1, v2, v3, v4, v5, v6, v7, v8, e1, e2, e3, e4, e5, e6⟩ := W.hs
    refine ⟨_, (pss_cons (ps_expr (pe_mt t_Claims_pin hr (by first | decide | omega) (pe_fld (pv 0) rfl) (pa_cons (pv 1) (pa_cons (pv 2) pa_nil))))
      (pss_cons (ps_expr (pe_mt t_Collector_shade hr (by first | decide | omega) (pe_fld (pv 0) rfl) (pa_cons (pv 2) pa_nil)))
      (pss_one (ps_ret (pe_tup (pa_cons (pe_str) (pa_cons (pv 2) pa_nil))))))), ?_⟩
    walk_at "lw"
    refine ⟨c, x.cp, s'.n, i, a, s'.cs, s'.L, rfl, W.cl, hi, Nat.le_trans (ded_le _) (wf.Ll i), fun H1 C1 st1 => ?_⟩
    have W1 : RegAt C_Store C_Claims C_Uploads C_Collector C_Registry c H1 x (pin s' i a) := W.claims C1 st1
    clear e1 e2 e3 e4 e5 e6
    obtain ⟨d1, d2, d3, d4, d5, v1, v2, v3, v4, v5, v6, v7, v8, e1, e2, e3, e4, e5, e6⟩ := W1.hs
    walk_at "lw"
    refine ⟨c, x, pin s' i a, a, rfl, W1, wf.sw, wf.kl, sh, fun c2 H2 W2 st2 => ?_⟩
    walk_at "lw"
    refine g_ktup (by show 2 ≤ 100; decide) fun t H3 nt s3 ht => ?_
    walk_at "lw"
    exact k c2 H3 t (W2.same s3) (((st1.mono i4).trans (st2.mono i6)).trans (Stp.same s3)) ht
theorem ok_Registry_answer_has (T : Txt w K mg C_Claims C_Collector C_Store C_Uploads C_Registry C_Refused C_Malformed a_KINDS a_BELOW a_CLAIMED) : Met P w K mg base 12 C_Registry "answer_has" (spAHas C_Store C_Claims C_Uploads C_Collector C_Registry) := by
  have t_Store_is_whole : Met P w K mg base 9 C_Store "is_whole" (spWhx C_Store 2) := ok_Store_is_whole T
  have t_Registry_kept : Met P w K mg base 11 C_Registry "kept" (spKeptR C_Store C_Claims C_Uploads C_Collector C_Registry) := ok_Registry_kept T
  refine met_mk T.cl_Registry T.m_Registry_answer_has sc_Registry_answer_has (fun vs H Q E h => ?_) (fun f cdv A outer s H vs Q E hr h => ?_)
  · obtain ⟨c, x, s, i, a, rfl, _⟩ := h
    rfl
  · obtain ⟨c, x, s', i, a, rfl, W, wf, hi, sh, k⟩ := h
    have hu := hu_of hr
    obtain ⟨d1, d2, d3, d4, d5, v1, v2, v3, v4, v5, v6, v7, v8, e1, e2, e3, e4, e5, e6⟩ := W.hs
    refine ⟨_, (pss_cons (ps_if (pt_val (pe_mt t_Store_is_whole hr (by first | decide | omega) (pe_fld (pv 0) rfl) (pa_cons (pv 2) pa_nil))) (pss_one (ps_ret (pe_mt t_Registry_kept hr (by first | decide | omega) (pv 0) (pa_cons (pv 1) (pa_cons (pv 2) pa_nil))))) pss_nil)
      (pss_one (ps_ret (pe_tup (pa_cons (pe_str) (pa_cons (pv 2) pa_nil)))))), ?_⟩
    walk_at "lw"
    refine ⟨c, x.p, s'.ks, s'.B, a, rfl, W.st, wf.sw, fun _ => Kd.rk2 _, fun H1 s1 => ?_⟩
    have W1 := W.same s1
    have k := k.shift (Stp.same s1)
    clear e1 e2 e3 e4 e5 e6
    obtain ⟨d1, d2, d3, d4, d5, v1, v2, v3, v4, v5, v6, v7, v8, e1, e2, e3, e4, e5, e6⟩ := W1.hs
    unfold hasR at k
    cases hw : wh s'.ks s'.B (2 + 1) a with
    | true =>
      have hw : wh s'.ks s'.B 3 a = true := hw
      rw [if_pos hw] at k
      walk_at "lw"
      exact ⟨c, x, s', i, a, rfl, W1, wf.k, hi, sh.imp id fun z => ⟨wh_in hw, hw, z⟩, k⟩
    | false =>
      have hw : wh s'.ks s'.B 3 a = false := hw
      rw [if_neg (by rw [hw]; decide)] at k
      walk_at "lw"
      refine g_ktup (by show 2 ≤ 100; decide) fun t H3 nt s3 ht => ?_
      walk_at "lw"
      exact k c H3 t (W1.same s3) (Stp.same s3) ht
theorem ok_Registry_answer_part (T : Txt w K mg C_Claims C_Collector C_Store C_Uploads C_Registry C_Refused C_Malformed a_KINDS a_BELOW a_CLAIMED) : Met P w K mg base 2 C_Registry "answer_part" (spAPart C_Store C_Claims C_Uploads C_Collector C_Registry) := by
  have t_Uploads_add_part : Met P w K mg base 1 C_Uploads "add_part" (spUAdd C_Uploads) := ok_Uploads_add_part T
  refine met_mk T.cl_Registry T.m_Registry_answer_part sc_Registry_answer_part (fun vs H Q E h => ?_) (fun f cdv A outer s H vs Q E hr h => ?_)
  · obtain ⟨c, x, s, u, i, t, rfl, _⟩ := h
    rfl
  · obtain ⟨c, x, s', u, i, t, rfl, W, wf, hl, k⟩ := h
    have hu := hu_of hr
    obtain ⟨d1, d2, d3, d4, d5, v1, v2, v3, v4, v5, v6, v7, v8, e1, e2, e3, e4, e5, e6⟩ := W.hs
    refine ⟨_, (pss_cons (ps_set (i := 4) sc_Registry_answer_part.nd rfl (by first | exact Or.inl rfl | exact Or.inr rfl) (pe_mt t_Uploads_add_part hr (by first | decide | omega) (pe_fld (pv 0) rfl) (pa_cons (pv 1) (pa_cons (pv 2) (pa_cons (pv 3) pa_nil)))))
      (pss_cons (ps_if (pt_cmpR op_isN' (pv 4) (pe_non) (nomark _)) (pss_one (ps_ret (pe_tup (pa_cons (pe_str) (pa_cons (pv 1) pa_nil))))) pss_nil)
      (pss_one (ps_ret (pe_tup (pa_cons (pe_str) (pa_cons (pv 1) (pa_cons (pv 4) pa_nil)))))))), ?_⟩
    walk_at "lw"
    unfold partR at k
    refine ⟨c, x.up, s'.un, u, i, t, s'.ts, s'.X, rfl, W.up, by have := wf.ul; omega, by have := (wf.Xl u).1; omega, fun hn => ?_, fun hy he => ?_, fun hy he H1 U1 st1 => ?_⟩
    · rw [if_neg hn] at k
      walk_at "lw"
      refine g_ktup (by show 2 ≤ 100; decide) fun t H3 nt s3 ht => ?_
      walk_at "lw"
      exact k c H3 t (W.same s3) (Stp.same s3) ht
    · rw [if_pos hy, if_neg he] at k
      walk_at "lw"
      refine ifn (by intro z; cases z) ?_
      walk_at "lw"
      refine g_ktup (by show 3 ≤ 100; decide) fun t H3 nt s3 ht => ?_
      walk_at "lw"
      exact k c H3 t (W.same s3) (Stp.same s3) ht
    · rw [if_pos hy, if_pos he] at k
      have W1 := W.ups U1 st1
      walk_at "lw"
      refine ifn (by intro z; cases z) ?_
      walk_at "lw"
      refine g_ktup (by show 3 ≤ 100; decide) fun t H3 nt s3 ht => ?_
      walk_at "lw"
      exact k c H3 t (W1.same s3) ((st1.mono i3).trans (Stp.same s3)) ht
end
end Lw

/-! ## the registry's walks, on -/
namespace Lw
open PySem L2
open PyProof.Rows (envOfC sortedS)
theorem adrB_def (b : Bl) : adr b.k.s b.t = adrB b := rfl
section
variable {P : Program} {w : World} {K : PySem.W.Frag} {mg : Str → Option Value} {base : Heap} {C_Claims C_Collector C_Store C_Uploads C_Registry C_Refused C_Malformed a_KINDS a_BELOW a_CLAIMED : Addr}
theorem ok_Registry_answer_finish (T : Txt w K mg C_Claims C_Collector C_Store C_Uploads C_Registry C_Refused C_Malformed a_KINDS a_BELOW a_CLAIMED) : Met P w K mg base 12 C_Registry "answer_finish" (spAFin C_Store C_Claims C_Uploads C_Collector C_Registry) := by
  have t_Store_is_whole : Met P w K mg base 9 C_Store "is_whole" (spWhx C_Store 2) := ok_Store_is_whole T
  have t_Store_keep : Met P w K mg base 2 C_Store "keep" (spKeep C_Store) := ok_Store_keep T
  have t_Claims_is_open : Met P w K mg base 1 C_Claims "is_open" (spCOpen C_Claims) := ok_Claims_is_open T
  have t_Uploads_finish : Met P w K mg base 1 C_Uploads "finish" (spUFin C_Uploads) := ok_Uploads_finish T
  have c_address_of : Cal P w K mg base 1 "address_of" spAddr := ok_address_of T
  have t_Registry_kept : Met P w K mg base 11 C_Registry "kept" (spKeptR C_Store C_Claims C_Uploads C_Collector C_Registry) := ok_Registry_kept T
  refine met_mk T.cl_Registry T.m_Registry_answer_finish sc_Registry_answer_finish (fun vs H Q E h => ?_) (fun f cdv A outer s H vs Q E hr h => ?_)
  · obtain ⟨c, x, s, u, i, a, rfl, _⟩ := h
    rfl
  · obtain ⟨c, x, s', u, i, a, rfl, W, wf, sh, k⟩ := h
    have hu := hu_of hr
    obtain ⟨d1, d2, d3, d4, d5, v1, v2, v3, v4, v5, v6, v7, v8, e1, e2, e3, e4, e5, e6⟩ := W.hs
    refine ⟨_, (pss_cons (ps_if (pt_not (pt_val (pe_mt t_Claims_is_open hr (by first | decide | omega) (pe_fld (pv 0) rfl) (pa_cons (pv 2) pa_nil)))) (pss_one (ps_ret (pe_tup (pa_cons (pe_str) (pa_cons (pv 2) pa_nil))))) pss_nil)
      (pss_cons (ps_set (i := 4) sc_Registry_answer_finish.nd rfl (by first | exact Or.inl rfl | exact Or.inr rfl) (pe_mt t_Uploads_finish hr (by first | decide | omega) (pe_fld (pv 0) rfl) (pa_cons (pv 1) pa_nil)))
      (pss_cons (ps_if (pt_cmpR op_isN' (pv 4) (pe_non) (nomark _)) (pss_cons (ps_if (pt_val (pe_mt t_Store_is_whole hr (by first | decide | omega) (pe_fld (pv 0) rfl) (pa_cons (pv 3) pa_nil))) (pss_one (ps_ret (pe_mt t_Registry_kept hr (by first | decide | omega) (pv 0) (pa_cons (pv 2) (pa_cons (pv 3) pa_nil))))) pss_nil)
      (pss_one (ps_ret (pe_tup (pa_cons (pe_str) (pa_cons (pv 1) pa_nil)))))) pss_nil)
      (pss_cons (ps_if (pt_cmpR op_ne (pe_c c_address_of hr (by first | decide | omega) rfl (pa_cons (pe_str) (pa_cons (pv 4) pa_nil))) (pv 3) (nomark _)) (pss_one (ps_ret (pe_tup (pa_cons (pe_str) (pa_cons (pv 3) pa_nil))))) pss_nil)
      (pss_cons (ps_expr (pe_mt t_Store_keep hr (by first | decide | omega) (pe_fld (pv 0) rfl) (pa_cons (pe_str) (pa_cons (pv 4) pa_nil))))
      (pss_one (ps_ret (pe_mt t_Registry_kept hr (by first | decide | omega) (pv 0) (pa_cons (pv 2) (pa_cons (pv 3) pa_nil)))))))))), ?_⟩
    walk_at "lw"
    refine ⟨c, x.cp, s'.n, i, s'.cs, s'.L, rfl, W.cl, ?_⟩
    walk_at "lw"
    unfold finR at k
    refine ifn2 (fun hi => ?_) (fun hi => ?_)
    rotate_left
    · rw [if_neg hi] at k
      walk_at "lw"
      refine g_ktup (by show 2 ≤ 100; decide) fun t H3 nt s3 ht => ?_
      walk_at "lw"
      exact k c H3 t (W.same s3) (Stp.same s3) ht
    · rw [if_pos hi] at k
      walk_at "lw"
      refine ⟨c, x.up, s'.un, u, s'.ts, s'.X, rfl, W.up, fun hn => ?_, fun hy H1 U1 st1 => ?_⟩
      · rw [if_neg hn] at k
        walk_at "lw"
        refine ⟨c, x.p, s'.ks, s'.B, a, rfl, W.st, wf.sw, fun _ => Kd.rk2 _, fun H1 s1 => ?_⟩
        have W1 := W.same s1
        have k := k.shift (Stp.same s1)
        clear e1 e2 e3 e4 e5 e6
        obtain ⟨d1, d2, d3, d4, d5, v1, v2, v3, v4, v5, v6, v7, v8, e1, e2, e3, e4, e5, e6⟩ := W1.hs
        cases hw : wh s'.ks s'.B (2 + 1) a with
        | true =>
          have hw : wh s'.ks s'.B 3 a = true := hw
          rw [if_pos hw] at k
          walk_at "lw"
          exact ⟨c, x, s', i, a, rfl, W1, wf.k, hi, sh.imp id fun z => ⟨wh_in hw, hw, z⟩, k⟩
        | false =>
          have hw : wh s'.ks s'.B 3 a = false := hw
          rw [if_neg (by rw [hw]; decide)] at k
          walk_at "lw"
          refine g_ktup (by show 2 ≤ 100; decide) fun t H3 nt s3 ht => ?_
          walk_at "lw"
          exact k c H3 t (W1.same s3) (Stp.same s3) ht
      · rw [if_pos hy] at k
        have W1 : RegAt C_Store C_Claims C_Uploads C_Collector C_Registry c H1 x (unup s' u) := W.ups U1 st1
        have k := k.shift (st1.mono i3)
        clear e1 e2 e3 e4 e5 e6
        obtain ⟨d1, d2, d3, d4, d5, v1, v2, v3, v4, v5, v6, v7, v8, e1, e2, e3, e4, e5, e6⟩ := W1.hs
        walk_at "lw"
        refine ifn (by intro z; cases z) ?_
        walk_at "lw"
        refine ⟨Kd.lay.s, s'.X u, rfl, Kd.s_kind _, ?_⟩
        walk_at "lw"
        refine ifn2 (fun he => ?_) (fun he => ?_)
        · have he : adrB ⟨.lay, s'.X u⟩ = a := str_eq.mp he
          rw [if_pos he] at k
          walk_at "lw"
          refine ⟨c, x.p, s'.ks, s'.B, ⟨.lay, s'.X u⟩, rfl, W1.st, by have := wf.kl; omega, fun H2 S2 st2 => ?_⟩
          have W2 : RegAt C_Store C_Claims C_Uploads C_Collector C_Registry c H2 x (sto (unup s' u) ⟨.lay, s'.X u⟩) := W1.store S2 st2
          have k := k.shift (st2.mono i1)
          clear e1 e2 e3 e4 e5 e6
          obtain ⟨d1, d2, d3, d4, d5, v1, v2, v3, v4, v5, v6, v7, v8, e1, e2, e3, e4, e5, e6⟩ := W2.hs
          walk_at "lw"
          refine ⟨c, x, _, i, a, rfl, W2, (wf.unup u).sto ⟨fault_lay _, by have := (wf.Xl u).1; show (s'.X u).length ≤ 10000; omega, (wf.Xl u).2⟩, hi, sh.imp id fun z => ?_, k⟩
          have hm : a ∈ putS s'.ks (adrB ⟨.lay, s'.X u⟩) := mem_putS.mpr (.inr he.symm)
          exact ⟨hm, lay_wh hm (by show (updB s'.B _ _ a).k = _; rw [← he, updB_same]), z⟩
        · have he : ¬ adrB ⟨.lay, s'.X u⟩ = a := fun z => he (by rw [← z]; rfl)
          rw [if_neg he] at k
          walk_at "lw"
          refine g_ktup (by show 2 ≤ 100; decide) fun t H3 nt s3 ht => ?_
          walk_at "lw"
          exact k c H3 t (W1.same s3) (Stp.same s3) ht
theorem ok_Registry_answer_put (T : Txt w K mg C_Claims C_Collector C_Store C_Uploads C_Registry C_Refused C_Malformed a_KINDS a_BELOW a_CLAIMED) : Met P w K mg base 12 C_Registry "answer_put" (spAPut C_Store C_Claims C_Uploads C_Collector C_Registry) := by
  have c_references : CalX P w K mg base 5 "references" (spRefs C_Malformed) := ok_references T
  have t_Store_is_whole : Met P w K mg base 9 C_Store "is_whole" (spWhx C_Store 2) := ok_Store_is_whole T
  have t_Store_blob : Met P w K mg base 1 C_Store "blob" (spBlob C_Store) := ok_Store_blob T
  have t_Store_keep : Met P w K mg base 2 C_Store "keep" (spKeep C_Store) := ok_Store_keep T
  have t_Registry_kept : Met P w K mg base 11 C_Registry "kept" (spKeptR C_Store C_Claims C_Uploads C_Collector C_Registry) := ok_Registry_kept T
  refine met_mk T.cl_Registry T.m_Registry_answer_put sc_Registry_answer_put (fun vs H Q E h => ?_) (fun f cdv A outer s H vs Q E hr h => ?_)
  · obtain ⟨c, x, s, i, kd, t, rfl, _⟩ := h
    rfl
  · obtain ⟨c, x, s', i, kd, t, rfl, W, wf, hi, ⟨hkd, hok, hlen⟩, sh, k⟩ := h
    have hu := hu_of hr
    obtain ⟨d1, d2, d3, d4, d5, v1, v2, v3, v4, v5, v6, v7, v8, e1, e2, e3, e4, e5, e6⟩ := W.hs
    refine ⟨_, (pss_cons (ps_tryOnly rfl rfl ⟨rfl, by decide, Or.inl T.gx_Malformed⟩ takes0 (fun W pn xe tk po => (pss_one (ps_set (i := 4) sc_Registry_answer_put.nd rfl (by first | exact Or.inl rfl | exact Or.inr rfl) (pe_cX c_references tk hr (by first | decide | omega) rfl (pa_cons (pv 2) (pa_cons (pv 3) pa_nil)))))) (fun a oe cls d pn hz hf => (pss_one (ps_ret (pe_tup (pa_cons (pe_str) pa_nil))))))
      (pss_cons (ps_for PassesOwn.never rfl (pi_list (pv 4)) (pg_name (i := 5) sc_Registry_answer_put.nd rfl (by first | exact Or.inl rfl | exact Or.inr rfl)) (pss_cons (ps_set (i := 6) sc_Registry_answer_put.nd rfl (by first | exact Or.inl rfl | exact Or.inr rfl) (pe_mt t_Store_blob hr (by first | decide | omega) (pe_fld (pv 0) rfl) (pa_cons (pv 5) pa_nil)))
      (pss_one (ps_if (PW.pt (pw_or (pt_cmpR op_isN' (pv 6) (pe_non) (nomark _)) (pw_or (pt_cmpR op_ne (pe_ix ix_tup (pv 6) (pe_int) (fun _ _ => rfl)) (pe_ix ix_kdict (pe_gc rfl T.g_BELOW) (pv 2) (fun _ _ => rfl)) (nomark _)) (pw_or1 (pt_not (pt_val (pe_mt t_Store_is_whole hr (by first | decide | omega) (pe_fld (pv 0) rfl) (pa_cons (pv 5) pa_nil)))))))) (pss_one (ps_ret (pe_tup (pa_cons (pe_str) (pa_cons (pv 5) pa_nil))))) pss_nil))))
      (pss_one (ps_ret (pe_mt t_Registry_kept hr (by first | decide | omega) (pv 0) (pa_cons (pv 1) (pa_cons (pe_mt t_Store_keep hr (by first | decide | omega) (pe_fld (pv 0) rfl) (pa_cons (pv 2) (pa_cons (pv 3) pa_nil))) pa_nil))))))), ?_⟩
    walk_at "lw"
    refine g_tryOnly ?_
    walk_at "lw"
    unfold putR at k
    refine ⟨kd.s, t, rfl, by omega, fun hf q H1 s1 hq => ?_, fun n hn d H1 s1 hd => ?_⟩
    · rw [hf] at k
      dsimp only at k
      have W1 := W.same s1
      have k := k.shift (Stp.same s1)
      clear e1 e2 e3 e4 e5 e6
      walk_at "lw"
      obtain ⟨lo, hlo, hkb⟩ : ∃ lo : Kd, kd.lo = some lo ∧ KDct K w a_BELOW kd.s (.str lo.s) := by
        cases kd with
        | lay => exact absurd rfl hkd
        | img => exact ⟨.lay, rfl, T.k_BELOW_image⟩
        | bun => exact ⟨.img, rfl, T.k_BELOW_bundle⟩
      refine g_ritL (SqL.of hq) ?_
      refine for_at (G := fun H' => SqL K H' q ((refsL kd.s t).map strS)) walk_list (fun m σ H' => Same H1 H' ∧ (∀ r ∈ (refsL kd.s t).take m, goodR s' kd r = true) ∧ ∃ v v2 : Option V, σ = [some (.ref x.R), some (.int i), some (.str kd.s), some (.str (SX.S t)), some (.ref q), v, v2]) ⟨Same.refl _, (fun r hr => nomatch hr), none, none, rfl⟩ (fun i σ H' h => SqL.of (h.1.at hq)) ?_ ?_
      · rintro m yy σ H2 hyy ⟨s2, hall, v, v2, rfl⟩
        obtain ⟨y, hy, rfl⟩ := map_at hyy
        have W2 := W1.same s2
        have k := k.shift (Stp.same s2)
        have bad : goodR s' kd y = false → RpQ C_Store C_Claims C_Uploads C_Collector C_Registry c H2 x (s', lacksR (SX.S y)) Q := fun hb => by
          rw [badR_at hall hy hb] at k
          exact k
        clear k
        obtain ⟨d1, d2, d3, d4, d5, v1, v2', v3, v4, v5, v6, v7, v8, e1, e2, e3, e4, e5, e6⟩ := W2.hs
        have fin : goodR s' kd y = false → ∀ H3, Same H2 H3 → ∀ (t : Addr) (H4 : Hp), Same H3 H4 → H4 t = some (.tup [.str "lacks", .str (SX.S y)]) → Q (.ref t) H4 := fun hb H3 s3 t H4 s4 ht => bad hb c H4 t ((W2.same s3).same s4) (Stp.same (s3.trans s4)) ht
        clear bad
        walk_at "lw"
        refine ⟨c, x.p, s'.ks, s'.B, SX.S y, rfl, W2.st, fun hn => ?_, fun hm tb htb => ?_⟩
        · walk_at "lw"
          refine g_ktup (by show 2 ≤ 100; decide) fun t' H3 nt s3 ht => ?_
          walk_at "lw"
          exact fin (by unfold goodR; rw [decide_eq_false hn, Bool.false_and]) H2 (Same.refl _) t' H3 s3 ht
        · walk_at "lw"
          refine ifn (by intro z; cases z) ?_
          walk_at "lw"
          refine g_rixT (SqT.of htb) (j := 0) (v := .str (s'.B (SX.S y)).k.s) rfl ?_
          walk_at "lw"
          refine ⟨a_BELOW, kd.s, .str lo.s, rfl, rfl, hkb, ?_⟩
          walk_at "lw"
          refine ifn2 (fun he => ?_) (fun he => ?_)
          · have he : lo = (s'.B (SX.S y)).k := (Kd.s_inj.mp (str_eq.mp he)).symm
            rw [he] at hlo
            walk_at "lw"
            refine ⟨c, x.p, s'.ks, s'.B, SX.S y, rfl, W2.st, wf.sw, fun _ => Kd.rk2 _, fun H3 s3 => ?_⟩
            walk_at "lw"
            cases hw : wh s'.ks s'.B (2 + 1) (SX.S y) with
            | true =>
              walk_at "lw"
              refine ⟨s2.trans s3, fun r hr => ?_, _, _, rfl⟩
              rw [take_ok hy] at hr
              rcases List.mem_append.mp hr with z | z
              · exact hall r z
              · rw [List.mem_singleton.mp z]
                unfold goodR
                rw [decide_eq_true hm, decide_eq_true hlo]
                exact hw
            | false =>
              walk_at "lw"
              refine g_ktup (by show 2 ≤ 100; decide) fun t' H4 nt s4 ht => ?_
              walk_at "lw"
              refine fin ?_ H3 s3 t' H4 s4 ht
              unfold goodR
              have hw : wh s'.ks s'.B 3 (SX.S y) = false := hw
              rw [hw, Bool.and_false, Bool.and_false]
          · have he : ¬ lo = (s'.B (SX.S y)).k := fun z => he (by rw [z])
            walk_at "lw"
            refine g_ktup (by show 2 ≤ 100; decide) fun t' H3 nt s3 ht => ?_
            walk_at "lw"
            refine fin ?_ H2 (Same.refl _) t' H3 s3 ht
            unfold goodR
            rw [decide_eq_false (fun z => he (Option.some.inj (hlo.symm.trans z))), Bool.false_and, Bool.and_false]
      · rintro σ H2 ⟨s2, hall, v, v2, rfl⟩
        rw [List.length_map, List.take_length] at hall
        have W2 := W1.same s2
        have k := k.shift (Stp.same s2)
        have hbr := badR_nil hall
        rw [hbr] at k
        dsimp only at k
        obtain ⟨d1, d2, d3, d4, d5, v1, v2', v3, v4, v5, v6, v7, v8, e1, e2, e3, e4, e5, e6⟩ := W2.hs
        walk_at "lw"
        refine ⟨c, x.p, s'.ks, s'.B, ⟨kd, t⟩, rfl, W2.st, by have := wf.kl; omega, fun H3 S3 st3 => ?_⟩
        have W3 : RegAt C_Store C_Claims C_Uploads C_Collector C_Registry c H3 x (sto s' ⟨kd, t⟩) := W2.store S3 st3
        have k := k.shift (st3.mono i1)
        clear e1 e2 e3 e4 e5 e6
        obtain ⟨d1, d2, d3, d4, d5, v1, v2', v3, v4, v5, v6, v7, v8, e1, e2, e3, e4, e5, e6⟩ := W3.hs
        walk_at "lw"
        exact ⟨c, x, _, i, adrB ⟨kd, t⟩, rfl, W3, wf.sto ⟨hf, hlen, hok⟩, hi, sh.imp id fun z => ⟨wh_in (z.1 hbr), z.1 hbr, z.2⟩, k⟩
    · rw [hn] at k
      dsimp only at k
      refine g_caughtOnly T.te_Malformed fun a na => ?_
      walk_at "lw"
      refine g_ktup (by show 1 ≤ 100; decide) fun t H3 nt s3 ht => ?_
      walk_at "lw"
      exact k c H3 t ((W.same s1).same s3) (Stp.same (s1.trans s3)) ht
theorem ok_Registry_answer_name (T : Txt w K mg C_Claims C_Collector C_Store C_Uploads C_Registry C_Refused C_Malformed a_KINDS a_BELOW a_CLAIMED) : Met P w K mg base 12 C_Registry "answer_name" (spAName C_Store C_Claims C_Uploads C_Collector C_Registry) := by
  have t_Store_is_whole : Met P w K mg base 9 C_Store "is_whole" (spWhx C_Store 2) := ok_Store_is_whole T
  have t_Store_blob : Met P w K mg base 1 C_Store "blob" (spBlob C_Store) := ok_Store_blob T
  have t_Registry_kept : Met P w K mg base 11 C_Registry "kept" (spKeptR C_Store C_Claims C_Uploads C_Collector C_Registry) := ok_Registry_kept T
  refine met_mk T.cl_Registry T.m_Registry_answer_name sc_Registry_answer_name (fun vs H Q E h => ?_) (fun f cdv A outer s H vs Q E hr h => ?_)
  · obtain ⟨c, x, s, i, nm, a, rfl, _⟩ := h
    rfl
  · obtain ⟨c, x, s', i, nm, a, rfl, W, wf, hi, sh, k⟩ := h
    have hu := hu_of hr
    obtain ⟨d1, d2, d3, d4, d5, v1, v2, v3, v4, v5, v6, v7, v8, e1, e2, e3, e4, e5, e6⟩ := W.hs
    refine ⟨_, (pss_cons (ps_set (i := 4) sc_Registry_answer_name.nd rfl (by first | exact Or.inl rfl | exact Or.inr rfl) (pe_mt t_Store_blob hr (by first | decide | omega) (pe_fld (pv 0) rfl) (pa_cons (pv 3) pa_nil)))
      (pss_cons (ps_if (PW.pt (pw_or (pt_cmpR op_isN' (pv 4) (pe_non) (nomark _)) (pw_or (pt_cmpR op_eq (pe_ix ix_tup (pv 4) (pe_int) (fun _ _ => rfl)) (pe_str) (nomark _)) (pw_or1 (pt_not (pt_val (pe_mt t_Store_is_whole hr (by first | decide | omega) (pe_fld (pv 0) rfl) (pa_cons (pv 3) pa_nil)))))))) (pss_one (ps_ret (pe_tup (pa_cons (pe_str) (pa_cons (pv 3) pa_nil))))) pss_nil)
      (pss_cons (ps_expr (pe_mt t_Registry_kept hr (by first | decide | omega) (pv 0) (pa_cons (pv 1) (pa_cons (pv 3) pa_nil))))
      (pss_cons (ps_dput hu (pe_fld (pv 0) rfl) (pv 2) (pv 3) rfl)
      (pss_one (ps_ret (pe_tup (pa_cons (pe_str) (pa_cons (pv 2) (pa_cons (pv 3) pa_nil)))))))))), ?_⟩
    walk_at "lw"
    unfold nameR at k
    refine ⟨c, x.p, s'.ks, s'.B, a, rfl, W.st, fun hn => ?_, fun hm tb htb => ?_⟩
    · rw [if_neg (fun z => hn z.1)] at k
      walk_at "lw"
      refine g_ktup (by show 2 ≤ 100; decide) fun t H3 nt s3 ht => ?_
      walk_at "lw"
      exact k c H3 t (W.same s3) (Stp.same s3) ht
    · walk_at "lw"
      refine ifn (by intro z; cases z) ?_
      walk_at "lw"
      refine g_rixT (SqT.of htb) (j := 0) (v := .str (s'.B a).k.s) rfl ?_
      walk_at "lw"
      have no : ¬ (a ∈ s'.ks ∧ (s'.B a).k ≠ .lay ∧ wh s'.ks s'.B 3 a = true) → ∀ H3, Same H H3 → ∀ (t : Addr) (H4 : Hp), Same H3 H4 → H4 t = some (.tup [.str "lacks", .str a]) → Q (.ref t) H4 := fun hb H3 s3 t H4 s4 ht => by
        rw [if_neg hb] at k
        exact k c H4 t ((W.same s3).same s4) (Stp.same (s3.trans s4)) ht
      refine if2 (fun he => ?_) (fun he => ?_)
      · have he : (s'.B a).k = .lay := Kd.s_inj.mp (str_eq.mp he)
        walk_at "lw"
        refine g_ktup (by show 2 ≤ 100; decide) fun t H3 nt s3 ht => ?_
        walk_at "lw"
        exact no (fun z => z.2.1 he) H (Same.refl _) t H3 s3 ht
      · have he : (s'.B a).k ≠ .lay := fun z => he (by rw [z]; rfl)
        walk_at "lw"
        refine ⟨c, x.p, s'.ks, s'.B, a, rfl, W.st, wf.sw, fun _ => Kd.rk2 _, fun H1 s1 => ?_⟩
        have W1 := W.same s1
        clear e1 e2 e3 e4 e5 e6
        obtain ⟨d1, d2, d3, d4, d5, v1, v2, v3, v4, v5, v6, v7, v8, e1, e2, e3, e4, e5, e6⟩ := W1.hs
        cases hw : wh s'.ks s'.B (2 + 1) a with
        | true =>
          have hw : wh s'.ks s'.B 3 a = true := hw
          rw [if_pos ⟨hm, he, hw⟩] at k
          walk_at "lw"
          refine ⟨c, x, s', i, a, rfl, W1, wf.k, hi, sh.imp id fun z => ⟨hm, hw, z⟩, fun c2 H2 t2 W2 st2 ht2 => ?_⟩
          clear e1 e2 e3 e4 e5 e6
          obtain ⟨d1, d2, d3, d4, d5, v1, v2, v3, v4, v5, v6, v7, v8, e1, e2, e3, e4, e5, e6⟩ := W2.hs
          walk_at "lw"
          refine g_rdputS e6 (by rw [mkS_len]; have := wf.nl; show s'.nk.length < 100000; omega) fun H3 n3 k3 => ?_
          rw [putK_S] at n3
          have n3' : H3 x.nd = some (.dK (mkS (putS s'.nk nm) fun j => .str (if j = nm then a else s'.N j))) := by
            rw [n3]
            congr 2
            refine mkS_congr fun j _ => ?_
            by_cases z : j = nm
            · rw [if_pos z, if_pos z]
            · rw [if_neg z, if_neg z]; rfl
          obtain ⟨W3, st3⟩ := W2.names n3' k3
          walk_at "lw"
          refine g_ktup (by show 3 ≤ 100; decide) fun t H4 nt s4 ht => ?_
          walk_at "lw"
          exact k c2 H4 t (W3.same s4) (((Stp.same s1).trans st2).trans ((st3.mono i5).trans (Stp.same s4))) ht
        | false =>
          have hw : wh s'.ks s'.B 3 a = false := hw
          walk_at "lw"
          refine g_ktup (by show 2 ≤ 100; decide) fun t H3 nt s3 ht => ?_
          walk_at "lw"
          exact no (fun z => by rw [hw] at z; exact absurd z.2.2 (by decide)) H1 s1 t H3 s3 ht
theorem ok_Registry_answer_get (T : Txt w K mg C_Claims C_Collector C_Store C_Uploads C_Registry C_Refused C_Malformed a_KINDS a_BELOW a_CLAIMED) : Met P w K mg base 2 C_Registry "answer_get" (spAGet C_Store C_Claims C_Uploads C_Collector C_Registry) := by
  have t_Store_blob : Met P w K mg base 1 C_Store "blob" (spBlob C_Store) := ok_Store_blob T
  refine met_mk T.cl_Registry T.m_Registry_answer_get sc_Registry_answer_get (fun vs H Q E h => ?_) (fun f cdv A outer s H vs Q E hr h => ?_)
  · obtain ⟨c, x, s, a, i, m, rfl, _⟩ := h
    rfl
  · obtain ⟨c, x, s', a, i, m, rfl, W, wf, k⟩ := h
    have hu := hu_of hr
    obtain ⟨d1, d2, d3, d4, d5, v1, v2, v3, v4, v5, v6, v7, v8, e1, e2, e3, e4, e5, e6⟩ := W.hs
    refine ⟨_, (pss_cons (ps_set (i := 4) sc_Registry_answer_get.nd rfl (by first | exact Or.inl rfl | exact Or.inr rfl) (pe_mt t_Store_blob hr (by first | decide | omega) (pe_fld (pv 0) rfl) (pa_cons (pv 1) pa_nil)))
      (pss_cons (ps_if (pt_cmpR op_isN' (pv 4) (pe_non) (nomark _)) (pss_one (ps_ret (pe_tup (pa_cons (pe_str) (pa_cons (pv 1) pa_nil))))) pss_nil)
      (pss_one (ps_ret (pe_tup (pa_cons (pe_str) (pa_cons (pv 1) (pa_cons (pe_ix ix_tup (pv 4) (pe_int) (fun _ _ => rfl)) (pa_cons (pv 2) (pa_cons (pe_slice C8.sl_txt (pe_ix ix_tup (pv 4) (pe_int) (fun _ _ => rfl)) (po_some (pv 2)) (po_some (pe_op op_add (pv 2) (pv 3)))) (pa_cons (pe_callB call_len_str' (by rfl) T.n_len (by decide +kernel) (pa_cons (pe_ix ix_tup (pv 4) (pe_int) (fun _ _ => rfl)) pa_nil)) pa_nil))))))))))), ?_⟩
    walk_at "lw"
    unfold getR at k
    refine ⟨c, x.p, s'.ks, s'.B, a, rfl, W.st, fun hn => ?_, fun hm tb htb => ?_⟩
    · rw [if_neg hn] at k
      walk_at "lw"
      refine g_ktup (by show 2 ≤ 100; decide) fun t H3 nt s3 ht => ?_
      walk_at "lw"
      exact k c H3 t (W.same s3) (Stp.same s3) ht
    · rw [if_pos hm] at k
      walk_at "lw"
      refine ifn (by intro z; cases z) ?_
      have hl := (wf.sw.ok a hm).l
      walk_at "lw"
      refine g_rixT (SqT.of htb) (j := 0) (v := .str (s'.B a).k.s) rfl ?_
      walk_at "lw"
      refine g_rixT (SqT.of htb) (j := 1) (v := strS (s'.B a).t) rfl ?_
      walk_at "lw"
      refine g_rslS (by rw [SX.S_len]; exact Nat.le_trans hl (by decide)) ?_
      walk_at "lw"
      refine g_rixT (SqT.of htb) (j := 1) (v := strS (s'.B a).t) rfl ?_
      walk_at "lw"
      refine g_lenT (by rw [SX.S_len]; exact Nat.le_trans hl (by decide)) ?_
      rw [SX.S_len]
      walk_at "lw"
      refine g_ktup (by show 6 ≤ 100; decide) fun t H3 nt s3 ht => ?_
      walk_at "lw"
      exact k c H3 t (W.same s3) (Stp.same s3) ht
theorem ok_Registry_drop_name (T : Txt w K mg C_Claims C_Collector C_Store C_Uploads C_Registry C_Refused C_Malformed a_KINDS a_BELOW a_CLAIMED) : Met P w K mg base 1 C_Registry "drop_name" (spDrop C_Store C_Claims C_Uploads C_Collector C_Registry) := by
  refine met_mk T.cl_Registry T.m_Registry_drop_name sc_Registry_drop_name (fun vs H Q E h => ?_) (fun f cdv A outer s H vs Q E hr h => ?_)
  · obtain ⟨c, x, s, nm, rfl, _⟩ := h
    rfl
  · obtain ⟨c, x, s', nm, rfl, W, k⟩ := h
    have hu := hu_of hr
    obtain ⟨d1, d2, d3, d4, d5, v1, v2, v3, v4, v5, v6, v7, v8, e1, e2, e3, e4, e5, e6⟩ := W.hs
    refine ⟨_, (pss_one (ps_if (pt_cmp (pc_din hu (pv 1) (pe_fld (pv 0) rfl))) (pss_one (ps_ddel (pe_fld (pv 0) rfl) (pv 1))) pss_nil)), ?_⟩
    walk_at "lw"
    refine g_rdinS (.of e6) ?_
    rw [dec_in]
    walk_at "lw"
    refine if2 (fun hm => ?_) (fun hm => ?_)
    · walk_at "lw"
      refine g_rddelS e6 (by rw [valV_mkS, if_pos hm]; rfl) fun H2 d2' k2 => ?_
      rw [dropK_mkS] at d2'
      obtain ⟨W2, st2⟩ := W.names d2' k2
      walk_at "lw"
      exact k c H2 W2 (st2.mono i5)
    · walk_at "lw"
      refine k c H ?_ Stp.refl
      rw [show s'.nk.filter (fun j => decide (j ≠ nm)) = s'.nk from List.filter_eq_self.mpr fun j hj => decide_eq_true fun z => hm (by rw [← z]; exact hj)]
      exact W
theorem ok_Registry_lapse (T : Txt w K mg C_Claims C_Collector C_Store C_Uploads C_Registry C_Refused C_Malformed a_KINDS a_BELOW a_CLAIMED) : Met P w K mg base 2 C_Registry "lapse" (spLapse C_Store C_Claims C_Uploads C_Collector C_Registry) := by
  have t_Claims_end : Met P w K mg base 1 C_Claims "end" (spCEnd C_Claims) := ok_Claims_end T
  refine met_mk T.cl_Registry T.m_Registry_lapse sc_Registry_lapse (fun vs H Q E h => ?_) (fun f cdv A outer s H vs Q E hr h => ?_)
  · obtain ⟨c, x, s, i, rfl, _⟩ := h
    rfl
  · obtain ⟨c, x, s', i, rfl, W, k⟩ := h
    obtain ⟨d1, d2, d3, d4, d5, v1, v2, v3, v4, v5, v6, v7, v8, e1, e2, e3, e4, e5, e6⟩ := W.hs
    refine ⟨_, (pss_one (ps_expr (pe_mt t_Claims_end hr (by first | decide | omega) (pe_fld (pv 0) rfl) (pa_cons (pv 1) pa_nil)))), ?_⟩
    walk_at "lw"
    refine ⟨c, x.cp, s'.n, i, s'.cs, s'.L, rfl, W.cl, fun H1 C1 st1 => ?_⟩
    walk_at "lw"
    exact k c H1 (W.claims C1 st1) (st1.mono i4)
theorem ok_Registry_fall (T : Txt w K mg C_Claims C_Collector C_Store C_Uploads C_Registry C_Refused C_Malformed a_KINDS a_BELOW a_CLAIMED) : Met P w K mg base 2 C_Registry "fall" (spFall C_Store C_Claims C_Uploads C_Collector C_Registry) := by
  have t_Uploads_forget : Met P w K mg base 1 C_Uploads "forget" (spUForget C_Uploads) := ok_Uploads_forget T
  have t_Collector_stop : Met P w K mg base 1 C_Collector "stop" (spStop C_Store C_Claims C_Uploads C_Collector C_Registry) := ok_Collector_stop T
  refine met_mk T.cl_Registry T.m_Registry_fall sc_Registry_fall (fun vs H Q E h => ?_) (fun f cdv A outer s H vs Q E hr h => ?_)
  · obtain ⟨c, x, s, rfl, _⟩ := h
    rfl
  · obtain ⟨c, x, s', rfl, W, k⟩ := h
    obtain ⟨d1, d2, d3, d4, d5, v1, v2, v3, v4, v5, v6, v7, v8, e1, e2, e3, e4, e5, e6⟩ := W.hs
    refine ⟨_, (pss_cons (ps_expr (pe_mt0 t_Uploads_forget hr (by first | decide | omega) (pe_fld (pv 0) rfl)))
      (pss_one (ps_expr (pe_mt0 t_Collector_stop hr (by first | decide | omega) (pe_fld (pv 0) rfl))))), ?_⟩
    walk_at "lw"
    refine ⟨c, x.up, s'.un, s'.ts, s'.X, rfl, W.up, fun c1 H1 U1 st1 => ?_⟩
    have W1 := W.ups U1 st1
    clear e1 e2 e3 e4 e5 e6
    obtain ⟨d1, d2, d3, d4, d5, v1, v2, v3, v4, v5, v6, v7, v8, e1, e2, e3, e4, e5, e6⟩ := W1.hs
    walk_at "lw"
    refine ⟨c1, x, _, rfl, W1, fun c2 H2 W2 st2 => ?_⟩
    walk_at "lw"
    exact k c2 H2 W2 ((st1.mono i3).trans (st2.mono i6))
end
end Lw

/-! ## the registry's walks, on -/
namespace Lw
open PySem L2
open PyProof.Rows (envOfC sortedS)
theorem g_rinT {K : PySem.W.Frag} {H : Hp} {Q : VK} {p : Addr} {xs : List V} {x : V} {b : Bool} (h : SqT K H p xs) (hx : flatV x = true) (hs : xs.all flatV = true) (hb : inV x xs = b) (k : Q (.bl b) H) : rIn K false x (.ref p) H Q := ⟨p, xs, rfl, .inr h, hx, hs, by rw [if_neg (by decide), hb]; exact k⟩
theorem foldl_addD_snoc {l f : List Str} {y : Str} : (l ++ [y]).foldl addD f = addD (l.foldl addD f) y := by rw [List.foldl_append]; rfl
theorem bl_same {z : Str} : (fun j : Str => if j = z then V.bl true else V.bl true) = (fun _ : Str => V.bl true) := funext fun j => ite_self _
section
variable {P : Program} {w : World} {K : PySem.W.Frag} {mg : Str → Option Value} {base : Heap} {C_Claims C_Collector C_Store C_Uploads C_Registry C_Refused C_Malformed a_KINDS a_BELOW a_CLAIMED : Addr}
theorem ok_Registry_answer_plain (T : Txt w K mg C_Claims C_Collector C_Store C_Uploads C_Registry C_Refused C_Malformed a_KINDS a_BELOW a_CLAIMED) : Met P w K mg base 3 C_Registry "answer_plain" (spPlain C_Store C_Claims C_Uploads C_Collector C_Registry) := by
  have t_Claims_end : Met P w K mg base 1 C_Claims "end" (spCEnd C_Claims) := ok_Claims_end T
  have t_Registry_drop_name : Met P w K mg base 1 C_Registry "drop_name" (spDrop C_Store C_Claims C_Uploads C_Collector C_Registry) := ok_Registry_drop_name T
  have t_Registry_answer_get : Met P w K mg base 2 C_Registry "answer_get" (spAGet C_Store C_Claims C_Uploads C_Collector C_Registry) := ok_Registry_answer_get T
  refine met_mk T.cl_Registry T.m_Registry_answer_plain sc_Registry_answer_plain (fun vs H Q E h => ?_) (fun f cdv A outer s H vs Q E hr h => ?_)
  · obtain ⟨c, x, s, q, t, rfl, _⟩ := h
    rfl
  · obtain ⟨c, x, s', q, t, rfl, ht, W, wf, hq, k⟩ := h
    have hu := hu_of hr
    obtain ⟨d1, d2, d3, d4, d5, v1, v2, v3, v4, v5, v6, v7, v8, e1, e2, e3, e4, e5, e6⟩ := W.hs
    refine ⟨_, (pss_cons (ps_set (i := 2) sc_Registry_answer_plain.nd rfl (by first | exact Or.inl rfl | exact Or.inr rfl) (pe_ix ix_tup (pv 1) (pe_int) (fun _ _ => rfl)))
      (pss_cons (ps_if (pt_cmpR op_eq (pv 2) (pe_str) (nomark _)) (pss_cons (ps_expr (pe_mt t_Claims_end hr (by first | decide | omega) (pe_fld (pv 0) rfl) (pa_cons (pe_ix ix_tup (pv 1) (pe_int) (fun _ _ => rfl)) pa_nil)))
      (pss_one (ps_ret (pe_tup (pa_cons (pe_str) (pa_cons (pe_ix ix_tup (pv 1) (pe_int) (fun _ _ => rfl)) pa_nil)))))) pss_nil)
      (pss_cons (ps_if (pt_cmpR op_eq (pv 2) (pe_str) (nomark _)) (pss_cons (ps_expr (pe_mt t_Registry_drop_name hr (by first | decide | omega) (pv 0) (pa_cons (pe_ix ix_tup (pv 1) (pe_int) (fun _ _ => rfl)) pa_nil)))
      (pss_one (ps_ret (pe_tup (pa_cons (pe_str) (pa_cons (pe_ix ix_tup (pv 1) (pe_int) (fun _ _ => rfl)) pa_nil)))))) pss_nil)
      (pss_cons (ps_if (pt_cmpR op_eq (pv 2) (pe_str) (nomark _)) (pss_cons (ps_if (pt_cmp (pc_din hu (pe_ix ix_tup (pv 1) (pe_int) (fun _ _ => rfl)) (pe_fld (pv 0) rfl))) (pss_one (ps_ret (pe_tup (pa_cons (pe_str) (pa_cons (pe_ix ix_tup (pv 1) (pe_int) (fun _ _ => rfl)) (pa_cons (pe_dget hu (pe_fld (pv 0) rfl) (pe_ix ix_tup (pv 1) (pe_int) (fun _ _ => rfl)) (fun _ _ => rfl)) pa_nil)))))) pss_nil)
      (pss_one (ps_ret (pe_tup (pa_cons (pe_str) (pa_cons (pe_ix ix_tup (pv 1) (pe_int) (fun _ _ => rfl)) pa_nil)))))) pss_nil)
      (pss_one (ps_ret (pe_mt t_Registry_answer_get hr (by first | decide | omega) (pv 0) (pa_cons (pe_ix ix_tup (pv 1) (pe_int) (fun _ _ => rfl)) (pa_cons (pe_ix ix_tup (pv 1) (pe_int) (fun _ _ => rfl)) (pa_cons (pe_ix ix_tup (pv 1) (pe_int) (fun _ _ => rfl)) pa_nil)))))))))), ?_⟩
    walk_at "lw"
    cases q with
    | close i =>
      refine g_rixT (SqT.of ht) (j := 0) (v := .str "close") rfl ?_
      walk_at "lw"
      refine g_rixT (SqT.of ht) (j := 1) (v := .int i) rfl ?_
      walk_at "lw"
      refine ⟨c, x.cp, s'.n, i, s'.cs, s'.L, rfl, W.cl, fun H1 C1 st1 => ?_⟩
      walk_at "lw"
      refine g_rixT (SqT.of (st1.tup _ _ ht)) (j := 1) (v := .int i) rfl ?_
      walk_at "lw"
      refine g_ktup (by show 2 ≤ 100; decide) fun t2 H2 nt s2 ht2 => ?_
      walk_at "lw"
      exact k c H2 t2 ((W.claims C1 st1).same s2) ((st1.mono i4).trans (Stp.same s2)) ht2
    | look nm =>
      refine g_rixT (SqT.of ht) (j := 0) (v := .str "look") rfl ?_
      walk_at "lw"
      refine g_rixT (SqT.of ht) (j := 1) (v := .str nm) rfl ?_
      walk_at "lw"
      refine g_rdinS (.of e6) ?_
      rw [dec_in]
      walk_at "lw"
      unfold ans at k
      dsimp only at k
      refine if2 (fun hm => ?_) (fun hm => ?_)
      · rw [if_pos hm] at k
        walk_at "lw"
        refine g_rixT (SqT.of ht) (j := 1) (v := .str nm) rfl ?_
        walk_at "lw"
        refine g_rixT (SqT.of ht) (j := 1) (v := .str nm) rfl ?_
        walk_at "lw"
        refine g_rdgetS (.of e6) (by rw [valV_mkS, if_pos hm]) ?_
        walk_at "lw"
        refine g_ktup (by show 3 ≤ 100; decide) fun t2 H2 nt s2 ht2 => ?_
        walk_at "lw"
        exact k c H2 t2 (W.same s2) (Stp.same s2) ht2
      · rw [if_neg hm] at k
        walk_at "lw"
        refine g_rixT (SqT.of ht) (j := 1) (v := .str nm) rfl ?_
        walk_at "lw"
        refine g_ktup (by show 2 ≤ 100; decide) fun t2 H2 nt s2 ht2 => ?_
        walk_at "lw"
        exact k c H2 t2 (W.same s2) (Stp.same s2) ht2
    | get a i m =>
      refine g_rixT (SqT.of ht) (j := 0) (v := .str "get") rfl ?_
      walk_at "lw"
      refine g_rixT (SqT.of ht) (j := 1) (v := .str a) rfl ?_
      walk_at "lw"
      refine g_rixT (SqT.of ht) (j := 2) (v := .int i) rfl ?_
      walk_at "lw"
      refine g_rixT (SqT.of ht) (j := 3) (v := .int m) rfl ?_
      walk_at "lw"
      exact ⟨c, x, s', a, i, m, rfl, W, wf, k⟩
    | drop nm =>
      refine g_rixT (SqT.of ht) (j := 0) (v := .str "drop") rfl ?_
      walk_at "lw"
      refine g_rixT (SqT.of ht) (j := 1) (v := .str nm) rfl ?_
      walk_at "lw"
      refine ⟨c, x, s', nm, rfl, W, fun c1 H1 W1 st1 => ?_⟩
      walk_at "lw"
      refine g_rixT (SqT.of (st1.tup _ _ ht)) (j := 1) (v := .str nm) rfl ?_
      walk_at "lw"
      refine g_ktup (by show 2 ≤ 100; decide) fun t2 H2 nt s2 ht2 => ?_
      walk_at "lw"
      exact k c1 H2 t2 (W1.same s2) (st1.trans (Stp.same s2)) ht2
    | _ => exact hq.elim
theorem ok_Registry_answer (T : Txt w K mg C_Claims C_Collector C_Store C_Uploads C_Registry C_Refused C_Malformed a_KINDS a_BELOW a_CLAIMED) : Met P w K mg base 13 C_Registry "answer" (spAns C_Store C_Claims C_Uploads C_Collector C_Registry) := by
  have t_Claims_is_open : Met P w K mg base 1 C_Claims "is_open" (spCOpen C_Claims) := ok_Claims_is_open T
  have t_Claims_begin : Met P w K mg base 1 C_Claims "begin" (spCBegin C_Claims) := ok_Claims_begin T
  have t_Uploads_begin : Met P w K mg base 1 C_Uploads "begin" (spUBegin C_Uploads) := ok_Uploads_begin T
  have t_Registry_answer_has : Met P w K mg base 12 C_Registry "answer_has" (spAHas C_Store C_Claims C_Uploads C_Collector C_Registry) := ok_Registry_answer_has T
  have t_Registry_answer_part : Met P w K mg base 2 C_Registry "answer_part" (spAPart C_Store C_Claims C_Uploads C_Collector C_Registry) := ok_Registry_answer_part T
  have t_Registry_answer_finish : Met P w K mg base 12 C_Registry "answer_finish" (spAFin C_Store C_Claims C_Uploads C_Collector C_Registry) := ok_Registry_answer_finish T
  have t_Registry_answer_put : Met P w K mg base 12 C_Registry "answer_put" (spAPut C_Store C_Claims C_Uploads C_Collector C_Registry) := ok_Registry_answer_put T
  have t_Registry_answer_name : Met P w K mg base 12 C_Registry "answer_name" (spAName C_Store C_Claims C_Uploads C_Collector C_Registry) := ok_Registry_answer_name T
  have t_Registry_answer_plain : Met P w K mg base 3 C_Registry "answer_plain" (spPlain C_Store C_Claims C_Uploads C_Collector C_Registry) := ok_Registry_answer_plain T
  refine met_mk T.cl_Registry T.m_Registry_answer sc_Registry_answer (fun vs H Q E h => ?_) (fun f cdv A outer s H vs Q E hr h => ?_)
  · obtain ⟨c, x, s, q, t, rfl, _⟩ := h
    rfl
  · obtain ⟨c, x, s', q, t, rfl, ht, W, wf, hq, hsh, k⟩ := h
    have hu := hu_of hr
    obtain ⟨d1, d2, d3, d4, d5, v1, v2, v3, v4, v5, v6, v7, v8, e1, e2, e3, e4, e5, e6⟩ := W.hs
    have hT : ∀ H : Hp, SqT K H a_CLAIMED (claimed4.map V.str) := fun H => by
      obtain ⟨o, its, n, k1, k2, k3, k4, k5, k6⟩ := T.at_CLAIMED
      exact .inr ⟨o, its, n, k1, k2, k4, k5, k6⟩
    refine ⟨_, (pss_cons (ps_set (i := 2) sc_Registry_answer.nd rfl (by first | exact Or.inl rfl | exact Or.inr rfl) (pe_ix ix_tup (pv 1) (pe_int) (fun _ _ => rfl)))
      (pss_cons (ps_if (PW.pt (pw_and (pt_cmpR op_in_seq (pv 2) (pe_gc rfl T.g_CLAIMED) (by rfl)) (pw_and1 (pt_not (pt_val (pe_mt t_Claims_is_open hr (by first | decide | omega) (pe_fld (pv 0) rfl) (pa_cons (pe_ix ix_tup (pv 1) (pe_int) (fun _ _ => rfl)) pa_nil))))))) (pss_one (ps_ret (pe_tup (pa_cons (pe_str) (pa_cons (pe_ix ix_tup (pv 1) (pe_int) (fun _ _ => rfl)) pa_nil))))) pss_nil)
      (pss_cons (ps_if (pt_cmpR op_eq (pv 2) (pe_str) (nomark _)) (pss_one (ps_ret (pe_tup (pa_cons (pe_str) (pa_cons (pe_mt0 t_Claims_begin hr (by first | decide | omega) (pe_fld (pv 0) rfl)) pa_nil))))) pss_nil)
      (pss_cons (ps_if (pt_cmpR op_eq (pv 2) (pe_str) (nomark _)) (pss_one (ps_ret (pe_mt t_Registry_answer_has hr (by first | decide | omega) (pv 0) (pa_cons (pe_ix ix_tup (pv 1) (pe_int) (fun _ _ => rfl)) (pa_cons (pe_ix ix_tup (pv 1) (pe_int) (fun _ _ => rfl)) pa_nil))))) pss_nil)
      (pss_cons (ps_if (pt_cmpR op_eq (pv 2) (pe_str) (nomark _)) (pss_one (ps_ret (pe_tup (pa_cons (pe_str) (pa_cons (pe_mt0 t_Uploads_begin hr (by first | decide | omega) (pe_fld (pv 0) rfl)) pa_nil))))) pss_nil)
      (pss_cons (ps_if (pt_cmpR op_eq (pv 2) (pe_str) (nomark _)) (pss_one (ps_ret (pe_mt t_Registry_answer_part hr (by first | decide | omega) (pv 0) (pa_cons (pe_ix ix_tup (pv 1) (pe_int) (fun _ _ => rfl)) (pa_cons (pe_ix ix_tup (pv 1) (pe_int) (fun _ _ => rfl)) (pa_cons (pe_ix ix_tup (pv 1) (pe_int) (fun _ _ => rfl)) pa_nil)))))) pss_nil)
      (pss_cons (ps_if (pt_cmpR op_eq (pv 2) (pe_str) (nomark _)) (pss_one (ps_ret (pe_mt t_Registry_answer_finish hr (by first | decide | omega) (pv 0) (pa_cons (pe_ix ix_tup (pv 1) (pe_int) (fun _ _ => rfl)) (pa_cons (pe_ix ix_tup (pv 1) (pe_int) (fun _ _ => rfl)) (pa_cons (pe_ix ix_tup (pv 1) (pe_int) (fun _ _ => rfl)) pa_nil)))))) pss_nil)
      (pss_cons (ps_if (pt_cmpR op_eq (pv 2) (pe_str) (nomark _)) (pss_one (ps_ret (pe_mt t_Registry_answer_put hr (by first | decide | omega) (pv 0) (pa_cons (pe_ix ix_tup (pv 1) (pe_int) (fun _ _ => rfl)) (pa_cons (pe_ix ix_tup (pv 1) (pe_int) (fun _ _ => rfl)) (pa_cons (pe_ix ix_tup (pv 1) (pe_int) (fun _ _ => rfl)) pa_nil)))))) pss_nil)
      (pss_cons (ps_if (pt_cmpR op_eq (pv 2) (pe_str) (nomark _)) (pss_one (ps_ret (pe_mt t_Registry_answer_name hr (by first | decide | omega) (pv 0) (pa_cons (pe_ix ix_tup (pv 1) (pe_int) (fun _ _ => rfl)) (pa_cons (pe_ix ix_tup (pv 1) (pe_int) (fun _ _ => rfl)) (pa_cons (pe_ix ix_tup (pv 1) (pe_int) (fun _ _ => rfl)) pa_nil)))))) pss_nil)
      (pss_one (ps_ret (pe_mt t_Registry_answer_plain hr (by first | decide | omega) (pv 0) (pa_cons (pv 1) pa_nil))))))))))))), ?_⟩
    walk_at "lw"
    unfold ans at k
    cases q with
    | opn =>
      dsimp only at k
      refine g_rixT (SqT.of ht) (j := 0) (v := .str "open") rfl ?_
      walk_at "lw"
      refine g_rinT (hT _) rfl rfl (b := false) (by decide +kernel) ?_
      walk_at "lw"
      refine ⟨c, x.cp, s'.n, s'.cs, s'.L, rfl, W.cl, fun z => by have := wf.cle _ z; omega, by have := wf.cl; omega, fun c1 H1 C1 st1 => ?_⟩
      walk_at "lw"
      refine g_ktup (by show 2 ≤ 100; decide) fun t2 H2 nt s2 ht2 => ?_
      walk_at "lw"
      exact k c1 H2 t2 ((W.claims C1 st1).same s2) ((st1.mono i4).trans (Stp.same s2)) ht2
    | has i a =>
      dsimp only at k
      refine g_rixT (SqT.of ht) (j := 0) (v := .str "has") rfl ?_
      walk_at "lw"
      refine g_rinT (hT _) rfl rfl (b := true) (by decide +kernel) ?_
      walk_at "lw"
      refine g_rixT (SqT.of ht) (j := 1) (v := .int i) rfl ?_
      walk_at "lw"
      refine ⟨c, x.cp, s'.n, i, s'.cs, s'.L, rfl, W.cl, ?_⟩
      walk_at "lw"
      refine ifn2 (fun hi => ?_) (fun hi => ?_)
      rotate_left
      · rw [if_neg hi] at k
        walk_at "lw"
        refine g_rixT (SqT.of ht) (j := 1) (v := .int i) rfl ?_
        walk_at "lw"
        refine g_ktup (by show 2 ≤ 100; decide) fun t3 H3 nt s3 ht3 => ?_
        walk_at "lw"
        exact k c H3 t3 (W.same s3) (Stp.same s3) ht3
      · rw [if_pos hi] at k
        walk_at "lw"
        refine g_rixT (SqT.of ht) (j := 1) (v := .int i) rfl ?_
        walk_at "lw"
        refine g_rixT (SqT.of ht) (j := 2) (v := .str a) rfl ?_
        walk_at "lw"
        exact ⟨c, x, s', i, a, rfl, W, wf, hi, hsh, k⟩
    | start i =>
      dsimp only at k
      refine g_rixT (SqT.of ht) (j := 0) (v := .str "start") rfl ?_
      walk_at "lw"
      refine g_rinT (hT _) rfl rfl (b := true) (by decide +kernel) ?_
      walk_at "lw"
      refine g_rixT (SqT.of ht) (j := 1) (v := .int i) rfl ?_
      walk_at "lw"
      refine ⟨c, x.cp, s'.n, i, s'.cs, s'.L, rfl, W.cl, ?_⟩
      walk_at "lw"
      refine ifn2 (fun hi => ?_) (fun hi => ?_)
      rotate_left
      · rw [if_neg hi] at k
        walk_at "lw"
        refine g_rixT (SqT.of ht) (j := 1) (v := .int i) rfl ?_
        walk_at "lw"
        refine g_ktup (by show 2 ≤ 100; decide) fun t3 H3 nt s3 ht3 => ?_
        walk_at "lw"
        exact k c H3 t3 (W.same s3) (Stp.same s3) ht3
      · rw [if_pos hi] at k
        walk_at "lw"
        refine ⟨c, x.up, s'.un, s'.ts, s'.X, rfl, W.up, fun z => by have := wf.ule _ z; omega, by have := wf.ul; omega, fun H1 U1 st1 => ?_⟩
        walk_at "lw"
        refine g_ktup (by show 2 ≤ 100; decide) fun t2 H2 nt s2 ht2 => ?_
        walk_at "lw"
        exact k c H2 t2 ((W.ups U1 st1).same s2) ((st1.mono i3).trans (Stp.same s2)) ht2
    | part u i p =>
      dsimp only at k
      refine g_rixT (SqT.of ht) (j := 0) (v := .str "part") rfl ?_
      walk_at "lw"
      refine g_rinT (hT _) rfl rfl (b := false) (by decide +kernel) ?_
      walk_at "lw"
      refine g_rixT (SqT.of ht) (j := 1) (v := .int u) rfl ?_
      walk_at "lw"
      refine g_rixT (SqT.of ht) (j := 2) (v := .int i) rfl ?_
      walk_at "lw"
      refine g_rixT (SqT.of ht) (j := 3) (v := .str (SX.S p)) rfl ?_
      walk_at "lw"
      exact ⟨c, x, s', u, i, p, rfl, W, wf, hq.2, k⟩
    | fin u i a =>
      dsimp only at k
      refine g_rixT (SqT.of ht) (j := 0) (v := .str "finish") rfl ?_
      walk_at "lw"
      refine g_rinT (hT _) rfl rfl (b := false) (by decide +kernel) ?_
      walk_at "lw"
      refine g_rixT (SqT.of ht) (j := 1) (v := .int u) rfl ?_
      walk_at "lw"
      refine g_rixT (SqT.of ht) (j := 2) (v := .int i) rfl ?_
      walk_at "lw"
      refine g_rixT (SqT.of ht) (j := 4) (v := .str a) rfl ?_
      walk_at "lw"
      exact ⟨c, x, s', u, i, a, rfl, W, wf, hsh, k⟩
    | put i kd p =>
      dsimp only at k
      refine g_rixT (SqT.of ht) (j := 0) (v := .str "put") rfl ?_
      walk_at "lw"
      refine g_rinT (hT _) rfl rfl (b := true) (by decide +kernel) ?_
      walk_at "lw"
      refine g_rixT (SqT.of ht) (j := 1) (v := .int i) rfl ?_
      walk_at "lw"
      refine ⟨c, x.cp, s'.n, i, s'.cs, s'.L, rfl, W.cl, ?_⟩
      walk_at "lw"
      refine ifn2 (fun hi => ?_) (fun hi => ?_)
      rotate_left
      · rw [if_neg hi] at k
        walk_at "lw"
        refine g_rixT (SqT.of ht) (j := 1) (v := .int i) rfl ?_
        walk_at "lw"
        refine g_ktup (by show 2 ≤ 100; decide) fun t3 H3 nt s3 ht3 => ?_
        walk_at "lw"
        exact k c H3 t3 (W.same s3) (Stp.same s3) ht3
      · rw [if_pos hi] at k
        walk_at "lw"
        refine g_rixT (SqT.of ht) (j := 1) (v := .int i) rfl ?_
        walk_at "lw"
        refine g_rixT (SqT.of ht) (j := 2) (v := .str kd.s) rfl ?_
        walk_at "lw"
        refine g_rixT (SqT.of ht) (j := 3) (v := .str (SX.S p)) rfl ?_
        walk_at "lw"
        exact ⟨c, x, s', i, kd, p, rfl, W, wf, hi, hq, hsh, k⟩
    | name i nm a =>
      dsimp only at k
      refine g_rixT (SqT.of ht) (j := 0) (v := .str "name") rfl ?_
      walk_at "lw"
      refine g_rinT (hT _) rfl rfl (b := true) (by decide +kernel) ?_
      walk_at "lw"
      refine g_rixT (SqT.of ht) (j := 1) (v := .int i) rfl ?_
      walk_at "lw"
      refine ⟨c, x.cp, s'.n, i, s'.cs, s'.L, rfl, W.cl, ?_⟩
      walk_at "lw"
      refine ifn2 (fun hi => ?_) (fun hi => ?_)
      rotate_left
      · rw [if_neg hi] at k
        walk_at "lw"
        refine g_rixT (SqT.of ht) (j := 1) (v := .int i) rfl ?_
        walk_at "lw"
        refine g_ktup (by show 2 ≤ 100; decide) fun t3 H3 nt s3 ht3 => ?_
        walk_at "lw"
        exact k c H3 t3 (W.same s3) (Stp.same s3) ht3
      · rw [if_pos hi] at k
        walk_at "lw"
        refine g_rixT (SqT.of ht) (j := 1) (v := .int i) rfl ?_
        walk_at "lw"
        refine g_rixT (SqT.of ht) (j := 2) (v := .str nm) rfl ?_
        walk_at "lw"
        refine g_rixT (SqT.of ht) (j := 3) (v := .str a) rfl ?_
        walk_at "lw"
        exact ⟨c, x, s', i, nm, a, rfl, W, wf, hi, hsh, k⟩
    | close i =>
      refine g_rixT (SqT.of ht) (j := 0) (v := .str "close") rfl ?_
      walk_at "lw"
      refine g_rinT (hT _) rfl rfl (b := false) (by decide +kernel) ?_
      walk_at "lw"
      exact ⟨c, x, s', .close i, t, rfl, ht, W, wf, trivial, k⟩
    | look nm =>
      refine g_rixT (SqT.of ht) (j := 0) (v := .str "look") rfl ?_
      walk_at "lw"
      refine g_rinT (hT _) rfl rfl (b := false) (by decide +kernel) ?_
      walk_at "lw"
      exact ⟨c, x, s', .look nm, t, rfl, ht, W, wf, trivial, k⟩
    | get a i m =>
      refine g_rixT (SqT.of ht) (j := 0) (v := .str "get") rfl ?_
      walk_at "lw"
      refine g_rinT (hT _) rfl rfl (b := false) (by decide +kernel) ?_
      walk_at "lw"
      exact ⟨c, x, s', .get a i m, t, rfl, ht, W, wf, trivial, k⟩
    | drop nm =>
      refine g_rixT (SqT.of ht) (j := 0) (v := .str "drop") rfl ?_
      walk_at "lw"
      refine g_rinT (hT _) rfl rfl (b := false) (by decide +kernel) ?_
      walk_at "lw"
      exact ⟨c, x, s', .drop nm, t, rfl, ht, W, wf, trivial, k⟩
theorem ok_Registry_roots (T : Txt w K mg C_Claims C_Collector C_Store C_Uploads C_Registry C_Refused C_Malformed a_KINDS a_BELOW a_CLAIMED) : Met P w K mg base 2 C_Registry "roots" (spRoots C_Store C_Claims C_Uploads C_Collector C_Registry) := by
  have t_Claims_pinned : Met P w K mg base 1 C_Claims "pinned" (spCPinned C_Claims) := ok_Claims_pinned T
  refine met_mk T.cl_Registry T.m_Registry_roots sc_Registry_roots (fun vs H Q E h => ?_) (fun f cdv A outer s H vs Q E hr h => ?_)
  · obtain ⟨c, x, s, D, rfl, _⟩ := h
    rfl
  · obtain ⟨c, x, s', D, rfl, W, hD, hz, hn, k⟩ := h
    have hu := hu_of hr
    refine ⟨_, (pss_cons (ps_set (i := 1) sc_Registry_roots.nd rfl (by first | exact Or.inl rfl | exact Or.inr rfl) (pe_dnewK))
      (pss_cons (ps_for PassesOwn.never rfl (pi_list (pe_mt0 t_Claims_pinned hr (by first | decide | omega) (pe_fld (pv 0) rfl))) (pg_name (i := 2) sc_Registry_roots.nd rfl (by first | exact Or.inl rfl | exact Or.inr rfl)) (pss_one (ps_dput hu (pv 1) (pv 2) (pe_bl) rfl)))
      (pss_cons (ps_lock (ps_for PassesOwn.never rfl (pi_keys (pe_fld (pv 0) rfl)) (pg_name (i := 3) sc_Registry_roots.nd rfl (by first | exact Or.inl rfl | exact Or.inr rfl)) (pss_one (ps_dput hu (pv 1) (pe_dget hu (pe_fld (pv 0) rfl) (pv 3) (fun _ _ => rfl)) (pe_bl) rfl))))
      (pss_one (ps_ret (pe_callB (call_sortedD' rfl) (by rfl) T.n_sorted (by decide +kernel) (pa_cons (pv 1) pa_nil))))))), ?_⟩
    walk_at "lw"
    refine g_dnew fun fd H1 nf s1 hf => ?_
    have W1 := W.same s1
    obtain ⟨d1, d2, d3, d4, d5, v1, v2, v3, v4, v5, v6, v7, v8, e1, e2, e3, e4, e5, e6⟩ := W1.hs
    walk_at "lw"
    refine ⟨c, x.cp, s'.n, s'.cs, s'.L, D, rfl, W1.cl, fun i hi y hy => hD y (.inl ⟨i, hi, hy⟩), hz, fun r ys H2 hnd hs hmem s2 hr2 => ?_⟩
    have e12 := s2.at e1
    have e62 := s2.at e6
    have hf2 := s2.at hf
    have nR : x.R ≠ fd := ne_of e12 hf2 (by intro z; cases z)
    have nN : x.nd ≠ fd := by
      obtain ⟨_, m2⟩ := W.nm
      exact ne_of_none m2 nf
    have nr : r ≠ fd := ne_of hr2 hf2 (by intro z; cases z)
    have hyD : ∀ y ∈ ys, y ∈ D := fun y hy => hD y (.inl ((hmem y).mp hy))
    have hyl := few_len hnd hyD
    refine g_ritL (SqL.of hr2) ?_
    refine for_at (G := fun H' => SqL K H' r (ys.map V.str)) walk_list (fun i σ H' => (∀ b, b ≠ fd → H' b = H2 b) ∧ H' fd = some (.dK (mkS ((ys.take i).foldl addD []) fun _ => .bl true)) ∧ ∃ v v2 : Option V, σ = [some (.ref x.R), some (.ref fd), v, v2]) ⟨fun _ _ => rfl, hf2, none, none, rfl⟩ (fun i σ H' h => SqL.of (by rw [h.1 r nr]; exact hr2)) ?_ ?_
    · rintro i yy σ H3 hyy ⟨k3, f3, v, v2, rfl⟩
      obtain ⟨y, hy, rfl⟩ := map_at hyy
      walk_at "lw"
      refine g_rdputS f3 ?_ fun H4 f4 k4 => ?_
      · rw [mkS_len]
        have := foldl_addD_len (ys.take i) []
        have := (List.take_sublist i ys).length_le
        have : ([] : List Str).length = 0 := rfl
        omega
      walk_at "lw"
      rw [putK_S, bl_same] at f4
      refine ⟨fun b hb => by rw [k4 b hb]; exact k3 b hb, ?_, _, _, rfl⟩
      rw [take_ok hy, foldl_addD_snoc]
      exact f4
    · rintro σ H3 ⟨k3, f3, v, v2, rfl⟩
      rw [List.length_map, List.take_length] at f3
      have e13 : H3 x.R = _ := (k3 _ nR).trans e12
      have e63 : H3 x.nd = _ := (k3 _ nN).trans e62
      generalize hF : ys.foldl addD [] = F at f3
      have hFm : ∀ y, y ∈ F ↔ ∃ i ∈ s'.cs, y ∈ s'.L i := fun y => by
        rw [← hF, mem_foldl_addD, ← hmem y]
        simp
      have hFn : F.Nodup := by rw [← hF]; exact foldl_addD_nd List.nodup_nil
      have hFl : F.length ≤ 63 := by
        have := few_len hFn fun y hy => hD y (.inl ((hFm y).mp hy))
        omega
      walk_at "lw"
      refine g_lock e63 fun od H4 n4 k4 => ?_
      have e14 : H4 x.R = _ := (k4 _ (ne_of e13 e63 (by intro z; cases z))).trans e13
      have f4 : H4 fd = _ := (k4 _ nN.symm).trans f3
      walk_at "lw"
      refine g_ritK n4 ?_
      refine for_at walk_ks (fun i σ H' => (∀ b, b ≠ fd → H' b = H4 b) ∧ H' fd = some (.dK (mkS (((s'.nk.take i).map s'.N).foldl addD F) fun _ => .bl true)) ∧ ∃ v v2 : Option V, σ = [some (.ref x.R), some (.ref fd), v, v2]) ⟨fun _ _ => rfl, f4, v, v2, rfl⟩ (fun i σ H' h => by rw [h.1 _ nN]; exact n4) ?_ ?_
      · rintro i yy σ H5 hyy ⟨k5, f5, v', v2', rfl⟩
        rw [mkS_kV] at hyy
        obtain ⟨y, hy, rfl⟩ := map_at hyy
        have hym := List.mem_of_getElem? hy
        have e15 : H5 x.R = _ := (k5 _ nR).trans e14
        have n5 : H5 x.nd = _ := (k5 _ nN).trans n4
        walk_at "lw"
        refine g_rdgetS (.inr ⟨od, n5⟩) (by rw [valV_mkS, if_pos hym]) ?_
        walk_at "lw"
        refine g_rdputS f5 ?_ fun H6 f6 k6 => ?_
        · rw [mkS_len]
          have := foldl_addD_len ((s'.nk.take i).map s'.N) F
          have h2 := (List.take_sublist i s'.nk).length_le
          rw [List.length_map] at this
          omega
        walk_at "lw"
        rw [putK_S, bl_same] at f6
        refine ⟨fun b hb => by rw [k6 b hb]; exact k5 b hb, ?_, _, _, rfl⟩
        rw [take_ok hy, List.map_append, List.map_singleton, foldl_addD_snoc]
        exact f6
      · rintro σ H5 ⟨k5, f5, v', v2', rfl⟩
        rw [mkS_kV, List.length_map, List.take_length] at f5
        refine ⟨(k5 _ nN).trans n4, ?_⟩
        have fin : ∀ b, b ≠ fd → (upd H5 x.nd (.dK (mkS s'.nk fun a => .str (s'.N a)))) b = H2 b := fun b hb => by
          by_cases e : b = x.nd
          · subst e
            rw [upd_same, e62]
          · rw [upd_ne e, k5 b hb, k4 b e, k3 b hb]
        have f6 : (upd H5 x.nd (.dK (mkS s'.nk fun a => .str (s'.N a)))) fd = some (.dK (mkS ((s'.nk.map s'.N).foldl addD F) fun _ => .bl true)) := by rw [upd_ne nN.symm]; exact f5
        generalize upd H5 x.nd (.dK (mkS s'.nk fun a => .str (s'.N a))) = H7 at fin f6
        walk_at "lw"
        have hm : ∀ y, y ∈ (s'.nk.map s'.N).foldl addD F ↔ isRoot s' y := fun y => by
          rw [mem_foldl_addD, hFm, List.mem_map]
          rfl
        have hl : ((s'.nk.map s'.N).foldl addD F).length < 64 := Nat.lt_of_le_of_lt (few_len (foldl_addD_nd hFn) fun y hy => hD y ((hm y).mp hy)) hz
        refine ⟨fd, _, _, rfl, .of f6, mkS_keys, Nat.lt_of_lt_of_le hl (by decide), fun zs r2 hp hs2 nr2 => ?_⟩
        walk_at "lw"
        have sm : Same H H7 := fun b o e => by
          rw [fin b (ne_of_none e nf)]
          exact s2.at (s1.at e)
        exact k r2 zs _ (hp.nodup_iff.mpr (foldl_addD_nd hFn)) hs2 (fun y => by rw [hp.mem_iff, hm]) (sm.thenNew nr2) upd_same
end
end Lw

/-! ## the collector's steps -/
namespace Lw
open PySem L2
open PyProof.Rows (envOfC sortedS)
/-- a step of the collector whose roots are rs -/
inductive CStep (rs : List Str) (s : Rg) : Rg → Str → Prop
  | begin (h : s.ph = "idle") : CStep rs s { s with ph := "mark", td := rs } "begin"
  | turn (ys : List Str) (h : s.ph = "mark") (ht : s.td = []) (hp : ys.Perm s.ks) (hs : sortedS ys = true) : CStep rs s { s with ph := "sweep", dm := ys.filter fun a => decide (a ∉ s.mr) } "turn"
  | mark (a : Str) (t : List Str) (h : s.ph = "mark") (ht : s.td = a :: t) (hm : a ∉ s.mr) : CStep rs s { s with mr := s.mr ++ [a], td := t ++ (s.B a).refs.map SX.S } "mark"
  | skip (a : Str) (t : List Str) (h : s.ph = "mark") (ht : s.td = a :: t) (hm : a ∈ s.mr) : CStep rs s { s with td := t } "mark"
  | fin (h : s.ph = "sweep") (ht : s.dm = []) : CStep rs s { s with ph := "idle", mr := [], td := [], dm := [] } "end"
  | drop (a : Str) (t : List Str) (h : s.ph = "sweep") (ht : s.dm = a :: t) (hm : a ∉ s.mr) : CStep rs s { s with ks := s.ks.filter fun j => decide (j ≠ a), dm := t } "sweep"
  | leave (a : Str) (t : List Str) (h : s.ph = "sweep") (ht : s.dm = a :: t) (hm : a ∈ s.mr) : CStep rs s { s with dm := t } "sweep"
structure StepOk (s : Rg) : Prop where
  ph : s.ph = "idle" ∨ s.ph = "mark" ∨ s.ph = "sweep"
  sw : SWf s.ks s.B
  kl : s.ks.length ≤ 1000
  tl : s.td.length ≤ 50000
  tk : s.ph = "mark" → ∀ a ∈ s.td, a ∈ s.ks
  dk : s.ph = "sweep" → ∀ a ∈ s.dm, a ∈ s.ks
  dl : s.dm.length ≤ 1000
  ml : s.mr.length ≤ 1000
def ICo : Nat → Prop := fun i => i = 6 ∨ i = 1
theorem ic6 : ∀ i, i = 6 → ICo i := fun _ h => .inl h
theorem ic1 : ∀ i, i = 1 → ICo i := fun _ h => .inr h
section
variable (CS CC CU CO CR : Addr)
def spMark : Sp := fun vs H Q _ => ∃ (c : Addr → Nat) (x : Rx) (s : Rg), vs = [.ref x.co] ∧ RegAt CS CC CU CO CR c H x s ∧ StepOk s ∧ s.ph = "mark" ∧ ∀ c' H' s' w, (∀ rs, CStep rs s s' w) → RegAt CS CC CU CO CR c' H' x s' → Stp ICo c c' H H' → Q (.str w) H'
def spSweep : Sp := fun vs H Q _ => ∃ (c : Addr → Nat) (x : Rx) (s : Rg), vs = [.ref x.co] ∧ RegAt CS CC CU CO CR c H x s ∧ StepOk s ∧ s.ph = "sweep" ∧ ∀ c' H' s' w, (∀ rs, CStep rs s s' w) → RegAt CS CC CU CO CR c' H' x s' → Stp ICo c c' H H' → Q (.str w) H'
def spStep : Sp := fun vs H Q _ => ∃ (c : Addr → Nat) (x : Rx) (s : Rg) (p : Addr) (rs : List Str), vs = [.ref x.co, .ref p] ∧ H p = some (.lst (rs.map V.str)) ∧ rs.length ≤ 1000 ∧ RegAt CS CC CU CO CR c H x s ∧ StepOk s ∧ ∀ c' H' s' w, CStep rs s s' w → RegAt CS CC CU CO CR c' H' x s' → Stp ICo c c' H H' → Q (.str w) H'
end
theorem map_str_inj {ls : List Str} : (ls.map V.str).length = ls.length := List.length_map _
theorem str_pred {f : List Str} {ys : List Str} : (ys.map V.str).filter (fun v => match v with | .str z => decide (z ∉ f) | _ => false) = (ys.filter fun a => decide (a ∉ f)).map V.str := by
  rw [List.filter_map]
  rfl
section
variable {P : Program} {w : World} {K : PySem.W.Frag} {mg : Str → Option Value} {base : Heap} {C_Claims C_Collector C_Store C_Uploads C_Registry C_Refused C_Malformed a_KINDS a_BELOW a_CLAIMED : Addr}
theorem ok_Collector_mark_one (T : Txt w K mg C_Claims C_Collector C_Store C_Uploads C_Registry C_Refused C_Malformed a_KINDS a_BELOW a_CLAIMED) : Met P w K mg base 7 C_Collector "mark_one" (spMark C_Store C_Claims C_Uploads C_Collector C_Registry) := by
  have t_Store_addresses : Met P w K mg base 1 C_Store "addresses" (spAdrs C_Store) := ok_Store_addresses T
  have t_Store_below : Met P w K mg base 6 C_Store "below" (spBelow C_Store) := ok_Store_below T
  refine met_mk T.cl_Collector T.m_Collector_mark_one sc_Collector_mark_one (fun vs H Q E h => ?_) (fun f cdv A outer s H vs Q E hr h => ?_)
  · obtain ⟨c, x, s, rfl, _⟩ := h
    rfl
  · obtain ⟨c, x, s', rfl, W, ok, hph, k⟩ := h
    have hu := hu_of hr
    obtain ⟨d1, d2, d3, d4, d5, v1, v2, v3, v4, v5, v6, v7, v8, e1, e2, e3, e4, e5, e6⟩ := W.hs
    clear e1 e3 e4 e5 e6
    obtain ⟨dx, m, t, d, h1, hp, h3, hm, h5, ht, h7, hd, htd⟩ := W.co.ex
    have nxp : x.co ≠ x.p := ne_of hp e2 (by intro z; cases z)
    refine ⟨_, (pss_cons (ps_if (pt_cmpR op_eq (pe_callB call_len_seq' (by rfl) T.n_len (by decide +kernel) (pa_cons (pe_fld (pv 0) rfl) pa_nil)) (pe_int) (nomark _)) (pss_cons (ps_fld (pv 0) (pe_str) rfl)
      (pss_cons (ps_fld (pv 0) (pe_lc (own := [("address", 1)]) (g := (gName 1)) (by rfl) sc_Collector_mark_one.nd (pi_list (pe_mt0 t_Store_addresses hr (by first | decide | omega) (pe_fld (pv 0) rfl))) (blkOk_by (own := [("address", 1)]) (N := n_Collector_mark_one) (sc := defScope s_Collector_mark_one) (by decide +kernel)) (fun _ _ _ _ _ => (pg_name (i := 1) sc_Collector_mark_one.nd rfl (by first | exact Or.inl rfl | exact Or.inr rfl))) (fun _ _ _ _ _ => (pts_one (pt_cmp (pc_dnotin hu (pv 1) (pe_fldK K rfl (pv 0) rfl))))) (fun _ _ _ _ _ => (pv 1))) rfl)
      (pss_one (ps_ret (pe_str))))) pss_nil)
      (pss_cons (ps_set (i := 1) sc_Collector_mark_one.nd rfl (by first | exact Or.inl rfl | exact Or.inr rfl) (pe_bm PySem.F.plainAttrs_list PySem.F.slot_list_pop PySem.F.type_list_pop mt_popAt (pe_fld (pv 0) rfl) (pa_cons (pe_int) pa_nil)))
      (pss_cons (ps_if (pt_cmp (pc_dnotin hu (pv 1) (pe_fld (pv 0) rfl))) (pss_cons (ps_dput hu (pe_fld (pv 0) rfl) (pv 1) (pe_bl) rfl)
      (pss_one (ps_fld (pv 0) (pe_op op_cat (pe_fld (pv 0) rfl) (pe_mt t_Store_below hr (by first | decide | omega) (pe_fld (pv 0) rfl) (pa_cons (pv 1) pa_nil))) rfl))) pss_nil)
      (pss_one (ps_ret (pe_str)))))), ?_⟩
    walk_at "lw"
    refine if2 (fun he => ?_) (fun he => ?_)
    · have he := int_eq.mp he
      have ht0 : s'.td = [] := by rw [List.length_map] at he; exact List.length_eq_zero_iff.mp (by omega)
      walk_at "lw"
      refine g_rsfld hp T.cl_Collector T.na_Collector_phase f_Collector_len fun H2 p2 k2 => ?_
      rw [f_Collector_put_phase] at p2
      have st2 : Stp (fun i => i = 6) c c H H2 := Stp.ch hp h1 (fun xs z => by cases z) p2 k2
      have m2 : H2 m = _ := (k2 m (ne_of hm hp (by intro z; cases z))).trans hm
      have t2 : H2 t = _ := (k2 t (ne_of ht hp (by intro z; cases z))).trans ht
      have d2' : H2 d = _ := (k2 d (ne_of hd hp (by intro z; cases z))).trans hd
      have W2 := W.coll ⟨dx, m, t, d, h1, p2, h3, m2, h5, t2, h7, d2', htd⟩ st2
      have s2 : H2 x.p = _ := (k2 x.p nxp.symm).trans e2
      clear hp e2 k2 hm ht hd
      walk_at "lw"
      refine ⟨c, x.p, s'.ks, s'.B, rfl, W2.st, Nat.lt_of_le_of_lt ok.kl (by decide), fun ys r H3 pe so s3 hr3 => ?_⟩
      have p3 := s3.at p2
      have m3 := s3.at m2
      refine g_ritL (SqL.of hr3) ?_
      refine lc_map (G := fun H' => SqL K H' r (ys.map V.str)) walk_list (fun H' s => SqL.of (s.at hr3)) (by rw [List.length_map, pe.length_eq]; have := ok.kl; omega) (fun v => match v with | .str z => decide (z ∉ s'.mr) | _ => false) (fun v => v) ?_ ?_
      · intro y hy H' R s4 kk
        obtain ⟨z, hz, rfl⟩ := List.mem_map.mp hy
        walk_at "lw"
        refine kk _ rfl (fun H'' R s5 r => ?_) (fun _ H'' R s5 r => ?_)
        · have p5 := s5.at p3
          have m5 := s5.at m3
          walk_at "lw"
          refine g_rdnotinS (.of m5) ?_
          rw [dec_in]
          walk_at "lw"
          have e : (!decide (z ∈ s'.mr)) = decide (z ∉ s'.mr) := by by_cases q : z ∈ s'.mr <;> simp [q]
          rw [e]
          walk_at "lw"
          exact r
        · walk_at "lw"
          exact r _ (Same.refl _)
      intro q H4 nq s4 hq
      rw [str_pred, List.map_id'] at hq
      have st3 : Stp (fun i => i = 6) c c H2 H3 := Stp.same s3
      have st4 : Stp (fun i => i = 6) c (Stp.paint c q 6) H3 H4 := L2x_sameN s4 nq
      have cq : Stp.paint c q 6 q = 6 := Stp.paint_same
      have W4 := (W2.same s3).frame (L2x_sameN (I := fun _ => False) (i := 6) (c := c) s4 nq) (fun i z => z.elim)
      have qp : q ≠ x.co := (ne_of_none p3 nq).symm
      have qt : t ≠ q := ne_of_none (s3.at t2) nq
      have p4 := s4.at p3
      have st := st2.trans (st3.trans st4)
      obtain ⟨dy, m', t', d', h1', hp', h3', hm', h5', ht', h7', hd', htd'⟩ := W4.co.ex
      have eq : HO.ins C_Collector dy (f_Collector (.ref x.p) (.str "sweep") (.ref m') (.ref t') (.ref d')) = HO.ins C_Collector dx (f_Collector (.ref x.p) (.str "sweep") (.ref m) (.ref t) (.ref d)) := Option.some.inj (hp'.symm.trans p4)
      generalize Stp.paint c q 6 = c4 at cq W4 st h1' h3' h5' h7'
      clear st2 st3 st4 W2 s3 s4 p2 m2 t2 d2' s2 p3 m3 nq hr3 h1 h3 h5 h7 htd
      walk_at "lw"
      refine g_rsfld hp' T.cl_Collector T.na_Collector_doomed f_Collector_len fun H5 p5 k5 => ?_
      rw [f_Collector_put_doomed] at p5
      have st5 : Stp (fun i => i = 6) c4 c4 H4 H5 := Stp.ch hp' h1' (fun xs z => by cases z) p5 k5
      have ett : t' = t := by
        have := (HO.ins.inj eq).2.2
        simp [f_Collector] at this
        exact this.2.1
      walk_at "lw"
      refine k c4 H5 { s' with ph := "sweep", dm := ys.filter fun a => decide (a ∉ s'.mr) } _ (fun rs => .turn ys hph ht0 pe so) (W4.coll (td := s'.td) (mk := s'.mr) ⟨dy, m', t', q, h1', p5, h3', by rw [k5 m' (ne_of hm' hp' (by intro z; cases z))]; exact hm', h5', by rw [k5 t' (ne_of ht' hp' (by intro z; cases z))]; exact ht', cq, by rw [k5 q qp]; exact hq, by rw [ett]; exact qt⟩ st5) ((st.trans st5).mono ic6)
    · obtain ⟨a, l, hal⟩ : ∃ a l, s'.td = a :: l := by
        cases e : s'.td with
        | nil => rw [e] at he; exact absurd rfl he
        | cons a l => exact ⟨a, l, rfl⟩
      have tl := ok.tl
      have ma := ok.tk hph a (by rw [hal]; exact List.mem_cons_self)
      walk_at "lw"
      refine g_tyL ht ?_
      walk_at "lw"
      refine g_popAt (i := 0) ht (y := .str a) (by rw [hal]; rfl) (by rw [List.length_map]; omega) fun H2 t2 k2 => ?_
      rw [hal] at t2
      have t2 : H2 t = some (.lst (l.map V.str)) := t2
      have st2 : Stp (fun i => i = 6) c c H H2 := Stp.ch ht h5 (fun xs z => by cases z) t2 k2
      have p2 : H2 x.co = _ := (k2 x.co (ne_of hp ht (by intro z; cases z))).trans hp
      have m2 : H2 m = _ := (k2 m (ne_of hm ht (by intro z; cases z))).trans hm
      have d2' : H2 d = _ := (k2 d htd.symm).trans hd
      have s2 : H2 x.p = _ := (k2 x.p (ne_of e2 ht (by intro z; cases z))).trans e2
      have W2 := W.coll (td := l) ⟨dx, m, t, d, h1, p2, h3, m2, h5, t2, h7, d2', htd⟩ st2
      clear hp e2 k2 hm ht hd
      walk_at "lw"
      refine g_rdnotinS (.of m2) ?_
      rw [dec_in]
      walk_at "lw"
      refine ifn2 (fun hmr => ?_) (fun hmr => ?_)
      · walk_at "lw"
        exact k c H2 _ _ (fun rs => .skip a l hph hal hmr) W2 (st2.mono ic6)
      · walk_at "lw"
        refine g_rdputS m2 (by rw [mkS_len]; have := ok.ml; omega) fun H3 m3 k3 => ?_
        rw [putK_S, show (fun j : Str => if j = a then V.bl true else V.bl true) = (fun _ : Str => V.bl true) from funext fun j => ite_self _] at m3
        have emr : putS s'.mr a = s'.mr ++ [a] := if_neg hmr
        rw [emr] at m3
        have st3 : Stp (fun i => i = 6) c c H2 H3 := Stp.ch m2 h3 (fun xs z => by cases z) m3 k3
        have p3 : H3 x.co = _ := (k3 x.co (ne_of p2 m2 (by intro z; cases z))).trans p2
        have t3 : H3 t = _ := (k3 t (ne_of t2 m2 (by intro z; cases z))).trans t2
        have d3' : H3 d = _ := (k3 d (ne_of d2' m2 (by intro z; cases z))).trans d2'
        have s3 : H3 x.p = _ := (k3 x.p (ne_of s2 m2 (by intro z; cases z))).trans s2
        have W3 := W2.coll (mk := s'.mr ++ [a]) (td := l) ⟨dx, m, t, d, h1, p3, h3, m3, h5, t3, h7, d3', htd⟩ st3
        have st := st2.trans st3
        clear st2 st3 p2 m2 t2 d2' s2 k3 W2
        walk_at "lw"
        refine ⟨c, x.p, s'.ks, s'.B, a, rfl, W3.st, ok.sw, ma, fun r H4 s4 hr4 => ?_⟩
        walk_at "lw"
        have rl := refs_len (ok.sw.ok a ma)
        have ll : l.length + 1 ≤ 50000 := by have e := congrArg List.length hal; rw [List.length_cons] at e; omega
        refine g_cat (s4.at t3) hr4 (by rw [List.length_map, List.length_map]; omega) fun q H5 nq s5 hq => ?_
        have hq : H5 q = some (.lst ((l ++ (s'.B a).refs.map SX.S).map V.str)) := by
          rw [hq, List.map_append, List.map_map]
          rfl
        have s45 := s4.trans s5
        have st5 : Stp (fun i => i = 6) c (Stp.paint c q 6) H3 H5 := (Stp.same s4).trans (L2x_sameN s5 nq)
        have cq : Stp.paint c q 6 q = 6 := Stp.paint_same
        have W5 := (W3.same s4).frame (L2x_sameN (I := fun _ => False) (i := 6) (c := c) s5 nq) (fun i z => z.elim)
        have p5 := s45.at p3
        have m5 := s45.at m3
        have d5' := s45.at d3'
        have qp : q ≠ x.co := (ne_of_none (s4.at p3) nq).symm
        have qd : q ≠ d := (ne_of_none (s4.at d3') nq).symm
        have c1 : Stp.paint c q 6 x.co = 6 := by rw [st5.col _ _ p3, h1]
        have c3 : Stp.paint c q 6 m = 6 := by rw [st5.col _ _ m3, h3]
        have c7 : Stp.paint c q 6 d = 6 := by rw [st5.col _ _ d3', h7]
        generalize Stp.paint c q 6 = c5 at cq W5 st5 c1 c3 c7
        have st := st.trans st5
        clear st5 s45 s4 s5 p3 m3 t3 d3' s3 W3 nq hr4
        walk_at "lw"
        refine g_rsfld p5 T.cl_Collector T.na_Collector_todo f_Collector_len fun H6 p6 k6 => ?_
        rw [f_Collector_put_todo] at p6
        have st6 : Stp (fun i => i = 6) c5 c5 H5 H6 := Stp.ch p5 c1 (fun xs z => by cases z) p6 k6
        walk_at "lw"
        refine k c5 H6 { s' with mr := s'.mr ++ [a], td := l ++ (s'.B a).refs.map SX.S } _ (fun rs => .mark a l hph hal hmr) (W5.coll ⟨dx, m, q, d, c1, p6, c3, by rw [k6 m (ne_of m5 p5 (by intro z; cases z))]; exact m5, cq, by rw [k6 q qp]; exact hq, c7, by rw [k6 d (ne_of d5' p5 (by intro z; cases z))]; exact d5', qd⟩ st6) ((st.trans st6).mono ic6)
theorem ok_Collector_sweep_one (T : Txt w K mg C_Claims C_Collector C_Store C_Uploads C_Registry C_Refused C_Malformed a_KINDS a_BELOW a_CLAIMED) : Met P w K mg base 2 C_Collector "sweep_one" (spSweep C_Store C_Claims C_Uploads C_Collector C_Registry) := by
  have t_Collector_stop : Met P w K mg base 1 C_Collector "stop" (spStop C_Store C_Claims C_Uploads C_Collector C_Registry) := ok_Collector_stop T
  have t_Store_remove_blob : Met P w K mg base 1 C_Store "remove_blob" (spRemove C_Store) := ok_Store_remove_blob T
  refine met_mk T.cl_Collector T.m_Collector_sweep_one sc_Collector_sweep_one (fun vs H Q E h => ?_) (fun f cdv A outer s H vs Q E hr h => ?_)
  · obtain ⟨c, x, s, rfl, _⟩ := h
    rfl
  · obtain ⟨c, x, s', rfl, W, ok, hph, k⟩ := h
    have hu := hu_of hr
    obtain ⟨d1, d2, d3, d4, d5, v1, v2, v3, v4, v5, v6, v7, v8, e1, e2, e3, e4, e5, e6⟩ := W.hs
    clear e1 e3 e4 e5 e6
    obtain ⟨dx, m, t, d, h1, hp, h3, hm, h5, ht, h7, hd, htd⟩ := W.co.ex
    refine ⟨_, (pss_cons (ps_if (pt_cmpR op_eq (pe_callB call_len_seq' (by rfl) T.n_len (by decide +kernel) (pa_cons (pe_fld (pv 0) rfl) pa_nil)) (pe_int) (nomark _)) (pss_cons (ps_expr (pe_mt0 t_Collector_stop hr (by first | decide | omega) (pv 0)))
      (pss_one (ps_ret (pe_str)))) pss_nil)
      (pss_cons (ps_set (i := 1) sc_Collector_sweep_one.nd rfl (by first | exact Or.inl rfl | exact Or.inr rfl) (pe_bm PySem.F.plainAttrs_list PySem.F.slot_list_pop PySem.F.type_list_pop mt_popAt (pe_fld (pv 0) rfl) (pa_cons (pe_int) pa_nil)))
      (pss_cons (ps_if (pt_cmp (pc_dnotin hu (pv 1) (pe_fld (pv 0) rfl))) (pss_one (ps_expr (pe_mt t_Store_remove_blob hr (by first | decide | omega) (pe_fld (pv 0) rfl) (pa_cons (pv 1) pa_nil)))) pss_nil)
      (pss_one (ps_ret (pe_str)))))), ?_⟩
    walk_at "lw"
    refine if2 (fun he => ?_) (fun he => ?_)
    · have he := int_eq.mp he
      have hd0 : s'.dm = [] := by rw [List.length_map] at he; exact List.length_eq_zero_iff.mp (by omega)
      walk_at "lw"
      refine ⟨c, x, s', rfl, W, fun c' H' W' st => ?_⟩
      walk_at "lw"
      exact k c' H' _ _ (fun rs => .fin hph hd0) W' (st.mono ic6)
    · obtain ⟨a, l, hal⟩ : ∃ a l, s'.dm = a :: l := by
        cases e : s'.dm with
        | nil => rw [e] at he; exact absurd rfl he
        | cons a l => exact ⟨a, l, rfl⟩
      have ma := ok.dk hph a (by rw [hal]; exact List.mem_cons_self)
      walk_at "lw"
      refine g_tyL hd ?_
      walk_at "lw"
      refine g_popAt (i := 0) hd (y := .str a) (by rw [hal]; rfl) (by rw [List.length_map]; have := ok.dl; omega) fun H2 d2' k2 => ?_
      rw [hal] at d2'
      have d2' : H2 d = some (.lst (l.map V.str)) := d2'
      have st2 : Stp (fun i => i = 6) c c H H2 := Stp.ch hd h7 (fun xs z => by cases z) d2' k2
      have p2 : H2 x.co = _ := (k2 x.co (ne_of hp hd (by intro z; cases z))).trans hp
      have m2 : H2 m = _ := (k2 m (ne_of hm hd (by intro z; cases z))).trans hm
      have t2 : H2 t = _ := (k2 t htd).trans ht
      have s2 : H2 x.p = _ := (k2 x.p (ne_of e2 hd (by intro z; cases z))).trans e2
      have W2 := W.coll (dm := l) ⟨dx, m, t, d, h1, p2, h3, m2, h5, t2, h7, d2', htd⟩ st2
      clear hp e2 k2 hm ht hd
      walk_at "lw"
      refine g_rdnotinS (.of m2) ?_
      rw [dec_in]
      walk_at "lw"
      refine ifn2 (fun hmr => ?_) (fun hmr => ?_)
      · walk_at "lw"
        exact k c H2 _ _ (fun rs => .leave a l hph hal hmr) W2 (st2.mono ic6)
      · walk_at "lw"
        refine ⟨c, x.p, s'.ks, s'.B, a, rfl, W2.st, ma, fun H3 S3 st3 => ?_⟩
        walk_at "lw"
        exact k c H3 { s' with ks := s'.ks.filter fun j => decide (j ≠ a), dm := l } _ (fun rs => .drop a l hph hal hmr) (W2.store S3 st3) ((st2.mono ic6).trans (st3.mono ic1))
theorem ok_Collector_step (T : Txt w K mg C_Claims C_Collector C_Store C_Uploads C_Registry C_Refused C_Malformed a_KINDS a_BELOW a_CLAIMED) : Met P w K mg base 8 C_Collector "step" (spStep C_Store C_Claims C_Uploads C_Collector C_Registry) := by
  have t_Collector_mark_one : Met P w K mg base 7 C_Collector "mark_one" (spMark C_Store C_Claims C_Uploads C_Collector C_Registry) := ok_Collector_mark_one T
  have t_Collector_sweep_one : Met P w K mg base 2 C_Collector "sweep_one" (spSweep C_Store C_Claims C_Uploads C_Collector C_Registry) := ok_Collector_sweep_one T
  refine met_mk T.cl_Collector T.m_Collector_step sc_Collector_step (fun vs H Q E h => ?_) (fun f cdv A outer s H vs Q E hr h => ?_)
  · obtain ⟨c, x, s, p, rs, rfl, _⟩ := h
    rfl
  · obtain ⟨c, x, s', p, rs, rfl, hrs, hrl, W, ok, k⟩ := h
    have hu := hu_of hr
    obtain ⟨dx, m, t, d, h1, hp, h3, hm, h5, ht, h7, hd, htd⟩ := W.co.ex
    refine ⟨_, (pss_cons (ps_if (pt_cmpR op_eq (pe_fld (pv 0) rfl) (pe_str) (nomark _)) (pss_cons (ps_fld (pv 0) (pe_str) rfl)
      (pss_cons (ps_fld (pv 0) (pe_callTy call_list_of (by rfl) T.n_list (by decide +kernel) (pa_cons (pv 1) pa_nil)) rfl)
      (pss_one (ps_ret (pe_str))))) pss_nil)
      (pss_cons (ps_if (pt_cmpR op_eq (pe_fld (pv 0) rfl) (pe_str) (nomark _)) (pss_one (ps_ret (pe_mt0 t_Collector_mark_one hr (by first | decide | omega) (pv 0)))) pss_nil)
      (pss_one (ps_ret (pe_mt0 t_Collector_sweep_one hr (by first | decide | omega) (pv 0)))))), ?_⟩
    walk_at "lw"
    refine if2 (fun he => ?_) (fun he => ?_)
    · have he := str_eq.mp he
      walk_at "lw"
      refine g_rsfld hp T.cl_Collector T.na_Collector_phase f_Collector_len fun H2 p2 k2 => ?_
      rw [f_Collector_put_phase] at p2
      have st2 : Stp (fun i => i = 6) c c H H2 := Stp.ch hp h1 (fun xs z => by cases z) p2 k2
      have m2 : H2 m = _ := (k2 m (ne_of hm hp (by intro z; cases z))).trans hm
      have t2 : H2 t = _ := (k2 t (ne_of ht hp (by intro z; cases z))).trans ht
      have d2' : H2 d = _ := (k2 d (ne_of hd hp (by intro z; cases z))).trans hd
      have r2 : H2 p = _ := (k2 p (ne_of hrs hp (by intro z; cases z))).trans hrs
      have W2 := W.coll ⟨dx, m, t, d, h1, p2, h3, m2, h5, t2, h7, d2', htd⟩ st2
      clear hp k2 hm ht hd hrs
      walk_at "lw"
      refine ⟨p, _, rfl, .inl (SqL.of r2), fun q nq => ?_⟩
      have s3 : Same H2 (upd H2 q (.lst (rs.map V.str))) := Same.new nq
      have q3 : (upd H2 q (.lst (rs.map V.str))) q = some (.lst (rs.map V.str)) := upd_same
      generalize upd H2 q (.lst (rs.map V.str)) = H3 at s3 q3
      have st3 : Stp (fun i => i = 6) c (Stp.paint c q 6) H2 H3 := L2x_sameN s3 nq
      have cq : Stp.paint c q 6 q = 6 := Stp.paint_same
      have W3 := W2.frame (L2x_sameN (I := fun _ => False) (i := 6) (c := c) s3 nq) (fun i z => z.elim)
      have p3 := s3.at p2
      have m3 := s3.at m2
      have d3' := s3.at d2'
      have qp : q ≠ x.co := (ne_of_none p2 nq).symm
      have qd : q ≠ d := (ne_of_none d2' nq).symm
      have c1 : Stp.paint c q 6 x.co = 6 := by rw [st3.col _ _ p2, h1]
      have c3 : Stp.paint c q 6 m = 6 := by rw [st3.col _ _ m2, h3]
      have c7 : Stp.paint c q 6 d = 6 := by rw [st3.col _ _ d2', h7]
      generalize Stp.paint c q 6 = c5 at cq W3 st3 c1 c3 c7
      have st := st2.trans st3
      clear st2 st3 p2 m2 t2 d2' W2 nq s3 r2
      walk_at "lw"
      refine g_rsfld p3 T.cl_Collector T.na_Collector_todo f_Collector_len fun H6 p6 k6 => ?_
      rw [f_Collector_put_todo] at p6
      have st6 : Stp (fun i => i = 6) c5 c5 H3 H6 := Stp.ch p3 c1 (fun xs z => by cases z) p6 k6
      walk_at "lw"
      exact k c5 H6 { s' with ph := "mark", td := rs } _ (.begin he) (W3.coll ⟨dx, m, q, d, c1, p6, c3, by rw [k6 m (ne_of m3 p3 (by intro z; cases z))]; exact m3, cq, by rw [k6 q qp]; exact q3, c7, by rw [k6 d (ne_of d3' p3 (by intro z; cases z))]; exact d3', qd⟩ st6) ((st.trans st6).mono ic6)
    · walk_at "lw"
      have he : ¬ s'.ph = "idle" := fun z => he (by rw [z])
      refine if2 (fun he2 => ?_) (fun he2 => ?_)
      · have he2 := str_eq.mp he2
        walk_at "lw"
        refine ⟨c, x, s', rfl, W, ok, he2, fun c' H' s2 w a b st => ?_⟩
        walk_at "lw"
        exact k c' H' s2 w (a rs) b st
      · have he2 : ¬ s'.ph = "mark" := fun z => he2 (by rw [z])
        walk_at "lw"
        refine ⟨c, x, s', rfl, W, ok, (ok.ph.resolve_left he).resolve_left he2, fun c' H' s2 w a b st => ?_⟩
        walk_at "lw"
        exact k c' H' s2 w (a rs) b st
end
section
variable (CS CC CU CO CR : Addr)
def spCollect : Sp := fun vs H Q _ => ∃ (c : Addr → Nat) (x : Rx) (s : Rg) (D : List Str), vs = [.ref x.R] ∧ RegAt CS CC CU CO CR c H x s ∧ (∀ y, isRoot s y → y ∈ D) ∧ D.length < 64 ∧ s.nk.length ≤ 900 ∧ StepOk s ∧ ∀ c' H' s' w (rs : List Str), rs.Nodup → (∀ y, y ∈ rs ↔ isRoot s y) → CStep rs s s' w → RegAt CS CC CU CO CR c' H' x s' → Stp ICo c c' H H' → Q (.str w) H'
end
section
variable {P : Program} {w : World} {K : PySem.W.Frag} {mg : Str → Option Value} {base : Heap} {C_Claims C_Collector C_Store C_Uploads C_Registry C_Refused C_Malformed a_KINDS a_BELOW a_CLAIMED : Addr}
theorem ok_Registry_collect (T : Txt w K mg C_Claims C_Collector C_Store C_Uploads C_Registry C_Refused C_Malformed a_KINDS a_BELOW a_CLAIMED) : Met P w K mg base 9 C_Registry "collect" (spCollect C_Store C_Claims C_Uploads C_Collector C_Registry) := by
  have t_Registry_roots : Met P w K mg base 2 C_Registry "roots" (spRoots C_Store C_Claims C_Uploads C_Collector C_Registry) := ok_Registry_roots T
  have t_Collector_step : Met P w K mg base 8 C_Collector "step" (spStep C_Store C_Claims C_Uploads C_Collector C_Registry) := ok_Collector_step T
  refine met_mk T.cl_Registry T.m_Registry_collect sc_Registry_collect (fun vs H Q E h => ?_) (fun f cdv A outer s H vs Q E hr h => ?_)
  · obtain ⟨c, x, s, D, rfl, _⟩ := h
    rfl
  · obtain ⟨c, x, s', D, rfl, W, hD, hDl, hnl, ok, k⟩ := h
    have hu := hu_of hr
    obtain ⟨d1, d2, d3, d4, d5, v1, v2, v3, v4, v5, v6, v7, v8, e1, e2, e3, e4, e5, e6⟩ := W.hs
    refine ⟨_, (pss_one (ps_ret (pe_mt t_Collector_step hr (by first | decide | omega) (pe_fld (pv 0) rfl) (pa_cons (pe_mt0 t_Registry_roots hr (by first | decide | omega) (pv 0)) pa_nil)))), ?_⟩
    walk_at "lw"
    refine ⟨c, x, s', D, rfl, W, hD, hDl, hnl, fun p rs H2 nd so hm s2 hp => ?_⟩
    have hl : rs.length ≤ D.length := few_len nd fun y hy => hD y ((hm y).mp hy)
    walk_at "lw"
    refine ⟨c, x, s', p, rs, rfl, hp, by omega, W.same s2, ok, fun c' H' s3 w cs W' st => ?_⟩
    walk_at "lw"
    exact k c' H' s3 w rs nd hm cs W' ((Stp.same s2).trans st)
end
end Lw

/-! ## the law's invariant, no program in sight -/
namespace Lw
open PySem L2
open PyProof.Rows (envOfC sortedS)
structure GOk (G : List Bl) : Prop where
  ok : ∀ b ∈ G, b.Ok
  inj : ∀ b ∈ G, ∀ b' ∈ G, adrB b = adrB b' → b = b'
  len : G.length ≤ 20
  rl : ∀ b ∈ G, b.refs.length ≤ 3
/-- a store of goods -/
structure SG (G : List Bl) (ks : List Str) (B : Str → Bl) : Prop where
  nd : ks.Nodup
  g : ∀ a ∈ ks, B a ∈ G
  a : ∀ a ∈ ks, adrB (B a) = a
theorem wh_mono {ks ks' : List Str} {B B' : Str → Bl} (h : ∀ x ∈ ks, x ∈ ks' ∧ B' x = B x) : ∀ (n : Nat) (a : Str), wh ks B n a = true → wh ks' B' n a = true
  | 0, a, z => by cases z
  | n + 1, a, z => by
    unfold wh at z ⊢
    rw [Bool.and_eq_true, decide_eq_true_eq, List.all_eq_true] at z ⊢
    obtain ⟨h1, h2⟩ := h a z.1
    refine ⟨h1, fun r hr => ?_⟩
    rw [h2] at hr ⊢
    have y := z.2 r hr
    rw [Bool.and_eq_true, Bool.and_eq_true, decide_eq_true_eq, decide_eq_true_eq] at y ⊢
    obtain ⟨h3, h4⟩ := h _ y.1
    exact ⟨h3, by rw [h4]; exact y.2.1, wh_mono h n _ y.2.2⟩
theorem wh_cut {ks ks' : List Str} {B : Str → Bl} {M : Str → Prop} (h : ∀ a, M a → a ∈ ks' ∧ ∀ r ∈ (B a).refs, M (SX.S r)) : ∀ (n : Nat) (a : Str), M a → wh ks B n a = true → wh ks' B n a = true
  | 0, a, _, z => by cases z
  | n + 1, a, m, z => by
    unfold wh at z ⊢
    rw [Bool.and_eq_true, decide_eq_true_eq, List.all_eq_true] at z ⊢
    refine ⟨(h a m).1, fun r hr => ?_⟩
    have y := z.2 r hr
    have mr := (h a m).2 r hr
    rw [Bool.and_eq_true, Bool.and_eq_true, decide_eq_true_eq, decide_eq_true_eq] at y ⊢
    exact ⟨(h _ mr).1, y.2.1, wh_cut h n _ mr y.2.2⟩
theorem wh_ref {ks : List Str} {B : Str → Bl} {n : Nat} {a : Str} (z : wh ks B (n + 1) a = true) : ∀ r ∈ (B a).refs, SX.S r ∈ ks ∧ (B a).k.lo = some (B (SX.S r)).k ∧ wh ks B n (SX.S r) = true := fun r hr => by
  unfold wh at z
  rw [Bool.and_eq_true, List.all_eq_true] at z
  have y := z.2 r hr
  rw [Bool.and_eq_true, Bool.and_eq_true, decide_eq_true_eq, decide_eq_true_eq] at y
  exact y
theorem wh_mk {ks : List Str} {B : Str → Bl} {n : Nat} {a : Str} (h : a ∈ ks) (hr : ∀ r ∈ (B a).refs, SX.S r ∈ ks ∧ (B a).k.lo = some (B (SX.S r)).k ∧ wh ks B n (SX.S r) = true) : wh ks B (n + 1) a = true := by
  unfold wh
  rw [Bool.and_eq_true, decide_eq_true_eq, List.all_eq_true]
  refine ⟨h, fun r q => ?_⟩
  obtain ⟨h1, h2, h3⟩ := hr r q
  rw [Bool.and_eq_true, Bool.and_eq_true, decide_eq_true_eq, decide_eq_true_eq]
  exact ⟨h1, h2, h3⟩
theorem wh_up {ks : List Str} {B : Str → Bl} : ∀ (n : Nat) (a : Str), wh ks B n a = true → wh ks B (n + 1) a = true
  | 0, a, z => by cases z
  | n + 1, a, z => wh_mk (wh_in z) fun r hr => by
    obtain ⟨h1, h2, h3⟩ := wh_ref z r hr
    exact ⟨h1, h2, wh_up n _ h3⟩
theorem wh_dn {ks : List Str} {B : Str → Bl} : ∀ (m n : Nat) (a : Str), wh ks B n a = true → (B a).k.rk ≤ m → wh ks B (m + 1) a = true
  | m, 0, a, z, _ => by cases z
  | m, n + 1, a, z, h => wh_mk (wh_in z) fun r hr => by
    obtain ⟨h1, h2, h3⟩ := wh_ref z r hr
    have := Kd.lo_rk h2
    cases m with
    | zero => omega
    | succ m => exact ⟨h1, h2, wh_dn m n _ h3 (by omega)⟩
theorem wh3 {ks : List Str} {B : Str → Bl} {n : Nat} {a : Str} (z : wh ks B n a = true) : wh ks B 3 a = true := wh_dn 2 n a z (Kd.rk2 _)
theorem mem_clo {B : Str → Bl} {n : Nat} {a y : Str} : y ∈ clo B (n + 1) a ↔ y = a ∨ ∃ r ∈ (B a).refs, y ∈ clo B n (SX.S r) := by
  show y ∈ (B a).refs.foldl (fun f r => (clo B n (SX.S r)).foldl addD f) [a] ↔ _
  have : ∀ (rs : List (List Nat)) (f : List Str), y ∈ rs.foldl (fun f r => (clo B n (SX.S r)).foldl addD f) f ↔ y ∈ f ∨ ∃ r ∈ rs, y ∈ clo B n (SX.S r) := by
    intro rs
    induction rs with
    | nil => intro f; simp
    | cons r rs ih =>
      intro f
      rw [List.foldl_cons, ih, mem_foldl_addD]
      constructor
      · rintro ((h | h) | ⟨q, hq, h⟩)
        · exact .inl h
        · exact .inr ⟨r, List.mem_cons_self, h⟩
        · exact .inr ⟨q, List.mem_cons_of_mem _ hq, h⟩
      · rintro (h | ⟨q, hq, h⟩)
        · exact .inl (.inl h)
        · rcases List.mem_cons.mp hq with z | z
          · subst z; exact .inl (.inr h)
          · exact .inr ⟨q, z, h⟩
  rw [this, List.mem_singleton]
theorem clo_self {B : Str → Bl} {n : Nat} {a : Str} : a ∈ clo B n a := by
  cases n with
  | zero => exact List.mem_singleton.mpr rfl
  | succ n => exact mem_clo.mpr (.inl rfl)
theorem clo_refs {ks : List Str} {B : Str → Bl} : ∀ {n : Nat} {a : Str}, wh ks B (n + 1) a = true → ∀ y ∈ clo B n a, wh ks B 3 y = true ∧ ∀ r ∈ (B y).refs, SX.S r ∈ clo B n a
  | 0, a, z, y, hy => by
    rw [List.mem_singleton.mp hy]
    refine ⟨wh3 z, fun r hr => ?_⟩
    have := (wh_ref z r hr).2.2
    cases this
  | n + 1, a, z, y, hy => by
    rcases mem_clo.mp hy with e | ⟨r, hr, h⟩
    · subst e
      exact ⟨wh3 z, fun r hr => mem_clo.mpr (.inr ⟨r, hr, clo_self⟩)⟩
    · obtain ⟨h1, h2⟩ := clo_refs (wh_ref z r hr).2.2 y h
      exact ⟨h1, fun q hq => mem_clo.mpr (.inr ⟨r, hr, h2 q hq⟩)⟩
abbrev Wo (s : Rg) (a : Str) : Prop := wh s.ks s.B 3 a = true
/-- the collector's colours -/
inductive Col (s : Rg) : Prop
  | idle (h : s.ph = "idle") (m : s.mr = []) : Col s
  | mark (h : s.ph = "mark") (m : ∀ a ∈ s.mr, Wo s a ∧ ∀ r ∈ (s.B a).refs, SX.S r ∈ s.mr ∨ SX.S r ∈ s.td) (t : ∀ a ∈ s.td, Wo s a) (r : ∀ y, isRoot s y → y ∈ s.mr ∨ y ∈ s.td) : Col s
  | sweep (h : s.ph = "sweep") (m : ∀ a ∈ s.mr, Wo s a ∧ ∀ r ∈ (s.B a).refs, SX.S r ∈ s.mr) (r : ∀ y, isRoot s y → y ∈ s.mr) (dn : s.dm.Nodup) (dk : ∀ a ∈ s.dm, a ∈ s.ks) : Col s
structure J (G : List Bl) (m : Nat) (s : Rg) : Prop where
  sg : SG G s.ks s.B
  cle : ∀ k ∈ s.cs, 1 ≤ k ∧ k ≤ s.n
  cl : s.cs.length ≤ m
  cn : s.cs.Nodup
  n0 : 0 ≤ s.n ∧ s.n ≤ m
  Ll : ∀ j, (s.L j).length ≤ m
  ule : ∀ k ∈ s.ts, k ≤ s.un
  ul : s.ts.length ≤ m
  Xl : ∀ j, (s.X j).length ≤ 3 * m ∧ okC (s.X j)
  nl : s.nk.length ≤ m
  nn : s.nk.Nodup
  rt : ∀ y, isRoot s y → Wo s y
  nm : ∀ n ∈ s.nk, (s.B (s.N n)).k ≠ .lay
  mn : s.mr.Nodup
  tl : s.td.length ≤ 100 + 3 * m
  dl : s.dm.length ≤ 1000
  co : Col s
theorem J.zero {G : List Bl} : J G 0 Rg0 := by
  have nr : ∀ y, ¬ isRoot Rg0 y := fun y hy => by
    rcases hy with ⟨j, hj, _⟩ | ⟨a, ha, _⟩
    · cases hj
    · cases ha
  exact ⟨⟨List.nodup_nil, (fun a ha => nomatch ha), fun a ha => nomatch ha⟩, (fun a ha => nomatch ha), Nat.le_refl _, List.nodup_nil, ⟨Int.le_refl _, Int.le_refl _⟩, fun _ => Nat.le_refl _, (fun a ha => nomatch ha), Nat.le_refl _, fun _ => ⟨Nat.zero_le _, fun c hc => nomatch hc⟩, Nat.le_refl _, List.nodup_nil, fun y hy => (nr y hy).elim, (fun a ha => nomatch ha), List.nodup_nil, Nat.zero_le _, Nat.zero_le _, .idle rfl rfl⟩
theorem SG.len {G : List Bl} {ks : List Str} {B : Str → Bl} (h : SG G ks B) : ks.length ≤ G.length := by
  have := few_len (ks := G.map adrB) h.nd fun a ha => List.mem_map.mpr ⟨B a, h.g a ha, h.a a ha⟩
  rwa [List.length_map] at this
theorem SG.swf {G : List Bl} {ks : List Str} {B : Str → Bl} (g : GOk G) (h : SG G ks B) : SWf ks B := ⟨h.nd, fun a ha => g.ok _ (h.g a ha)⟩
theorem SG.is {G : List Bl} {ks : List Str} {B : Str → Bl} (g : GOk G) (h : SG G ks B) {b : Bl} (hb : b ∈ G) (ha : adrB b ∈ ks) : B (adrB b) = b := g.inj _ (h.g _ ha) _ hb (h.a _ ha)
theorem J.mrl {G : List Bl} {m : Nat} {s : Rg} (g : GOk G) (h : J G m s) : s.mr.length ≤ 20 := by
  have q : ∀ a ∈ s.mr, a ∈ s.ks := by
    cases h.co with
    | idle _ m => rw [m]; intro a ha; cases ha
    | mark _ m _ _ => exact fun a ha => wh_in (m a ha).1
    | sweep _ m _ _ _ => exact fun a ha => wh_in (m a ha).1
  have h1 := few_len h.mn q
  have h2 := h.sg.len
  have h3 := g.len
  omega
theorem J.rwf {G : List Bl} {m : Nat} {s : Rg} (g : GOk G) (h : J G m s) (hm : m ≤ 600) : RWf s :=
  ⟨h.sg.swf g, by have := h.sg.len; have := g.len; omega, fun k hk => (h.cle k hk).2, by have := h.cl; omega, fun j => by have := h.Ll j; omega, h.ule, by have := h.ul; omega, fun j => ⟨by have := (h.Xl j).1; omega, (h.Xl j).2⟩, by have := h.nl; omega, h.cn, h.nn⟩
theorem J.stepOk {G : List Bl} {m : Nat} {s : Rg} (g : GOk G) (h : J G m s) (hm : m ≤ 600) : StepOk s := by
  refine ⟨?_, h.sg.swf g, by have := h.sg.len; have := g.len; omega, by have := h.tl; omega, fun hp => ?_, fun hp => ?_, h.dl, by have := h.mrl g; omega⟩
  · cases h.co with
    | idle h _ => exact .inl h
    | mark h _ _ _ => exact .inr (.inl h)
    | sweep h _ _ _ _ => exact .inr (.inr h)
  · cases h.co with
    | idle h _ => rw [hp] at h; exact absurd h (by decide +kernel)
    | mark h _ t _ => exact fun a ha => wh_in (t a ha)
    | sweep h _ _ _ _ => rw [hp] at h; exact absurd h (by decide +kernel)
  · cases h.co with
    | idle h _ => rw [hp] at h; exact absurd h (by decide +kernel)
    | mark h _ _ _ => rw [hp] at h; exact absurd h (by decide +kernel)
    | sweep h _ _ _ dk => exact dk
theorem J.mono {G : List Bl} {m m' : Nat} {s : Rg} (h : J G m s) (hm : m ≤ m') : J G m' s :=
  ⟨h.sg, h.cle, Nat.le_trans h.cl hm, h.cn, ⟨h.n0.1, by have := h.n0.2; omega⟩, fun j => Nat.le_trans (h.Ll j) hm, h.ule, Nat.le_trans h.ul hm, fun j => ⟨by have := (h.Xl j).1; omega, (h.Xl j).2⟩, Nat.le_trans h.nl hm, h.nn, h.rt, h.nm, h.mn, by have := h.tl; omega, h.dl, h.co⟩
theorem root_in {G : List Bl} {m : Nat} {s : Rg} (h : J G m s) {y : Str} (hy : isRoot s y) : y ∈ s.ks := wh_in (h.rt y hy)
/-- a blob of the goods is stored -/
theorem sto_same {G : List Bl} {ks : List Str} {B : Str → Bl} (g : GOk G) (h : SG G ks B) {b : Bl} (hb : b ∈ G) : ∀ x ∈ ks, x ∈ putS ks (adrB b) ∧ updB B (adrB b) b x = B x := fun x hx => by
  refine ⟨mem_putS.mpr (.inl hx), ?_⟩
  by_cases e : x = adrB b
  · subst e
    rw [updB_same, h.is g hb hx]
  · rw [updB_ne e]
theorem SG.sto {G : List Bl} {ks : List Str} {B : Str → Bl} (h : SG G ks B) {b : Bl} (hb : b ∈ G) : SG G (putS ks (adrB b)) (updB B (adrB b) b) := by
  refine ⟨putS_nd h.nd, fun x hx => ?_, fun x hx => ?_⟩
  · by_cases e : x = adrB b
    · subst e; rw [updB_same]; exact hb
    · rw [updB_ne e]; exact h.g x ((mem_putS.mp hx).resolve_right e)
  · by_cases e : x = adrB b
    · subst e; rw [updB_same]
    · rw [updB_ne e]; exact h.a x ((mem_putS.mp hx).resolve_right e)
theorem J.sto {G : List Bl} {m : Nat} {s : Rg} (g : GOk G) (h : J G m s) {b : Bl} (hb : b ∈ G) : J G m (sto s b) := by
  have q := sto_same g h.sg hb
  have w : ∀ a, Wo s a → Wo (Lw.sto s b) a := fun a z => wh_mono q 3 a z
  have e : ∀ a, Wo s a → (Lw.sto s b).B a = s.B a := fun a z => (q a (wh_in z)).2
  refine ⟨h.sg.sto hb, h.cle, h.cl, h.cn, h.n0, h.Ll, h.ule, h.ul, h.Xl, h.nl, h.nn, fun y hy => w y (h.rt y hy), fun n hn => ?_, h.mn, h.tl, h.dl, ?_⟩
  · show ((Lw.sto s b).B (s.N n)).k ≠ .lay
    rw [e _ (h.rt _ (.inr ⟨n, hn, rfl⟩))]
    exact h.nm n hn
  · cases h.co with
    | idle h m => exact .idle h m
    | mark hp m t r => exact .mark hp (fun a ha => ⟨w a (m a ha).1, fun r hr => (m a ha).2 r (by rw [← e a (m a ha).1]; exact hr)⟩) (fun a ha => w a (t a ha)) r
    | sweep hp m r dn dk => exact .sweep hp (fun a ha => ⟨w a (m a ha).1, fun r hr => (m a ha).2 r (by rw [← e a (m a ha).1]; exact hr)⟩) r dn fun a ha => (q a (dk a ha)).1
theorem pin_root {s : Rg} {c : Int} {a y : Str} (h : isRoot (keepR s c a).1 y) : isRoot s y ∨ y = a := by
  rcases h with ⟨j, hj, hy⟩ | hy
  · have hy : y ∈ (if j = c then s.L c ++ [a] else s.L j) := hy
    split at hy
    · rename_i e
      rcases List.mem_append.mp hy with z | z
      · exact .inl (.inl ⟨j, hj, by rw [e]; exact z⟩)
      · exact .inr (List.mem_singleton.mp z)
    · exact .inl (.inl ⟨j, hj, hy⟩)
  · exact .inl (.inr hy)
theorem J.keep {G : List Bl} {m : Nat} {s : Rg} (h : J G m s) (c : Int) {a : Str} (hw : Wo s a) : J G (m + 1) (keepR s c a).1 := by
  have h' := h.mono (Nat.le_succ m)
  refine ⟨h.sg, h.cle, h'.cl, h.cn, h'.n0, fun j => ?_, h.ule, h'.ul, h'.Xl, h'.nl, h.nn, fun y hy => ?_, h.nm, ?_, h'.tl, h.dl, ?_⟩
  · show (if j = c then s.L c ++ [a] else s.L j).length ≤ m + 1
    split
    · rw [List.length_append]; have := h.Ll c; show (s.L c).length + 1 ≤ m + 1; omega
    · exact h'.Ll j
  · rcases pin_root hy with z | z
    · exact h.rt y z
    · rw [z]; exact hw
  · show (if s.ph = "idle" then s.mr else (clo s.B 2 a).foldl addD s.mr).Nodup
    split
    · exact h.mn
    · exact foldl_addD_nd h.mn
  · cases h.co with
    | idle hp m => exact .idle hp (by show (if s.ph = "idle" then s.mr else _) = []; rw [if_pos hp]; exact m)
    | mark hp m t r =>
      have ne : ¬ s.ph = "idle" := by rw [hp]; decide +kernel
      have em : (keepR s c a).1.mr = (clo s.B 2 a).foldl addD s.mr := if_neg ne
      have mem : ∀ y, y ∈ (keepR s c a).1.mr ↔ y ∈ s.mr ∨ y ∈ clo s.B 2 a := fun y => by rw [em, mem_foldl_addD]
      refine .mark hp (fun y hy => ?_) t fun y hy => ?_
      · rcases (mem y).mp hy with z | z
        · exact ⟨(m y z).1, fun r hr => ((m y z).2 r hr).imp (fun q => (mem _).mpr (.inl q)) id⟩
        · exact ⟨(clo_refs hw y z).1, fun r hr => .inl ((mem _).mpr (.inr ((clo_refs hw y z).2 r hr)))⟩
      · rcases pin_root hy with z | z
        · exact (r y z).imp (fun q => (mem _).mpr (.inl q)) id
        · exact .inl ((mem _).mpr (.inr (by rw [z]; exact clo_self)))
    | sweep hp m r dn dk =>
      have ne : ¬ s.ph = "idle" := by rw [hp]; decide +kernel
      have em : (keepR s c a).1.mr = (clo s.B 2 a).foldl addD s.mr := if_neg ne
      have mem : ∀ y, y ∈ (keepR s c a).1.mr ↔ y ∈ s.mr ∨ y ∈ clo s.B 2 a := fun y => by rw [em, mem_foldl_addD]
      refine .sweep hp (fun y hy => ?_) (fun y hy => ?_) dn dk
      · rcases (mem y).mp hy with z | z
        · exact ⟨(m y z).1, fun r hr => (mem _).mpr (.inl ((m y z).2 r hr))⟩
        · exact ⟨(clo_refs hw y z).1, fun r hr => (mem _).mpr (.inr ((clo_refs hw y z).2 r hr))⟩
      · rcases pin_root hy with z | z
        · exact (mem _).mpr (.inl (r y z))
        · exact (mem _).mpr (.inr (by rw [z]; exact clo_self))
theorem J.unup {G : List Bl} {m : Nat} {s : Rg} (h : J G m s) (u : Int) : J G m (unup s u) :=
  ⟨h.sg, h.cle, h.cl, h.cn, h.n0, h.Ll, fun k hk => h.ule k (List.mem_filter.mp hk).1, Nat.le_trans (List.length_filter_le _ _) h.ul, h.Xl, h.nl, h.nn, h.rt, h.nm, h.mn, h.tl, h.dl, match h.co with
    | .idle h m => .idle h m
    | .mark h m t r => .mark h m t r
    | .sweep h m r a b => .sweep h m r a b⟩
theorem Col.sub {s s' : Rg} (h : Col s) (e1 : s'.ks = s.ks) (e2 : s'.B = s.B) (e3 : s'.ph = s.ph) (e4 : s'.mr = s.mr) (e5 : s'.td = s.td) (e6 : s'.dm = s.dm) (hr : ∀ y, isRoot s' y → isRoot s y) : Col s' := by
  have w : ∀ a, Wo s a → Wo s' a := fun a z => by unfold Wo; rw [e1, e2]; exact z
  cases h with
  | idle h m => exact .idle (by rw [e3]; exact h) (by rw [e4]; exact m)
  | mark h m t r => exact .mark (by rw [e3]; exact h) (by rw [e4, e5, e2]; exact fun a ha => ⟨w a (m a ha).1, (m a ha).2⟩) (by rw [e5]; exact fun a ha => w a (t a ha)) (by rw [e4, e5]; exact fun y hy => r y (hr y hy))
  | sweep h m r a b => exact .sweep (by rw [e3]; exact h) (by rw [e4, e2]; exact fun a ha => ⟨w a (m a ha).1, (m a ha).2⟩) (by rw [e4]; exact fun y hy => r y (hr y hy)) (by rw [e6]; exact a) (by rw [e6, e1]; exact b)
theorem J.opn {G : List Bl} {m : Nat} {s : Rg} (h : J G m s) : J G (m + 1) (ans s .opn).1 := by
  have h' := h.mono (Nat.le_succ m)
  have hr : ∀ y, isRoot (ans s .opn).1 y → isRoot s y := fun y hy => by
    rcases hy with ⟨j, hj, hy⟩ | hy
    · have hy : y ∈ (if j = s.n + 1 then [] else s.L j) := hy
      split at hy
      · cases hy
      · rename_i e
        exact .inl ⟨j, (List.mem_append.mp hj).resolve_right fun z => e (List.mem_singleton.mp z), hy⟩
    · exact .inr hy
  have n0 := h.n0
  refine ⟨h.sg, fun k hk => ?_, ?_, ?_, ⟨by show 0 ≤ s.n + 1; omega, by show s.n + 1 ≤ ((m + 1 : Nat) : Int); omega⟩, fun j => ?_, h.ule, h'.ul, h'.Xl, h'.nl, h.nn, fun y hy => h.rt y (hr y hy), h.nm, h.mn, h'.tl, h.dl, h.co.sub rfl rfl rfl rfl rfl rfl hr⟩
  · show 1 ≤ k ∧ k ≤ s.n + 1
    rcases List.mem_append.mp hk with z | z
    · have := h.cle k z; omega
    · rw [List.mem_singleton.mp z]; omega
  · show (s.cs ++ [s.n + 1]).length ≤ m + 1
    rw [List.length_append]; have := h.cl; show s.cs.length + 1 ≤ m + 1; omega
  · show (s.cs ++ [s.n + 1]).Nodup
    rw [List.nodup_append]
    refine ⟨h.cn, by simp, fun x hx y hy e => ?_⟩
    rw [List.mem_singleton.mp hy] at e
    have := h.cle x hx
    omega
  · show (if j = s.n + 1 then [] else s.L j).length ≤ m + 1
    split
    · exact Nat.zero_le _
    · exact h'.Ll j
theorem J.start {G : List Bl} {m : Nat} {s : Rg} (h : J G m s) (c : Int) : J G (m + 1) (ans s (.start c)).1 := by
  have h' := h.mono (Nat.le_succ m)
  show J G (m + 1) (if c ∈ s.cs then _ else (s, lapsedR c)).1
  split
  · refine ⟨h.sg, h.cle, h'.cl, h.cn, h'.n0, h'.Ll, fun k hk => ?_, ?_, fun j => ?_, h'.nl, h.nn, h.rt, h.nm, h.mn, h'.tl, h.dl, h.co.sub rfl rfl rfl rfl rfl rfl fun _ z => z⟩
    · show k ≤ s.un + 1
      rcases List.mem_append.mp hk with z | z
      · have := h.ule k z; omega
      · rw [List.mem_singleton.mp z]; exact Int.le_refl _
    · show (s.ts ++ [s.un + 1]).length ≤ m + 1
      rw [List.length_append]; have := h.ul; show s.ts.length + 1 ≤ m + 1; omega
    · show (if j = s.un + 1 then [] else s.X j).length ≤ _ ∧ okC (if j = s.un + 1 then [] else s.X j)
      split
      · exact ⟨Nat.zero_le _, fun c hc => nomatch hc⟩
      · exact h'.Xl j
  · exact h'
theorem J.part {G : List Bl} {m : Nat} {s : Rg} (h : J G m s) (u i : Int) {t : List Nat} (hl : t.length ≤ 3) (hc : okC t) : J G (m + 1) (ans s (.part u i t)).1 := by
  have h' := h.mono (Nat.le_succ m)
  show J G (m + 1) (partR s u i t).1
  unfold partR
  split
  · split
    · refine ⟨h.sg, h.cle, h'.cl, h.cn, h'.n0, h'.Ll, h.ule, h'.ul, fun j => ?_, h'.nl, h.nn, h.rt, h.nm, h.mn, h'.tl, h.dl, h.co.sub rfl rfl rfl rfl rfl rfl fun _ z => z⟩
      show (if j = u then s.X u ++ t else s.X j).length ≤ _ ∧ okC (if j = u then s.X u ++ t else s.X j)
      split
      · have := (h.Xl u).1
        exact ⟨by rw [List.length_append]; omega, okC_app (h.Xl u).2 hc⟩
      · exact h'.Xl j
    · exact h'
  · exact h'
theorem J.fall {G : List Bl} {m : Nat} {s : Rg} (h : J G m s) : J G m { s with ts := [], ph := "idle", mr := [], td := [], dm := [] } :=
  ⟨h.sg, h.cle, h.cl, h.cn, h.n0, h.Ll, (fun k hk => nomatch hk), Nat.zero_le _, h.Xl, h.nl, h.nn, h.rt, h.nm, List.nodup_nil, Nat.zero_le _, Nat.zero_le _, .idle rfl rfl⟩
theorem J.lapse {G : List Bl} {m : Nat} {s : Rg} (h : J G m s) (c : Int) : J G m { s with cs := s.cs.filter fun j => decide (j ≠ c) } :=
  have hr : ∀ y, isRoot { s with cs := s.cs.filter fun j => decide (j ≠ c) } y → isRoot s y := fun y hy => hy.imp (fun ⟨j, hj, z⟩ => ⟨j, (List.mem_filter.mp hj).1, z⟩) id
  ⟨h.sg, fun k hk => h.cle k (List.mem_filter.mp hk).1, Nat.le_trans (List.length_filter_le _ _) h.cl, h.cn.filter _, h.n0, h.Ll, h.ule, h.ul, h.Xl, h.nl, h.nn, fun y hy => h.rt y (hr y hy), h.nm, h.mn, h.tl, h.dl, h.co.sub rfl rfl rfl rfl rfl rfl hr⟩
theorem J.unname {G : List Bl} {m : Nat} {s : Rg} (h : J G m s) (nm : Str) : J G m { s with nk := s.nk.filter fun j => decide (j ≠ nm) } :=
  have hr : ∀ y, isRoot { s with nk := s.nk.filter fun j => decide (j ≠ nm) } y → isRoot s y := fun y hy => hy.imp id fun ⟨b, hb, z⟩ => ⟨b, (List.mem_filter.mp hb).1, z⟩
  ⟨h.sg, h.cle, h.cl, h.cn, h.n0, h.Ll, h.ule, h.ul, h.Xl, Nat.le_trans (List.length_filter_le _ _) h.nl, h.nn.filter _, fun y hy => h.rt y (hr y hy), fun n hn => h.nm n (List.mem_filter.mp hn).1, h.mn, h.tl, h.dl, h.co.sub rfl rfl rfl rfl rfl rfl hr⟩
theorem J.named {G : List Bl} {m : Nat} {s : Rg} (h : J G m s) (c : Int) (nm : Str) {a : Str} (hw : Wo s a) (hk : (s.B a).k ≠ .lay) : J G (m + 1) { (keepR s c a).1 with nk := putS s.nk nm, N := fun j => if j = nm then a else s.N j } := by
  have k := h.keep c hw
  have hr : ∀ y, isRoot { (keepR s c a).1 with nk := putS s.nk nm, N := fun j => if j = nm then a else s.N j } y → isRoot (keepR s c a).1 y ∨ y = a := fun y hy => by
    rcases hy with hy | ⟨b, hb, hy⟩
    · exact .inl (.inl hy)
    · have hy : (if b = nm then a else s.N b) = y := hy
      split at hy
      · exact .inr hy.symm
      · rename_i e
        exact .inl (.inr ⟨b, (mem_putS.mp hb).resolve_right e, hy⟩)
  refine ⟨k.sg, k.cle, k.cl, k.cn, k.n0, k.Ll, k.ule, k.ul, k.Xl, ?_, putS_nd h.nn, fun y hy => ?_, fun n hn => ?_, k.mn, k.tl, k.dl, ?_⟩
  · have := @putS_len s.nk nm; have := h.nl; show (putS s.nk nm).length ≤ m + 1; omega
  · rcases hr y hy with z | z
    · exact k.rt y z
    · rw [z]; exact hw
  · show (s.B (if n = nm then a else s.N n)).k ≠ .lay
    split
    · exact hk
    · rename_i e
      exact h.nm n ((mem_putS.mp hn).resolve_right e)
  · cases h.co with
    | idle hp m => exact .idle hp (by show (if s.ph = "idle" then s.mr else _) = []; rw [if_pos hp]; exact m)
    | mark hp _ _ _ =>
      have ne : ¬ s.ph = "idle" := by rw [hp]; decide +kernel
      have em : (keepR s c a).1.mr = (clo s.B 2 a).foldl addD s.mr := if_neg ne
      cases k.co with
      | idle h _ => exact absurd (show s.ph = "idle" from h) ne
      | mark h m t r =>
        refine .mark h m t fun y hy => ?_
        rcases hr y hy with z | z
        · exact r y z
        · refine .inl ?_
          show y ∈ (keepR s c a).1.mr
          rw [em, z]
          exact mem_foldl_addD.mpr (.inr clo_self)
      | sweep h _ _ _ _ => rw [show s.ph = _ from h] at hp; exact absurd hp (by decide +kernel)
    | sweep hp _ _ _ _ =>
      have ne : ¬ s.ph = "idle" := by rw [hp]; decide +kernel
      have em : (keepR s c a).1.mr = (clo s.B 2 a).foldl addD s.mr := if_neg ne
      cases k.co with
      | idle h _ => exact absurd (show s.ph = "idle" from h) ne
      | mark h _ _ _ => rw [show s.ph = _ from h] at hp; exact absurd hp (by decide +kernel)
      | sweep h m r dn dk =>
        refine .sweep h m (fun y hy => ?_) dn dk
        rcases hr y hy with z | z
        · exact r y z
        · show y ∈ (keepR s c a).1.mr
          rw [em, z]
          exact mem_foldl_addD.mpr (.inr clo_self)
/-- a step of the collector -/
theorem J.cstep {G : List Bl} {m : Nat} {s s' : Rg} {w : Str} {rs : List Str} (g : GOk G) (h : J G m s) (hn : rs.Nodup) (hr : ∀ y, y ∈ rs ↔ isRoot s y) (cs : CStep rs s s' w) : J G (m + 1) s' := by
  have h' := h.mono (Nat.le_succ m)
  have hkl : s.ks.length ≤ 20 := by have := h.sg.len; have := g.len; omega
  cases cs with
  | begin hp =>
    have hrl : rs.length ≤ 20 := Nat.le_trans (few_len hn fun y hy => root_in h ((hr y).mp hy)) hkl
    cases h.co with
    | idle _ mr =>
      exact ⟨h.sg, h.cle, h'.cl, h.cn, h'.n0, h'.Ll, h.ule, h'.ul, h'.Xl, h'.nl, h.nn, h.rt, h.nm, h.mn, by show rs.length ≤ _; omega, h.dl, .mark rfl (by show ∀ a ∈ s.mr, _; rw [mr]; exact fun a ha => nomatch ha) (fun a ha => h.rt a ((hr a).mp ha)) fun y hy => .inr ((hr y).mpr hy)⟩
    | mark q _ _ _ => rw [hp] at q; exact absurd q (by decide +kernel)
    | sweep q _ _ _ _ => rw [hp] at q; exact absurd q (by decide +kernel)
  | turn ys hp ht pe so =>
    cases h.co with
    | idle q _ => rw [hp] at q; exact absurd q (by decide +kernel)
    | sweep q _ _ _ _ => rw [hp] at q; exact absurd q (by decide +kernel)
    | mark _ mm t r =>
      refine ⟨h.sg, h.cle, h'.cl, h.cn, h'.n0, h'.Ll, h.ule, h'.ul, h'.Xl, h'.nl, h.nn, h.rt, h.nm, h.mn, h'.tl, ?_, .sweep rfl (fun a ha => ⟨(mm a ha).1, fun q hq => ((mm a ha).2 q hq).resolve_right (by rw [ht]; exact fun z => nomatch z)⟩) (fun y hy => (r y hy).resolve_right (by rw [ht]; exact fun z => nomatch z)) ?_ fun a ha => pe.subset (List.mem_filter.mp ha).1⟩
      · have := List.length_filter_le (fun a => decide (a ∉ s.mr)) ys
        rw [pe.length_eq] at this
        show (ys.filter fun a => decide (a ∉ s.mr)).length ≤ 1000
        omega
      · exact (pe.nodup_iff.mpr h.sg.nd).filter _
  | mark a t hp ht hm =>
    cases h.co with
    | idle q _ => rw [hp] at q; exact absurd q (by decide +kernel)
    | sweep q _ _ _ _ => rw [hp] at q; exact absurd q (by decide +kernel)
    | mark _ mm tt r =>
      have wa : Wo s a := tt a (by rw [ht]; exact List.mem_cons_self)
      have rl := g.rl _ (h.sg.g a (wh_in wa))
      have tl := h.tl
      rw [ht, List.length_cons] at tl
      refine ⟨h.sg, h.cle, h'.cl, h.cn, h'.n0, h'.Ll, h.ule, h'.ul, h'.Xl, h'.nl, h.nn, h.rt, h.nm, ?_, by show (t ++ (s.B a).refs.map SX.S).length ≤ _; rw [List.length_append, List.length_map]; omega, h.dl, .mark hp (fun y hy => ?_) (fun y hy => ?_) fun y hy => ?_⟩
      · show (s.mr ++ [a]).Nodup
        rw [List.nodup_append]
        exact ⟨h.mn, by simp, fun x hx y hy e => hm (by rw [← List.mem_singleton.mp hy, ← e]; exact hx)⟩
      · have hy : y ∈ s.mr ++ [a] := hy
        show Wo s y ∧ ∀ r ∈ (s.B y).refs, SX.S r ∈ s.mr ++ [a] ∨ SX.S r ∈ t ++ (s.B a).refs.map SX.S
        rcases List.mem_append.mp hy with z | z
        · refine ⟨(mm y z).1, fun q hq => ?_⟩
          rcases (mm y z).2 q hq with u | u
          · exact .inl (List.mem_append.mpr (.inl u))
          · rw [ht] at u
            rcases List.mem_cons.mp u with v | v
            · rw [v]; exact .inl (List.mem_append.mpr (.inr List.mem_cons_self))
            · exact .inr (List.mem_append.mpr (.inl v))
        · rw [List.mem_singleton.mp z]
          exact ⟨wa, fun q hq => .inr (List.mem_append.mpr (.inr (List.mem_map.mpr ⟨q, hq, rfl⟩)))⟩
      · have hy : y ∈ t ++ (s.B a).refs.map SX.S := hy
        show Wo s y
        rcases List.mem_append.mp hy with z | z
        · exact tt y (by rw [ht]; exact List.mem_cons_of_mem _ z)
        · obtain ⟨q, hq, rfl⟩ := List.mem_map.mp z
          exact wh3 (wh_ref wa q hq).2.2
      · show y ∈ s.mr ++ [a] ∨ y ∈ t ++ (s.B a).refs.map SX.S
        rcases r y hy with u | u
        · exact .inl (List.mem_append.mpr (.inl u))
        · rw [ht] at u
          rcases List.mem_cons.mp u with v | v
          · rw [v]; exact .inl (List.mem_append.mpr (.inr List.mem_cons_self))
          · exact .inr (List.mem_append.mpr (.inl v))
  | skip a t hp ht hm =>
    cases h.co with
    | idle q _ => rw [hp] at q; exact absurd q (by decide +kernel)
    | sweep q _ _ _ _ => rw [hp] at q; exact absurd q (by decide +kernel)
    | mark _ mm tt r =>
      have tl := h.tl
      rw [ht, List.length_cons] at tl
      have sp : ∀ y, y ∈ s.mr ∨ y ∈ s.td → y ∈ s.mr ∨ y ∈ t := fun y hy => by
        rcases hy with u | u
        · exact .inl u
        · rw [ht] at u
          rcases List.mem_cons.mp u with v | v
          · rw [v]; exact .inl hm
          · exact .inr v
      exact ⟨h.sg, h.cle, h'.cl, h.cn, h'.n0, h'.Ll, h.ule, h'.ul, h'.Xl, h'.nl, h.nn, h.rt, h.nm, h.mn, by show t.length ≤ _; omega, h.dl, .mark hp (fun y hy => ⟨(mm y hy).1, fun q hq => sp _ ((mm y hy).2 q hq)⟩) (fun y hy => tt y (by rw [ht]; exact List.mem_cons_of_mem _ hy)) fun y hy => sp y (r y hy)⟩
  | fin hp ht => exact ⟨h.sg, h.cle, h'.cl, h.cn, h'.n0, h'.Ll, h.ule, h'.ul, h'.Xl, h'.nl, h.nn, h.rt, h.nm, List.nodup_nil, Nat.zero_le _, Nat.zero_le _, .idle rfl rfl⟩
  | drop a t hp ht hm =>
    cases h.co with
    | idle q _ => rw [hp] at q; exact absurd q (by decide +kernel)
    | mark q _ _ _ => rw [hp] at q; exact absurd q (by decide +kernel)
    | sweep _ mm r dn dk =>
      have cl : ∀ y, y ∈ s.mr → y ∈ (s.ks.filter fun j => decide (j ≠ a)) ∧ ∀ q ∈ (s.B y).refs, SX.S q ∈ s.mr := fun y hy => ⟨List.mem_filter.mpr ⟨wh_in (mm y hy).1, decide_eq_true fun z => hm (by rw [← z]; exact hy)⟩, (mm y hy).2⟩
      have w : ∀ y, y ∈ s.mr → Wo s y → wh (s.ks.filter fun j => decide (j ≠ a)) s.B 3 y = true := fun y hy z => wh_cut (M := fun y => y ∈ s.mr) cl 3 y hy z
      rw [ht, List.nodup_cons] at dn
      have dl := h.dl
      rw [ht, List.length_cons] at dl
      exact ⟨⟨h.sg.nd.filter _, fun y hy => h.sg.g y (List.mem_filter.mp hy).1, fun y hy => h.sg.a y (List.mem_filter.mp hy).1⟩, h.cle, h'.cl, h.cn, h'.n0, h'.Ll, h.ule, h'.ul, h'.Xl, h'.nl, h.nn, fun y hy => w y (r y hy) (h.rt y hy), h.nm, h.mn, h'.tl, by show t.length ≤ 1000; omega, .sweep hp (fun y hy => ⟨w y hy (mm y hy).1, (mm y hy).2⟩) r dn.2 fun y hy => List.mem_filter.mpr ⟨dk y (by rw [ht]; exact List.mem_cons_of_mem _ hy), decide_eq_true fun z => dn.1 (by rw [← z]; exact hy)⟩⟩
  | leave a t hp ht hm =>
    cases h.co with
    | idle q _ => rw [hp] at q; exact absurd q (by decide +kernel)
    | mark q _ _ _ => rw [hp] at q; exact absurd q (by decide +kernel)
    | sweep _ mm r dn dk =>
      rw [ht, List.nodup_cons] at dn
      have dl := h.dl
      rw [ht, List.length_cons] at dl
      exact ⟨h.sg, h.cle, h'.cl, h.cn, h'.n0, h'.Ll, h.ule, h'.ul, h'.Xl, h'.nl, h.nn, h.rt, h.nm, h.mn, h'.tl, by show t.length ≤ 1000; omega, .sweep hp mm r dn.2 fun y hy => dk y (by rw [ht]; exact List.mem_cons_of_mem _ hy)⟩
end Lw

/-! ## what the laws of stores share -/
namespace Lw
open PySem L2
open PyProof.Rows (envOfC sortedS)
theorem scan_none {b : Bool} : ∀ {ls s : List (List Nat)} {i : Nat}, scan b s i ls = none → ∀ l ∈ ls, ∃ s', okLine b s' l = true
  | [], _, _, _, _, h => nomatch h
  | x :: r, s, i, h, l, hl => by
    unfold scan at h
    split at h
    · rename_i hx
      rcases List.mem_cons.mp hl with z | z
      · subst z; exact ⟨s, hx⟩
      · exact scan_none h l z
    · cases h
theorem bun_two {t : List Nat} (h : fault true t = none) : ∀ l ∈ mid (lnL t), (wdL l).length = 2 := by
  intro l hl
  unfold fault at h
  split at h
  · cases h
  · split at h
    · cases h
    · obtain ⟨s', hs⟩ := scan_none h l hl
      unfold okLine at hs
      rw [if_pos rfl, Bool.and_eq_true, decide_eq_true_eq] at hs
      exact hs.1
def dueS : Kd → Str
  | .lay => "" | .img => "layer" | .bun => "image"
theorem due_ne {k k2 : Kd} (hk : k ≠ .lay) : decide (V.str k2.s = V.str (dueS k)) = decide (k.lo = some k2) := by
  cases k <;> cases k2 <;> first | exact absurd rfl hk | decide +kernel
def dueK : List (Key × V) := [(kS "layer", .str ""), (kS "image", .str "layer"), (kS "bundle", .str "image")]
theorem due_at (k : Kd) : valV (mergeK [] dueK) (kS k.s) = some (.str (dueS k)) := by cases k <;> decide +kernel
def dueK2 : List (Key × V) := [(kS "image", .str "layer"), (kS "bundle", .str "image")]
theorem due2_at {k : Kd} (h : k ≠ .lay) : valV (mergeK [] dueK2) (kS k.s) = some (.str (dueS k)) := by cases k <;> first | exact absurd rfl h | decide +kernel
def notIn (f : List Str) : V → Bool
  | .str x => decide (x ∉ f)
  | _ => false
theorem inV_str {a : Str} {s : List Str} : inV (.str a) (s.map V.str) = decide (a ∈ s) := by
  unfold inV
  rw [List.any_map, Bool.eq_iff_iff, List.any_eq_true, decide_eq_true_eq]
  constructor
  · rintro ⟨y, hy, e⟩
    have e : (y == a) = true := e
    rw [← beq_iff_eq.mp e]
    exact hy
  · intro h
    exact ⟨a, h, (show (a == a) = true from beq_self_eq_true a)⟩
theorem flat_str (s : List Str) : (s.map V.str).all flatV = true := by
  rw [List.all_eq_true]
  intro x hx
  obtain ⟨a, _, rfl⟩ := List.mem_map.mp hx
  rfl
/-- a comprehension over a list, whose items are drawn -/
theorem lc_drawG {J : It} {G : Hp → Prop} {xs : List V} {vs : List Nat} {σ : L2.St} {te : TE} {j : Nat} {Q : VK} {c : Addr → Nat} {H : Hp} {S : Addr} (w : Walk J xs.length G (YAt xs)) (hG : ∀ c' H', Stp (fun i => i = 0) c c' H H' → G H') (hz : xs.length ≤ 100000) (R : Nat → V → Hp → Prop)
    (mono : ∀ i y H1 H2, (∀ b ys, H1 b = some (.tup ys) → H2 b = some (.tup ys)) → R i y H1 → R i y H2) (hS : StateAt c H S) (hw : ∀ x, wipe ((wipe σ vs).set j (some x)) vs = wipe σ vs)
    (he : ∀ (i : Nat) (x : V) (c1 : Addr → Nat) (H1 : Hp) (Rk : VK), xs[i]? = some x → StateAt c1 H1 S → Stp (fun i => i = 0) c c1 H H1 → (∀ (y : V) (c2 : Addr → Nat) (H2 : Hp), R i y H2 → StateAt c2 H2 S → Stp (fun i => i = 0) c1 c2 H1 H2 → Rk y H2) → te ((wipe σ vs).set j (some x)) H1 Rk)
    (k : ∀ (q : Addr) (ys : List V) (c' : Addr → Nat) (H' : Hp), H q = none → ys.length = xs.length → (∀ (i : Nat) (y : V), ys[i]? = some y → R i y H') → StateAt c' H' S → Stp (fun i => i = 0) c c' H H' → H' q = some (.lst ys) → c' q = 9 → Q (.ref q) H') : kLc (gName j) tYes te vs σ Q J H := by
  intro D hD
  refine lc_it w (fun i H2 => ∃ (l : List V) (c2 : Addr → Nat), l.length = i ∧ (∀ (m : Nat) (y : V), l[m]? = some y → R m y H2) ∧ StateAt c2 H2 S ∧ Stp (fun i => i = 0) c c2 H H2 ∧ c2 D = 9 ∧ H2 D = some (.lst l))
    ⟨[], Stp.paint c D 9, rfl, (fun m y h => (by cases h)), hS.frame (I := fun _ => False) (Stp.newc hD) (by decide), Stp.newc hD, Stp.paint_same, upd_same⟩ (fun _ H2 _ h => by obtain ⟨_, c2, _, _, _, st, _⟩ := h; exact hG c2 H2 st) (fun i x H2 H2' hi h y => ?_) (fun H2 h => ?_)
  · obtain ⟨e, hx⟩ := y
    subst e
    obtain ⟨l, c2, h1, h2, S2, st2, cD, hl⟩ := h
    refine ⟨hw x, ?_⟩
    show te _ H2' _
    refine he i x c2 H2' _ hx S2 st2 fun a c3 H3 ga S3 st3 => ?_
    have hD3 := st3.keep _ _ hl (by rw [cD]; decide)
    have tk : ∀ b zs, H3 b = some (.tup zs) → (upd H3 D (.lst (l ++ [a]))) b = some (.tup zs) := fun b zs e => by rw [upd_ne (ne_of e hD3 (by intro z; cases z))]; exact e
    refine ⟨l, hD3, ?_, l ++ [a], c3, by rw [List.length_append, h1]; rfl, fun m y hm => ?_, S3.frame (I := fun i => i = 9) (Stp.own hD3 (by rw [st3.col _ _ hl, cD]) (fun xs z => by cases z)) (by decide), ?_, by rw [st3.col _ _ hl, cD], upd_same⟩
    · rw [h1]
      exact Nat.lt_of_lt_of_le (show i < 200000 by omega) (by decide)
    · by_cases hj : m < l.length
      · rw [List.getElem?_append_left hj] at hm
        exact mono _ _ _ _ (fun b zs e => tk b zs (st3.tup _ _ e)) (h2 m y hm)
      · rw [List.getElem?_append_right (by omega)] at hm
        cases hq : m - l.length with
        | zero =>
          rw [hq] at hm
          cases hm
          have : m = i := by omega
          subst this
          exact mono _ _ _ _ tk ga
        | succ n => rw [hq] at hm; cases hm
    · have st4 := st2.trans st3
      exact ⟨fun b o e n => by rw [upd_ne (ne_of_none e hD)]; exact st4.keep b o e n, st4.col, fun b xs e => by rw [upd_ne (ne_of_none e hD)]; exact st4.tup b xs e, fun b e => by
        by_cases z : b = D
        · subst z; rw [upd_same] at e; cases e
        · rw [upd_ne z] at e; exact st4.fre b e⟩
  · obtain ⟨l, c2, h1, h2, S2, st2, cD, hl⟩ := h
    exact k D l c2 H2 hD h1 h2 S2 st2 hl cD
theorem S_of (x : Str) : SX.S x.cps.toList = x := by
  cases x
  rfl
theorem img_ok {as : List (List Nat)} (h : ∀ a ∈ as, isAdr a = true) (hl : as.length ≤ 50) : (⟨.img, imgL as⟩ : Bl).Ok := by
  obtain ⟨h1, h2⟩ := img_t h (by omega)
  exact ⟨by show faultK "image" _ = none; unfold faultK; rw [if_neg (by decide +kernel), decide_eq_true rfl]; exact (fault_img h hl).1, h2, h1⟩
theorem bun_ok {ps : List (List Nat × List Nat)} (W : WFB ps) : (⟨.bun, bunL ps⟩ : Bl).Ok := by
  obtain ⟨h1, h2⟩ := bun_t W
  exact ⟨by show faultK "bundle" _ = none; unfold faultK; rw [if_neg (by decide +kernel), decide_eq_false (by decide +kernel)]; exact (fault_bun W).1, h2, h1⟩
theorem lay_ok {t : List Nat} (h : okC t) (hl : t.length ≤ 10000) : (⟨.lay, t⟩ : Bl).Ok := ⟨fault_lay t, hl, h⟩
theorem signs8_okC {l : List Nat} (h : ∀ x ∈ l, x ∈ signs8) : okC l := fun c hc => by
  have : ∀ c ∈ signs8, c < 0x110000 := by decide
  exact this c (h c hc)
theorem cut_take {xs : List V} {n : Nat} : cutV xs none (some (n : Int)) = xs.take n := by
  unfold cutV
  rw [HT.sIx_none, HT.sIx_nat, List.drop_zero, Nat.sub_zero]
  by_cases h : n ≤ xs.length
  · rw [Nat.min_eq_left h]
  · rw [Nat.min_eq_right (by omega), List.take_of_length_le (Nat.le_refl _), List.take_of_length_le (by omega)]
def nm3 : List (List Nat) := [[109, 105, 108, 108], [121, 97, 114, 100], [100, 111, 99, 107]]
theorem nm3_eq : ([.str "mill", .str "yard", .str "dock"] : List V) = nm3.map strS := by
  have h : (["mill", "yard", "dock"] : List Str) = nm3.map SX.S := by decide +kernel
  have h2 := congrArg (List.map V.str) h
  rw [List.map_map] at h2
  exact h2
theorem nm3_pl : ∀ p ∈ nm3, isPlat p = true := by decide
theorem nm3_nd (n : Nat) : (nm3.take n).Nodup := (show nm3.Nodup by decide).sublist (List.take_sublist _ _)
theorem KOk.list {ks : List Str} (h : KOk ks) : ∃ as : List (List Nat), ks = as.map SX.S ∧ ∀ a ∈ as, isAdr a = true := by
  refine ⟨ks.map fun x => x.cps.toList, ?_, fun a ha => ?_⟩
  · rw [List.map_map]
    conv => lhs; rw [← List.map_id ks]
    exact List.map_congr_left fun x _ => (S_of x).symm
  · obtain ⟨x, hx, rfl⟩ := List.mem_map.mp ha
    obtain ⟨l, rfl, hl⟩ := h x hx
    exact hl
theorem KOk.sub {ks ys : List Str} (h : KOk ks) (s : ∀ x ∈ ys, x ∈ ks) : KOk ys := fun a ha => h a (s a ha)
theorem eqv_self {d : PyData} (h : d.canLay0 = true) : PyData.eqv d d = true := SeqAt.eqv_refl _ h
/-- two lists of the same texts -/
theorem g_rneL {K : PySem.W.Frag} {H : Hp} {Q : VK} {p q : Addr} {as : List (List Nat)} (h1 : H p = some (.lst (as.map strS))) (h2 : H q = some (.lst (as.map strS))) (ok : ∀ a ∈ as, okC a) (k : Q (.bl false) H) : rNeD K (.ref p) (.ref q) H Q :=
  ⟨_, _, dp_list h1, dp_list h2, shaped_strs ok, shaped_strs ok, by rw [eqv_self (show (PyData.list _).canLay0 = true from (sh_strs as ok).1)]; exact k⟩
theorem pair_ok {k x : Str} (hk : PyData.strOk k = true) (hx : PyData.strOk x = true) : (PyData.tuple [.str k, .str x]).canLay0 = true := by
  simp only [PyData.canLay0, PyData.canLayAll0, hk, hx, Bool.and_true]
theorem pair_shaped {k x : Str} (hk : PyData.strOk k = true) (hx : PyData.strOk x = true) : SeqAt.shaped (.tuple [.str k, .str x]) = true := by
  unfold SeqAt.shaped
  rw [pair_ok hk hx, Bool.true_and, decide_eq_true_eq]
  simp only [PyData.depth, PyData.depthAll]
  decide
theorem dp_pair {K : PySem.W.Frag} {H : Hp} {t : Addr} {k x : Str} (h : H t = some (.tup [.str k, .str x])) : Dp K H (.ref t) (.tuple [.str k, .str x]) := .tup (SqT.of h) (.cons (.str _) (.cons (.str _) .nil))
theorem non_shaped : SeqAt.shaped PyData.none = true := by
  unfold SeqAt.shaped
  simp only [PyData.canLay0, PyData.depth]
  decide
theorem g_rneP {K : PySem.W.Frag} {H : Hp} {Q : VK} {p q : Addr} {k x : Str} (h1 : H p = some (.tup [.str k, .str x])) (h2 : H q = some (.tup [.str k, .str x])) (hk : PyData.strOk k = true) (hx : PyData.strOk x = true) (kk : Q (.bl false) H) : rNeD K (.ref p) (.ref q) H Q :=
  ⟨_, _, dp_pair h1, dp_pair h2, pair_shaped hk hx, pair_shaped hk hx, by rw [eqv_self (pair_ok hk hx)]; exact kk⟩
theorem g_rneN {K : PySem.W.Frag} {H : Hp} {Q : VK} (kk : Q (.bl false) H) : rNeD K .non .non H Q := ⟨_, _, .non, .non, non_shaped, non_shaped, kk⟩
theorem refs_okC {b : Bl} (h : b.Ok) : ∀ a ∈ b.refs, okC a := by
  intro a ha
  unfold Bl.refs refsL prs at ha
  have hm : ∀ l ∈ mid (lnL b.t), okC l := fun l hl => ln_okC h.c (mid_mem hl)
  split at ha
  · cases ha
  · split at ha
    · exact hm a ha
    · rw [List.map_map] at ha
      obtain ⟨l, hl, rfl⟩ := List.mem_map.mp ha
      show okC (w1 l)
      unfold w1
      rw [List.getD_eq_getElem?_getD]
      cases hq : (wdL l)[1]? with
      | none => exact fun c hc => nomatch hc
      | some x => exact wd_okC (hm l hl) (List.mem_of_getElem? hq)
end Lw

/-! ## tuples of ints and texts -/
namespace Lw
open PySem L2
/-- the data of a body -/
def dK : Key → PyData
  | .inl i => .int i
  | .inr x => .str x
theorem dp_key {K : PySem.W.Frag} {H : Hp} : ∀ k : Key, Dp K H (kV k) (dK k)
  | .inl i => .int i
  | .inr x => .str x
theorem dp_keys {K : PySem.W.Frag} {H : Hp} : ∀ b : List Key, DpAll K H (b.map kV) (b.map dK)
  | [] => .nil
  | k :: b => .cons (dp_key k) (dp_keys b)
theorem dp_body {K : PySem.W.Frag} {H : Hp} {t : Addr} {b : List Key} (h : H t = some (.tup (b.map kV))) : Dp K H (.ref t) (.tuple (b.map dK)) := .tup (SqT.of h) (dp_keys b)
def OkB (b : List Key) : Prop := ∀ x, (Sum.inr x : Key) ∈ b → PyData.strOk x = true
theorem sh_all : ∀ b : List Key, OkB b → PyData.canLayAll0 (b.map dK) = true ∧ PyData.depthAll (b.map dK) = 0
  | [], _ => ⟨rfl, rfl⟩
  | k :: b, h => by
    obtain ⟨h1, h2⟩ := sh_all b fun x hx => h x (List.mem_cons_of_mem _ hx)
    cases k with
    | inl i => exact ⟨by simpa [PyData.canLayAll0, dK, PyData.canLay0] using h1, by simpa [PyData.depthAll, dK, PyData.depth] using h2⟩
    | inr x => exact ⟨by simpa [PyData.canLayAll0, dK, PyData.canLay0, h x (List.mem_cons_self)] using h1, by simpa [PyData.depthAll, dK, PyData.depth] using h2⟩
theorem sh_body {b : List Key} (h : OkB b) : SeqAt.shaped (.tuple (b.map dK)) = true := by
  obtain ⟨h1, h2⟩ := sh_all b h
  unfold SeqAt.shaped
  rw [Bool.and_eq_true, decide_eq_true_eq]
  exact ⟨h1, by simp only [PyData.depth]; omega⟩
theorem okT {l : List Nat} (h : ∀ c ∈ l, c < 0x110000) : PyData.strOk (SX.S l) = true := by
  unfold PyData.strOk
  rw [← Array.all_toList, List.all_eq_true]
  intro c hc
  exact decide_eq_true (h c hc)
theorem okT' {l : List Nat} (h : PyData.strOk (SX.S l) = true) : ∀ c ∈ l, c < 0x110000 := by
  unfold PyData.strOk at h
  rw [← Array.all_toList, List.all_eq_true] at h
  intro c hc
  exact of_decide_eq_true (h c hc)
theorem eqv_key (a b : Key) : PyData.eqv (dK a) (dK b) = decide (a = b) := by
  cases a <;> cases b
  · rename_i i j
    show (i == j) = _
    rw [Bool.eq_iff_iff, beq_iff_eq, decide_eq_true_eq]
    exact ⟨fun h => by rw [h], fun h => Sum.inl.inj h⟩
  · show false = _
    exact (decide_eq_false fun h => by cases h).symm
  · show false = _
    exact (decide_eq_false fun h => by cases h).symm
  · rename_i i j
    show (i == j) = _
    rw [Bool.eq_iff_iff, beq_iff_eq, decide_eq_true_eq]
    exact ⟨fun h => by rw [h], fun h => Sum.inr.inj h⟩
theorem eqv_keys : ∀ a b : List Key, PyData.eqvAll (a.map dK) (b.map dK) = decide (a = b)
  | [], [] => rfl
  | [], _ :: _ => rfl
  | _ :: _, [] => rfl
  | x :: a, y :: b => by
    show (PyData.eqv (dK x) (dK y) && PyData.eqvAll (a.map dK) (b.map dK)) = _
    rw [eqv_key, eqv_keys a b, Bool.eq_iff_iff, Bool.and_eq_true, decide_eq_true_eq, decide_eq_true_eq, decide_eq_true_eq, List.cons.injEq]
theorem eqv_tup (a b : List Key) : PyData.eqv (.tuple (a.map dK)) (.tuple (b.map dK)) = decide (a = b) := eqv_keys a b
section
variable {H : Hp} {K : PySem.W.Frag} {Q : VK}
theorem g_reqK {t u : Addr} {a b : List Key} (ht : H t = some (.tup (a.map kV))) (hu : H u = some (.tup (b.map kV))) (oa : OkB a) (ob : OkB b) (k : Q (.bl (decide (a = b))) H) : rEqD K (.ref t) (.ref u) H Q :=
  ⟨_, _, dp_body ht, dp_body hu, sh_body oa, sh_body ob, by rw [eqv_tup]; exact k⟩
theorem g_rneK {t u : Addr} {a b : List Key} (ht : H t = some (.tup (a.map kV))) (hu : H u = some (.tup (b.map kV))) (oa : OkB a) (ob : OkB b) (k : Q (.bl (!decide (a = b))) H) : rNeD K (.ref t) (.ref u) H Q :=
  ⟨_, _, dp_body ht, dp_body hu, sh_body oa, sh_body ob, by rw [eqv_tup]; exact k⟩
/-- t == (..), the tuple just displayed -/
theorem g_keq {t : Addr} {a b : List Key} {xs : List V} (ht : H t = some (.tup (a.map kV))) (hx : xs = b.map kV) (hl : b.length ≤ 100) (oa : OkB a) (ob : OkB b) (k : ∀ H', Same H H' → Q (.bl (decide (a = b))) H') : kTup (fun y H2 => rEqD K (.ref t) y H2 Q) xs H := by
  subst hx
  exact g_ktup (by rw [List.length_map]; exact hl) fun p H' _ s h => g_reqK (s _ _ ht) h oa ob (k H' s)
end
theorem okb0 : OkB [] := fun _ h => nomatch h
theorem okbI {i : Int} {b : List Key} (h : OkB b) : OkB (.inl i :: b) := fun x hx => by
  rcases List.mem_cons.mp hx with z | z
  · cases z
  · exact h x z
theorem okbS {x : Str} {b : List Key} (hx : PyData.strOk x = true) (h : OkB b) : OkB (.inr x :: b) := fun y hy => by
  rcases List.mem_cons.mp hy with z | z
  · rw [Sum.inr.inj z]; exact hx
  · exact h y z
end Lw

/-! ## what requests answer, no program in sight -/
namespace Lw
open PySem L2
open PyProof.Rows (envOfC sortedS)
structure Post (G : List Bl) (m : Nat) (s : Rg) (c : Int) (a w : Str) (s' : Rg) : Prop where
  j : J G m s'
  n : s'.n = s.n
  cs : s'.cs = s.cs
  L : ∀ j y, y ∈ s.L j → y ∈ s'.L j
  lap : w = "lapsed" ↔ c ∉ s.cs
  kept : c ∈ s.cs → a ∈ s.L c → w = "kept" ∨ w = "named"
  new : w = "kept" → a ∈ s'.L c
section
variable {G : List Bl} {m : Nat} {s : Rg} {c : Int} {a : Str}
theorem post_lapsed (h : J G m s) (hc : c ∉ s.cs) : Post G (m + 1) s c a "lapsed" s :=
  ⟨h.mono (Nat.le_succ m), rfl, rfl, fun _ _ z => z, ⟨fun _ => hc, fun _ => rfl⟩, fun z => absurd z hc, fun z => absurd z (by decide +kernel)⟩
theorem post_lacks (h : J G m s) (hc : c ∈ s.cs) (hn : ¬ a ∈ s.L c) : Post G (m + 1) s c a "lacks" s :=
  ⟨h.mono (Nat.le_succ m), rfl, rfl, fun _ _ z => z, ⟨fun z => absurd z (by decide +kernel), fun z => absurd hc z⟩, fun _ z => absurd z hn, fun z => absurd z (by decide +kernel)⟩
theorem pinL {s1 : Rg} (h : s1.L = s.L) : ∀ j y, y ∈ s.L j → y ∈ (keepR s1 c a).1.L j := fun j y hy => by
  show y ∈ (if j = c then s1.L c ++ [a] else s1.L j)
  split
  · rename_i e
    rw [h, ← e]
    exact List.mem_append.mpr (.inl hy)
  · rw [h]; exact hy
theorem pinA {s1 : Rg} : a ∈ (keepR s1 c a).1.L c := by
  show a ∈ (if c = c then s1.L c ++ [a] else s1.L c)
  rw [if_pos rfl]
  exact List.mem_append.mpr (.inr List.mem_cons_self)
theorem post_kept {s1 : Rg} (h : J G m s1) (e1 : s1.n = s.n) (e2 : s1.cs = s.cs) (e3 : s1.L = s.L) (hc : c ∈ s.cs) (hw : Wo s1 a) : Post G (m + 1) s c a "kept" (keepR s1 c a).1 :=
  ⟨h.keep c hw, e1, e2, pinL e3, ⟨fun z => absurd z (by decide +kernel), fun z => absurd hc z⟩, fun _ _ => .inl rfl, fun _ => pinA⟩
theorem root_L (h : J G m s) (hc : c ∈ s.cs) (ha : a ∈ s.L c) : Wo s a := h.rt a (.inl ⟨c, hc, ha⟩)
theorem post_has (h : J G m s) : ∃ w r, (ans s (.has c a)).2 = .inr w :: r ∧ Post G (m + 1) s c a w (ans s (.has c a)).1 := by
  show ∃ w r, (if c ∈ s.cs then hasR s c a else (s, lapsedR c)).2 = _ ∧ Post G (m + 1) s c a w (if c ∈ s.cs then hasR s c a else (s, lapsedR c)).1
  by_cases hc : c ∈ s.cs
  · rw [if_pos hc]
    unfold hasR
    by_cases hw : wh s.ks s.B 3 a = true
    · rw [if_pos hw]
      exact ⟨_, _, rfl, post_kept h rfl rfl rfl hc hw⟩
    · rw [if_neg hw]
      exact ⟨_, _, rfl, post_lacks h hc fun z => hw (root_L h hc z)⟩
  · rw [if_neg hc]
    exact ⟨_, _, rfl, post_lapsed h hc⟩
theorem sto_wo (g : GOk G) (h : J G m s) {k : Kd} {t : List Nat} (hb : (⟨k, t⟩ : Bl) ∈ G) (hr : badR s k (refsL k.s t) = none) : Wo (sto s ⟨k, t⟩) (adrB ⟨k, t⟩) := by
  have q := sto_same g h.sg hb
  have e : (sto s ⟨k, t⟩).B (adrB ⟨k, t⟩) = ⟨k, t⟩ := updB_same
  refine wh_mk (mem_putS.mpr (.inr rfl)) fun r hr2 => ?_
  rw [e] at hr2 ⊢
  unfold badR at hr
  rw [List.find?_eq_none] at hr
  have y := hr r hr2
  rw [Bool.not_eq_true', Bool.not_eq_false] at y
  unfold goodR at y
  rw [Bool.and_eq_true, Bool.and_eq_true, decide_eq_true_eq, decide_eq_true_eq] at y
  obtain ⟨y1, y2, y3⟩ := y
  obtain ⟨q1, q2⟩ := q _ y1
  have q2 : (sto s ⟨k, t⟩).B (SX.S r) = s.B (SX.S r) := q2
  refine ⟨q1, by rw [q2]; exact y2, wh_dn 1 3 _ (wh_mono q 3 _ y3) ?_⟩
  have := Kd.lo_rk y2
  have := k.rk2
  show ((sto s ⟨k, t⟩).B (SX.S r)).k.rk ≤ 1
  rw [q2]
  omega
theorem wo_good (g : GOk G) (h : J G m s) {k : Kd} {t : List Nat} (hb : (⟨k, t⟩ : Bl) ∈ G) (hw : Wo s (adrB ⟨k, t⟩)) : badR s k (refsL k.s t) = none := by
  have e := h.sg.is g hb (wh_in hw)
  refine badR_nil fun r hr => ?_
  have := wh_ref hw r (by rw [e]; exact hr)
  rw [e] at this
  obtain ⟨h1, h2, h3⟩ := this
  unfold goodR
  rw [decide_eq_true h1, decide_eq_true h2, wh3 h3]
  rfl
theorem post_put (g : GOk G) (h : J G m s) {k : Kd} {t : List Nat} (hb : (⟨k, t⟩ : Bl) ∈ G) : ∃ w r, (ans s (.put c k t)).2 = .inr w :: r ∧ Post G (m + 1) s c (adrB ⟨k, t⟩) w (ans s (.put c k t)).1 := by
  show ∃ w r, (if c ∈ s.cs then putR s c k t else (s, lapsedR c)).2 = _ ∧ Post G (m + 1) s c _ w (if c ∈ s.cs then putR s c k t else (s, lapsedR c)).1
  by_cases hc : c ∈ s.cs
  · rw [if_pos hc]
    unfold putR
    rw [(g.ok _ hb).f]
    dsimp only
    cases hr : badR s k (refsL k.s t) with
    | none => exact ⟨_, _, rfl, post_kept (h.sto g hb) rfl rfl rfl hc (sto_wo g h hb hr)⟩
    | some r => exact ⟨_, _, rfl, post_lacks h hc fun z => by rw [wo_good g h hb (root_L h hc z)] at hr; cases hr⟩
  · rw [if_neg hc]
    exact ⟨_, _, rfl, post_lapsed h hc⟩
theorem post_name (g : GOk G) (h : J G m s) {b : Bl} (hb : b ∈ G) (hk : b.k ≠ .lay) (nm : Str) : ∃ w r, (ans s (.name c nm (adrB b))).2 = .inr w :: r ∧ Post G (m + 1) s c (adrB b) w (ans s (.name c nm (adrB b))).1 := by
  show ∃ w r, (if c ∈ s.cs then nameR s c nm (adrB b) else (s, lapsedR c)).2 = _ ∧ Post G (m + 1) s c _ w (if c ∈ s.cs then nameR s c nm (adrB b) else (s, lapsedR c)).1
  by_cases hc : c ∈ s.cs
  · rw [if_pos hc]
    unfold nameR
    by_cases hq : adrB b ∈ s.ks ∧ (s.B (adrB b)).k ≠ .lay ∧ wh s.ks s.B 3 (adrB b) = true
    · rw [if_pos hq]
      exact ⟨_, _, rfl, h.named c nm hq.2.2 hq.2.1, rfl, rfl, pinL rfl, ⟨fun z => absurd z (by decide +kernel), fun z => absurd hc z⟩, fun _ _ => .inr rfl, fun z => absurd z (by decide +kernel)⟩
    · rw [if_neg hq]
      refine ⟨_, _, rfl, post_lacks h hc fun z => hq ?_⟩
      have w := root_L h hc z
      exact ⟨wh_in w, by rw [h.sg.is g hb (wh_in w)]; exact hk, w⟩
  · rw [if_neg hc]
    exact ⟨_, _, rfl, post_lapsed h hc⟩
theorem post_fin (g : GOk G) (h : J G m s) {u : Int} {t : List Nat} (hu : u ∈ s.ts) (hX : s.X u = t) (hb : (⟨.lay, t⟩ : Bl) ∈ G) (hc : c ∈ s.cs) :
    (ans s (.fin u c (adrB ⟨.lay, t⟩))).2 = [.inr "kept", .inr (adrB ⟨.lay, t⟩)] ∧ Post G (m + 1) s c (adrB ⟨.lay, t⟩) "kept" (ans s (.fin u c (adrB ⟨.lay, t⟩))).1 := by
  show (finR s u c (adrB ⟨.lay, t⟩)).2 = _ ∧ Post G (m + 1) s c _ "kept" (finR s u c (adrB ⟨.lay, t⟩)).1
  unfold finR
  rw [if_pos hc, if_pos hu, hX, if_pos rfl]
  exact ⟨rfl, post_kept ((h.unup u).sto g hb) rfl rfl rfl hc (lay_wh (mem_putS.mpr (.inr rfl)) (by show (updB s.B (adrB ⟨.lay, t⟩) ⟨.lay, t⟩ (adrB ⟨.lay, t⟩)).k = .lay; rw [updB_same]))⟩
theorem ansOk7 (g : GOk G) (h : J G m s) {q : Rq} (hq : ∀ c k t, q = .put c k t → (⟨k, t⟩ : Bl) ∈ G) : AnsOk s q := by
  have hm : s.mr.length ≤ 9000 := by have := h.mrl g; omega
  cases q <;> first | exact Or.inr hm | skip
  rename_i c k t
  exact .inr ⟨fun hr => sto_wo g h (hq c k t rfl) hr, hm⟩
end
/-! ### the goods -/
def millL : List Nat := [109, 105, 108, 108]
def bunOf (i : List Nat) : List Nat := bunL [(millL, adrL "image" i)]
def goods (ls is : List (List Nat)) : List Bl := ls.map (fun t => ⟨.lay, t⟩) ++ is.map (fun t => ⟨.img, t⟩) ++ is.map (fun t => ⟨.bun, bunOf t⟩)
structure GW (ls is : List (List Nat)) : Prop where
  l0 : 0 < ls.length
  l1 : ls.length ≤ 4
  i0 : 0 < is.length
  i1 : is.length ≤ 3
  l : ∀ t ∈ ls, t.length ≤ 3 ∧ okC t
  i : ∀ t ∈ is, ∃ as : List (List Nat), t = imgL as ∧ as.length ≤ 3 ∧ ∀ a ∈ as, isAdr a = true
theorem mill_wfb (i : List Nat) : WFB [(millL, adrL "image" i)] :=
  ⟨fun e he => by rw [List.mem_singleton.mp he]; exact ⟨(show isPlat millL = true by decide), adr_is _ _⟩, by simp, by simp, by simp⟩
theorem goods_mem {ls is : List (List Nat)} {b : Bl} : b ∈ goods ls is ↔ (∃ t ∈ ls, (⟨.lay, t⟩ : Bl) = b) ∨ (∃ t ∈ is, (⟨.img, t⟩ : Bl) = b) ∨ ∃ t ∈ is, (⟨.bun, bunOf t⟩ : Bl) = b := by
  unfold goods
  rw [List.mem_append, List.mem_append, List.mem_map, List.mem_map, List.mem_map, or_assoc]
theorem GW.ok {ls is : List (List Nat)} (h : GW ls is) (inj : ∀ b ∈ goods ls is, ∀ b' ∈ goods ls is, adrB b = adrB b' → b = b') : GOk (goods ls is) := by
  refine ⟨fun b hb => ?_, inj, ?_, fun b hb => ?_⟩
  · rcases goods_mem.mp hb with ⟨t, ht, rfl⟩ | ⟨t, ht, rfl⟩ | ⟨t, ht, rfl⟩
    · exact lay_ok (h.l t ht).2 (by have := (h.l t ht).1; omega)
    · obtain ⟨as, rfl, hl, ha⟩ := h.i t ht
      exact img_ok ha (by omega)
    · exact bun_ok (mill_wfb t)
  · have := h.l1
    have := h.i1
    unfold goods
    rw [List.length_append, List.length_append, List.length_map, List.length_map, List.length_map]
    omega
  · rcases goods_mem.mp hb with ⟨t, ht, rfl⟩ | ⟨t, ht, rfl⟩ | ⟨t, ht, rfl⟩
    · rw [refs_lay rfl]; exact Nat.zero_le _
    · obtain ⟨as, rfl, hl, ha⟩ := h.i t ht
      have e : (⟨.img, imgL as⟩ : Bl).refs = as := by
        show refsL "image" (imgL as) = as
        unfold refsL
        rw [if_neg (by decide +kernel), if_pos rfl]
        exact (fault_img ha (by omega)).2
      rw [e]; exact hl
    · have e : (⟨.bun, bunOf t⟩ : Bl).refs = [adrL "image" t] := by
        show refsL "bundle" (bunOf t) = _
        unfold refsL
        rw [if_neg (by decide +kernel), if_neg (by decide +kernel)]
        show (prs (bunL [(millL, adrL "image" t)])).map (·.2) = _
        rw [(fault_bun (mill_wfb t)).2]
        rfl
      rw [e]; show 1 ≤ 3; decide
end Lw

/-! ## the goods are drawn -/
namespace Lw
open PySem L2
open PyProof.Rows (envOfC sortedS)
theorem Stp.own0 {I : Nat → Prop} {c c' : Addr → Nat} {H H' H2 : Hp} {p : Addr} {o : HO} (s : Stp I c c' H H') (hp : H p = none) (h : H2 p = some o) (k : ∀ b, b ≠ p → H2 b = H' b) : Stp I c c' H H2 :=
  ⟨fun b u e n => by rw [k b (ne_of_none e hp)]; exact s.keep b u e n, s.col, fun b xs e => by rw [k b (ne_of_none e hp)]; exact s.tup b xs e, fun b e => by
    by_cases z : b = p
    · subst z; rw [h] at e; cases e
    · exact s.fre b (by rw [← k b z]; exact e)⟩
theorem call_len_seqK {X : Cx} (K : PySem.W.Frag) (h : X.K = K) : CallR X (.builtin "len") (rLenQ K) := by subst h; exact call_len_seq'
structure GdAt (c : Addr → Nat) (H : Hp) (t : Addr) (ls is : List (List Nat)) : Prop where
  ex : ∃ pl pi : Addr, H t = some (.tup [.ref pl, .ref pi]) ∧ c pl = 9 ∧ H pl = some (.lst (ls.map strS)) ∧ c pi = 9 ∧ H pi = some (.lst (is.map strS))
theorem GdAt.frame {I : Nat → Prop} {c c' : Addr → Nat} {H H' : Hp} {t : Addr} {ls is : List (List Nat)} (h : GdAt c H t ls is) (s : Stp I c c' H H') (hi : ¬ I 9) : GdAt c' H' t ls is := by
  obtain ⟨pl, pi, h1, h2, h3, h4, h5⟩ := h.ex
  exact ⟨pl, pi, s.tup _ _ h1, by rw [s.col _ _ h3, h2], s.keep _ _ h3 (by rw [h2]; exact hi), by rw [s.col _ _ h5, h4], s.keep _ _ h5 (by rw [h4]; exact hi)⟩
def spGoods : Sp := fun vs H Q _ => ∃ (c : Addr → Nat) (S : Addr), vs = [.ref S] ∧ StateAt c H S ∧ ∀ (t : Addr) (ls is : List (List Nat)) (c' : Addr → Nat) (H' : Hp), GW ls is → GdAt c' H' t ls is → StateAt c' H' S → Stp (fun i => i = 0) c c' H H' → Q (.ref t) H'
section
variable {P : Program} {w : World} {K : PySem.W.Frag} {mg : Str → Option Value} {base : Heap} {C_Claims C_Collector C_Store C_Uploads C_Registry C_Refused C_Malformed a_KINDS a_BELOW a_CLAIMED : Addr}
theorem ok__law_goods (T : Txt w K mg C_Claims C_Collector C_Store C_Uploads C_Registry C_Refused C_Malformed a_KINDS a_BELOW a_CLAIMED) : Cal P w K mg base 3 "_law_goods" spGoods := by
  have c__law_take : Cal P w K mg base 1 "_law_take" spTake := ok__law_take T
  have c__law_text : Cal P w K mg base 2 "_law_text" spText := ok__law_text T
  have c_address_of : Cal P w K mg base 1 "address_of" spAddr := ok_address_of T
  have c_image_text : Cal P w K mg base 1 "image_text" spImg := ok_image_text T
  refine cal_mk T.d__law_goods sc__law_goods (fun vs H Q E h => ?_) (fun f cdv A outer s H vs Q E hr h => ?_)
  · obtain ⟨c, S, rfl, _⟩ := h
    rfl
  · obtain ⟨c, S, rfl, S0, k⟩ := h
    have hu := hu_of hr
    refine ⟨_, (pss_cons (ps_set (i := 1) sc__law_goods.nd rfl (by first | exact Or.inl rfl | exact Or.inr rfl) (pe_lc (own := [("_law_k", 3)]) (g := (gName 3)) (by rfl) sc__law_goods.nd (pi_range1 (by rfl) T.n_range (pa_cons (pe_op op_add (pe_int) (pe_c c__law_take hr (by first | decide | omega) rfl (pa_cons (pv 0) (pa_cons (pe_int) pa_nil)))) pa_nil)) (blkOk_by (own := [("_law_k", 3)]) (N := n__law_goods) (sc := defScope s__law_goods) (by decide +kernel)) (fun _ _ _ _ _ => (pg_name (i := 3) sc__law_goods.nd rfl (by first | exact Or.inl rfl | exact Or.inr rfl))) (fun _ _ _ _ _ => pts_nil) (fun _ _ _ _ _ => (pe_c c__law_text hr (by first | decide | omega) rfl (pa_cons (pv 0) (pa_cons (pe_int) pa_nil))))))
      (pss_cons (ps_set (i := 2) sc__law_goods.nd rfl (by first | exact Or.inl rfl | exact Or.inr rfl) (pe_lst pa_nil))
      (pss_cons (ps_for PassesOwn.never rfl (pi_range1 (by rfl) T.n_range (pa_cons (pe_op op_add (pe_int) (pe_c c__law_take hr (by first | decide | omega) rfl (pa_cons (pv 0) (pa_cons (pe_int) pa_nil)))) pa_nil)) (pg_name (i := 3) sc__law_goods.nd rfl (by first | exact Or.inl rfl | exact Or.inr rfl)) (pss_cons (ps_setLc (i := 4) (own := [("_law_j", 5)]) (g := (gName 5)) (by rfl) sc__law_goods.nd rfl rfl (sw_true rfl rfl rfl (by decide +kernel)) (pi_range1 (by rfl) T.n_range (pa_cons (pe_c c__law_take hr (by first | decide | omega) rfl (pa_cons (pv 0) (pa_cons (pe_int) pa_nil))) pa_nil)) (blkOk_by (own := [("_law_j", 5)]) (N := n__law_goods) (sc := defScope s__law_goods) (by decide +kernel)) (fun _ _ _ _ _ => (pg_name (i := 5) sc__law_goods.nd rfl (by first | exact Or.inl rfl | exact Or.inr rfl))) (fun _ _ _ _ _ => pts_nil) (fun _ _ _ _ _ => (pe_ix (ix_listK K rfl) (pv 1) (pe_c c__law_take hr (by first | decide | omega) rfl (pa_cons (pv 0) (pa_cons (pe_callB (call_len_seqK K rfl) (by rfl) T.n_len (by decide +kernel) (pa_cons (pv 1) pa_nil)) pa_nil))) (fun _ _ => rfl))))
      (pss_one (ps_expr (pe_bm PySem.F.plainAttrs_list PySem.F.slot_list_append PySem.F.type_list_append mt_append (pv 2) (pa_cons (pe_c c_image_text hr (by first | decide | omega) rfl (pa_cons (pe_lc (own := [("_law_text_here", 6)]) (g := (gName 6)) (by rfl) sc__law_goods.nd (pi_list (pv 4)) (blkOk_by (own := [("_law_text_here", 6)]) (N := n__law_goods) (sc := defScope s__law_goods) (by decide +kernel)) (fun _ _ _ _ _ => (pg_name (i := 6) sc__law_goods.nd rfl (by first | exact Or.inl rfl | exact Or.inr rfl))) (fun _ _ _ _ _ => pts_nil) (fun _ _ _ _ _ => (pe_c c_address_of hr (by first | decide | omega) rfl (pa_cons (pe_str) (pa_cons (pv 6) pa_nil))))) pa_nil)) pa_nil))))))
      (pss_one (ps_ret (pe_tup (pa_cons (pv 1) (pa_cons (pv 2) pa_nil)))))))), ?_⟩
    walk_at "lw"
    refine ⟨c, S, 4, rfl, S0, by decide, by decide, fun r c1 H1 r0 r1 S1 st1 => ?_⟩
    walk_at "lw"
    refine g_ritR (by omega) (by omega) ?_
    refine lc_draw walk_rng (by rw [List.length_map, List.length_range]; omega) strS (fun l => l.length ≤ 3 ∧ okC l) S1 (fun x => rfl) (fun x c5 H5 R S5 st5 kk => ?_) ?_
    · walk_at "lw"
      refine ⟨c5, S, 3, rfl, S5, by decide, by decide, fun l c6 H6 hl hx S6 st6 => ?_⟩
      exact kk l c6 H6 ⟨by omega, signs8_okC hx⟩ S6 st6
    intro pl ls c2 H2 npl hlen hls S2 st2 hpl cpl
    rw [List.length_map, List.length_range] at hlen
    have st2 := st1.trans st2
    clear st1 S1
    walk_at "lw"
    refine g_klst (by show 0 ≤ 100; decide) fun pi H3 npi s3 hpi => ?_
    have st3 : Stp (fun i => i = 0) c2 (Stp.paint c2 pi 9) H2 H3 := L2x_sameN s3 npi
    have S3 := S2.frame (I := fun _ => False) (L2x_sameN (i := 9) s3 npi) (by decide)
    have cpi : Stp.paint c2 pi 9 pi = 9 := Stp.paint_same
    have cpl3 : Stp.paint c2 pi 9 pl = 9 := by rw [st3.col _ _ hpl, cpl]
    have hpl3 := s3.at hpl
    have npp : pl ≠ pi := ne_of_none hpl npi
    have st2f : H pi = none := st2.fre pi npi
    generalize Stp.paint c2 pi 9 = c3 at st3 S3 cpi cpl3
    have st3 := st2.trans st3
    clear st2 S2 s3 hpl cpl npi
    walk_at "lw"
    refine ⟨c3, S, 3, rfl, S3, by decide, by decide, fun r4 c4 H4 r40 r41 S4 st4 => ?_⟩
    have hpl4 := st4.keep _ _ hpl3 (by rw [cpl3]; decide)
    have hpi4 := st4.keep _ _ hpi (by rw [cpi]; decide)
    have cpl4 : c4 pl = 9 := by rw [st4.col _ _ hpl3, cpl3]
    have cpi4 : c4 pi = 9 := by rw [st4.col _ _ hpi, cpi]
    have st4 := st3.trans st4
    have npi0 : H pi = none := st2f
    walk_at "lw"
    refine g_for1 (r := 1 + r4) (by omega) (by omega) (fun i σ H' => ∃ (c' : Addr → Nat) (is : List (List Nat)) (v3 v4 v5 v6 : Option V), σ = [some (.ref S), some (.ref pl), some (.ref pi), v3, v4, v5, v6] ∧ StateAt c' H' S ∧ Stp (fun i => i = 0) c c' H H' ∧ c' pl = 9 ∧ H' pl = some (.lst (ls.map strS)) ∧ c' pi = 9 ∧ H' pi = some (.lst (is.map strS)) ∧ is.length = i ∧
      ∀ t ∈ is, ∃ as : List (List Nat), t = imgL as ∧ as.length ≤ 3 ∧ ∀ a ∈ as, isAdr a = true) ⟨c4, [], none, none, none, none, rfl, S4, st4, cpl4, hpl4, cpi4, hpi4, rfl, fun t ht => nomatch ht⟩ ?_ ?_
    · clear S4 st4 hpl4 hpi4 cpl4 cpi4
      rintro i σ H5 hi ⟨c5, is, v3, v4, v5, v6, rfl, S5, st5, cpl5, hpl5, cpi5, hpi5, hil, his⟩
      walk_at "lw"
      refine ⟨c5, S, 4, rfl, S5, by decide, by decide, fun r6 c6 H6 r60 r61 S6 st6 => ?_⟩
      have hpl6 := st6.keep _ _ hpl5 (by rw [cpl5]; decide)
      have hpi6 := st6.keep _ _ hpi5 (by rw [cpi5]; decide)
      have cpl6 : c6 pl = 9 := by rw [st6.col _ _ hpl5, cpl5]
      have cpi6 : c6 pi = 9 := by rw [st6.col _ _ hpi5, cpi5]
      have st6 := st5.trans st6
      clear S5 st5 hpl5 hpi5 cpl5 cpi5
      walk_at "lw"
      refine g_ritR (by omega) (by omega) ?_
      refine lc_draw walk_rng (by rw [List.length_map, List.length_range]; omega) strS (fun l => l ∈ ls) S6 (fun x => rfl) (fun x c7 H7 R S7 st7 kk => ?_) ?_
      · have hpl7 := st7.keep _ _ hpl6 (by rw [cpl6]; decide)
        have cpl7 : c7 pl = 9 := by rw [st7.col _ _ hpl6, cpl6]
        walk_at "lw"
        refine ⟨c7, S, _, rfl, S7, by rw [List.length_map]; omega, by rw [List.length_map]; omega, fun r8 c8 H8 r80 r81 S8 st8 => ?_⟩
        obtain ⟨v, hv, hat⟩ := at_in (xs := ls.map strS) (i := r8) r80 r81
        obtain ⟨l, hl, rfl⟩ := map_at hv
        refine g_rix (SqL.of (st8.keep _ _ hpl7 (by rw [cpl7]; decide))) hat ?_
        exact kk l c8 H8 (List.mem_of_getElem? hl) S8 st8
      intro q cs c7 H7 nq hcl hcs S7 st7 hq cq
      rw [List.length_map, List.length_range] at hcl
      have hpl7 := st7.keep _ _ hpl6 (by rw [cpl6]; decide)
      have hpi7 := st7.keep _ _ hpi6 (by rw [cpi6]; decide)
      have cpl7 : c7 pl = 9 := by rw [st7.col _ _ hpl6, cpl6]
      have cpi7 : c7 pi = 9 := by rw [st7.col _ _ hpi6, cpi6]
      have st7 := st6.trans st7
      clear S6 st6 hpl6 hpi6 cpl6 cpi6 nq
      walk_at "lw"
      refine g_tyL hpi7 ?_
      walk_at "lw"
      refine g_ritL (SqL.of hq) ?_
      refine lc_map (G := fun H' => SqL K H' q (cs.map strS)) walk_list (fun H' s => SqL.of (s.at hq)) (by rw [List.length_map]; omega) (fun _ => true) (fun v => match v with | .str x => .str (adr "layer" x.cps.toList) | _ => v) ?_ ?_
      · intro x hx H' R s3 kk
        obtain ⟨l, hl, rfl⟩ := List.mem_map.mp hx
        walk_at "lw"
        refine kk _ rfl (fun H'' R s2 r => ?_) (fun hp' H'' R s2 r => ?_)
        · walk_at "lw"
          exact r
        · walk_at "lw"
          refine ⟨"layer", l, rfl, by decide +kernel, ?_⟩
          exact r _ (Same.refl _)
      intro q2 H8 nq2 s8 hq2
      rw [List.filter_eq_self.mpr (fun _ _ => rfl), List.map_map] at hq2
      have hq2 : H8 q2 = some (.lst ((cs.map (adrL "layer")).map strS)) := by rw [hq2, List.map_map]; rfl
      walk_at "lw"
      refine ⟨q2, cs.map (adrL "layer"), rfl, hq2, by rw [List.length_map]; omega, fun a ha => ?_, fun H9 s9 => ?_⟩
      · obtain ⟨t, _, rfl⟩ := List.mem_map.mp ha
        rw [adr_len (adr_is _ _)]; decide
      have s9 := s8.trans s9
      walk_at "lw"
      refine g_append (s9.at hpi7) (by rw [List.length_map]; omega) fun H10 h10 k10 => ?_
      walk_at "lw"
      refine ⟨c7, is ++ [imgL (cs.map (adrL "layer"))], _, _, _, _, rfl, ?_, ?_, cpl7, by rw [k10 pl npp]; exact s9.at hpl7, cpi7, by rw [h10, List.map_append]; rfl, by rw [List.length_append, hil]; rfl, fun t ht => ?_⟩
      · exact (S7.frame (I := fun _ => False) (Stp.same s9) (by decide)).frame (I := fun i => i = 9) (Stp.ch (s9.at hpi7) cpi7 (fun xs z => by cases z) h10 k10) (by decide)
      · exact (st7.trans (Stp.same s9)).own0 npi0 h10 k10
      · rcases List.mem_append.mp ht with z | z
        · exact his t z
        · rw [List.mem_singleton.mp z]
          refine ⟨_, rfl, by rw [List.length_map]; omega, fun a ha => ?_⟩
          obtain ⟨t, _, rfl⟩ := List.mem_map.mp ha
          exact adr_is _ _
    · rintro σ H5 ⟨c5, is, v3, v4, v5, v6, rfl, S5, st5, cpl5, hpl5, cpi5, hpi5, hil, his⟩
      walk_at "lw"
      refine g_ktup (by show 2 ≤ 100; decide) fun t H6 nt s6 ht => ?_
      walk_at "lw"
      exact k t ls is c5 H6 ⟨by omega, by omega, by omega, by omega, hls, his⟩ ⟨pl, pi, ht, cpl5, s6.at hpl5, cpi5, s6.at hpi5⟩ (S5.frame (I := fun _ => False) (Stp.same s6) (by decide)) (st5.trans (Stp.same s6))
end
end Lw

/-! ## do goods clash? -/
namespace Lw
open PySem L2
open PyProof.Rows (envOfC sortedS)
def InjB (bs : List Bl) : Prop := ∀ b ∈ bs, ∀ b' ∈ bs, adrB b = adrB b' → b = b'
def TupL (H : Hp) (ys : List V) (bs : List Bl) : Prop := ys.length = bs.length ∧ ∀ (i : Nat) (y : V) (b : Bl), ys[i]? = some y → bs[i]? = some b → ∃ t, y = .ref t ∧ H t = some (.tup [.str b.k.s, strS b.t])
theorem TupL.same {H H' : Hp} {ys : List V} {bs : List Bl} (h : TupL H ys bs) (s : Same H H') : TupL H' ys bs := ⟨h.1, fun i y b hy hb => by
  obtain ⟨t, e, ht⟩ := h.2 i y b hy hb
  exact ⟨t, e, s.at ht⟩⟩
theorem TupL.app {H : Hp} {ys zs : List V} {bs cs : List Bl} (h : TupL H ys bs) (g : TupL H zs cs) : TupL H (ys ++ zs) (bs ++ cs) := by
  refine ⟨by rw [List.length_append, List.length_append, h.1, g.1], fun i y b hy hb => ?_⟩
  by_cases hi : i < ys.length
  · rw [List.getElem?_append_left hi] at hy
    rw [List.getElem?_append_left (by rw [← h.1]; exact hi)] at hb
    exact h.2 i y b hy hb
  · rw [List.getElem?_append_right (by omega)] at hy
    rw [List.getElem?_append_right (by rw [← h.1]; omega), ← h.1] at hb
    exact g.2 _ y b hy hb
theorem TupL.of {H : Hp} {k : Kd} {ts : List (List Nat)} {ys : List V} (h : ys.length = (ts.map strS).length) (g : ∀ (i : Nat) (x y : V), (ts.map strS)[i]? = some x → ys[i]? = some y → ∃ t, y = .ref t ∧ H t = some (.tup [.str k.s, x])) : TupL H ys (ts.map fun t => ⟨k, t⟩) := by
  refine ⟨by rw [h, List.length_map, List.length_map], fun i y b hy hb => ?_⟩
  rw [List.getElem?_map] at hb
  cases e : ts[i]? with
  | none => rw [e] at hb; cases hb
  | some t =>
    rw [e] at hb
    cases hb
    exact g i (strS t) y (by rw [List.getElem?_map, e]; rfl) hy
theorem S_inj {a b : List Nat} (h : SX.S a = SX.S b) : a = b := congrArg (fun x : Str => x.cps.toList) h
theorem GW.ok0 {ls is : List (List Nat)} (h : GW ls is) : (∀ b ∈ goods ls is, okC b.t) ∧ (goods ls is).length ≤ 20 := by
  refine ⟨fun b hb => ?_, ?_⟩
  · rcases goods_mem.mp hb with ⟨t, ht, rfl⟩ | ⟨t, ht, rfl⟩ | ⟨t, ht, rfl⟩
    · exact (h.l t ht).2
    · obtain ⟨as, rfl, hl, ha⟩ := h.i t ht
      exact (img_ok ha (by omega)).c
    · exact (bun_ok (mill_wfb t)).c
  · have := h.l1
    have := h.i1
    unfold goods
    rw [List.length_append, List.length_append, List.length_map, List.length_map, List.length_map]
    omega
def spClash : Sp := fun vs H Q _ => ∃ (q : Addr) (ys : List V) (bs : List Bl), vs = [.ref q] ∧ H q = some (.lst ys) ∧ TupL H ys bs ∧ bs.length ≤ 1000 ∧ (∀ b ∈ bs, okC b.t) ∧ ∀ (r : Bool) H', Same H H' → (r = false → InjB bs) → Q (.bl r) H'
def spGClash : Sp := fun vs H Q _ => ∃ (c : Addr → Nat) (t : Addr) (ls is : List (List Nat)), vs = [.ref t] ∧ GdAt c H t ls is ∧ GW ls is ∧ ∀ (r : Bool) H', Same H H' → (r = false → InjB (goods ls is)) → Q (.bl r) H'
section
variable {P : Program} {w : World} {K : PySem.W.Frag} {mg : Str → Option Value} {base : Heap} {C_Claims C_Collector C_Store C_Uploads C_Registry C_Refused C_Malformed a_KINDS a_BELOW a_CLAIMED : Addr}
theorem ok__law_clash (T : Txt w K mg C_Claims C_Collector C_Store C_Uploads C_Registry C_Refused C_Malformed a_KINDS a_BELOW a_CLAIMED) : Cal P w K mg base 2 "_law_clash" spClash := by
  have c_address_of : Cal P w K mg base 1 "address_of" spAddr := ok_address_of T
  refine cal_mk T.d__law_clash sc__law_clash (fun vs H Q E h => ?_) (fun f cdv A outer s H vs Q E hr h => ?_)
  · obtain ⟨q, ys, bs, rfl, _⟩ := h
    rfl
  · obtain ⟨q, ys, bs, rfl, hq, tl, hl, hok, k⟩ := h
    have hu := hu_of hr
    refine ⟨_, (pss_cons (ps_set (i := 1) sc__law_clash.nd rfl (by first | exact Or.inl rfl | exact Or.inr rfl) (pe_dnewK))
      (pss_cons (ps_for PassesOwn.never rfl (pi_list (pv 0)) (pg_tup (by rfl) (pgs_cons (pg_name (i := 2) sc__law_clash.nd rfl (by first | exact Or.inl rfl | exact Or.inr rfl)) (pgs_cons (pg_name (i := 3) sc__law_clash.nd rfl (by first | exact Or.inl rfl | exact Or.inr rfl)) pgs_nil))) (pss_cons (ps_set (i := 4) sc__law_clash.nd rfl (by first | exact Or.inl rfl | exact Or.inr rfl) (pe_c c_address_of hr (by first | decide | omega) rfl (pa_cons (pv 2) (pa_cons (pv 3) pa_nil))))
      (pss_cons (ps_if (PW.pt (pw_and (pt_cmp (pc_din hu (pv 4) (pv 1))) (pw_and1 (pt_cmpR (op_neD hr.units) (pe_dget hu (pv 1) (pv 4) (fun _ _ => rfl)) (pe_tup (pa_cons (pv 2) (pa_cons (pv 3) pa_nil))) (nomark _))))) (pss_one (ps_ret (pe_bl))) pss_nil)
      (pss_one (ps_dput hu (pv 1) (pv 4) (pe_tup (pa_cons (pv 2) (pa_cons (pv 3) pa_nil))) rfl)))))
      (pss_one (ps_ret (pe_bl))))), ?_⟩
    walk_at "lw"
    refine g_dnew fun d H1 nd0 s1 hd => ?_
    walk_at "lw"
    refine g_ritL (SqL.of (s1.at hq)) ?_
    refine for_at (G := fun H' => SqL K H' q ys) walk_list (fun i σ H' => ∃ (ks : List Str) (B : Str → Bl) (v2 v3 v4 : Option V), σ = [some (.ref q), some (.ref d), v2, v3, v4] ∧ Same H H' ∧ BlobD H' d ks B ∧ ks.length ≤ i ∧ (∀ a ∈ ks, okC (B a).t) ∧ ∀ b ∈ bs.take i, adrB b ∈ ks ∧ B (adrB b) = b)
      ⟨[], fun _ => ⟨.lay, []⟩, none, none, none, rfl, s1, ⟨fun _ => d, hd, fun a ha => nomatch ha⟩, Nat.le_refl _, (fun a ha => nomatch ha), fun b hb => nomatch hb⟩ (fun i σ H' ⟨_, _, _, _, _, _, s, _⟩ => SqL.of (s.at hq)) ?_ ?_
    · rintro i y σ H2 hy ⟨ks, B, v2, v3, v4, rfl, s2, bd, kl, kok, hin⟩
      have hil : i < ys.length := (List.getElem?_eq_some_iff.mp hy).1
      have hib : i < bs.length := by rw [← tl.1]; exact hil
      obtain ⟨t, rfl, ht⟩ := tl.2 i y bs[i] hy (List.getElem?_eq_getElem hib)
      have hbi : bs[i]? = some bs[i] := List.getElem?_eq_getElem hib
      have hbm : bs[i] ∈ bs := List.getElem_mem hib
      generalize bs[i] = b at ht hbi hbm
      obtain ⟨Ab, b1, b2⟩ := bd
      refine g_gtup (SqT.of (s2.at ht)) rfl ?_
      walk_at "lw"
      refine ⟨b.k.s, b.t, rfl, Kd.s_kind _, ?_⟩
      have bs_ok : OkB [.inr b.k.s, .inr (SX.S b.t)] := okbS (Kd.s_ok _) (okbS (okS (hok b hbm)) okb0)
      walk_at "lw"
      refine g_rdinS (.of b1) ?_
      rw [dec_in]
      by_cases hm : adrB b ∈ ks
      · rw [show decide (adr b.k.s b.t ∈ ks) = true from decide_eq_true hm]
        walk_at "lw"
        refine g_rdgetS (.of b1) (by rw [valV_mkS]; exact if_pos hm) ?_
        walk_at "lw"
        refine g_ktup (by show 2 ≤ 100; decide) fun t4 H4 nt4 s4 ht4 => ?_
        have B_ok : OkB [.inr (B (adrB b)).k.s, .inr (SX.S (B (adrB b)).t)] := okbS (Kd.s_ok _) (okbS (okS (kok _ hm)) okb0)
        refine g_rneK (a := [.inr (B (adrB b)).k.s, .inr (SX.S (B (adrB b)).t)]) (b := [.inr b.k.s, .inr (SX.S b.t)]) (s4.at (b2 _ hm)) ht4 B_ok bs_ok ?_
        walk_at "lw"
        refine ifn2 (fun he => ?_) (fun he => ?_)
        · have hcon : adrB b ∈ ks → B (adrB b) = b := fun _ => by
            rw [List.cons.injEq, List.cons.injEq] at he
            have h1 := Kd.s_inj.mp (Sum.inr.inj he.1)
            have h2 := SX.S_inj (Sum.inr.inj he.2.1)
            cases hB : B (adrB b)
            cases b
            rw [hB] at h1 h2
            dsimp only at h1 h2
            rw [h1, h2]
          walk_at "lw"
          refine g_ktup (by show 2 ≤ 100; decide) fun t5 H5 nt5 s5 ht5 => ?_
          walk_at "lw"
          refine g_rdputS (s5.at (s4.at b1)) (by rw [mkS_len]; omega) fun H6 h6 k6 => ?_
          walk_at "lw"
          refine ⟨putS ks (adrB b), updB B (adrB b) b, _, _, _, rfl, (s2.trans (s4.trans s5)).chg nd0 k6, BlobD.put (b := b) (a := adrB b) (s5.at (s4.at b1)) (fun a ha => s5.at (s4.at (b2 a ha))) ht5 h6 k6, Nat.le_trans putS_len (by omega), fun a ha => ?_, fun b' hb' => ?_⟩
          · by_cases e : a = adrB b
            · rw [e, updB_same]; exact hok b hbm
            · rw [updB_ne e]; exact kok a ((mem_putS.mp ha).resolve_right e)
          · rw [take_ok hbi] at hb'
            rcases List.mem_append.mp hb' with z | z
            · obtain ⟨z1, z2⟩ := hin b' z
              refine ⟨mem_putS.mpr (.inl z1), ?_⟩
              by_cases e : adrB b' = adrB b
              · rw [e, updB_same, ← hcon (by rw [← e]; exact z1), ← e, z2]
              · rw [updB_ne e, z2]
            · rw [List.mem_singleton.mp z]
              exact ⟨mem_putS.mpr (.inr rfl), updB_same⟩
        · walk_at "lw"
          exact k true H4 (s2.trans s4) fun z => by cases z
      · rw [show decide (adr b.k.s b.t ∈ ks) = false from decide_eq_false hm]
        have hcon : adrB b ∈ ks → B (adrB b) = b := fun z => absurd z hm
        walk_at "lw"
        refine g_ktup (by show 2 ≤ 100; decide) fun t5 H5 nt5 s5 ht5 => ?_
        walk_at "lw"
        refine g_rdputS (s5.at b1) (by rw [mkS_len]; omega) fun H6 h6 k6 => ?_
        walk_at "lw"
        refine ⟨putS ks (adrB b), updB B (adrB b) b, _, _, _, rfl, (s2.trans s5).chg nd0 k6, BlobD.put (b := b) (a := adrB b) (s5.at b1) (fun a ha => s5.at (b2 a ha)) ht5 h6 k6, Nat.le_trans putS_len (by omega), fun a ha => ?_, fun b' hb' => ?_⟩
        · by_cases e : a = adrB b
          · rw [e, updB_same]; exact hok b hbm
          · rw [updB_ne e]; exact kok a ((mem_putS.mp ha).resolve_right e)
        · rw [take_ok hbi] at hb'
          rcases List.mem_append.mp hb' with z | z
          · obtain ⟨z1, z2⟩ := hin b' z
            refine ⟨mem_putS.mpr (.inl z1), ?_⟩
            by_cases e : adrB b' = adrB b
            · rw [e, updB_same, ← hcon (by rw [← e]; exact z1), ← e, z2]
            · rw [updB_ne e, z2]
          · rw [List.mem_singleton.mp z]
            exact ⟨mem_putS.mpr (.inr rfl), updB_same⟩
    · rintro σ H2 ⟨ks, B, v2, v3, v4, rfl, s2, bd, kl, kok, hin⟩
      rw [tl.1, List.take_length] at hin
      walk_at "lw"
      refine k false H2 s2 fun _ b hb b' hb' e => ?_
      rw [← (hin b hb).2, ← (hin b' hb').2, e]
theorem ok__law_goods_clash (T : Txt w K mg C_Claims C_Collector C_Store C_Uploads C_Registry C_Refused C_Malformed a_KINDS a_BELOW a_CLAIMED) : Cal P w K mg base 3 "_law_goods_clash" spGClash := by
  have c_address_of : Cal P w K mg base 1 "address_of" spAddr := ok_address_of T
  have c_bundle_text : Cal P w K mg base 1 "bundle_text" spBun := ok_bundle_text T
  have c__law_clash : Cal P w K mg base 2 "_law_clash" spClash := ok__law_clash T
  refine cal_mk T.d__law_goods_clash sc__law_goods_clash (fun vs H Q E h => ?_) (fun f cdv A outer s H vs Q E hr h => ?_)
  · obtain ⟨c, t, ls, is, rfl, _⟩ := h
    rfl
  · obtain ⟨c, t, ls, is, rfl, ⟨pl, pi, ht, cpl, hpl, cpi, hpi⟩, gw, k⟩ := h
    have hu := hu_of hr
    have l1 := gw.l1
    have i1 := gw.i1
    refine ⟨_, (pss_cons (ps_asg (pv 0) (pg_tup (by rfl) (pgs_cons (pg_name (i := 1) sc__law_goods_clash.nd rfl (by first | exact Or.inl rfl | exact Or.inr rfl)) (pgs_cons (pg_name (i := 2) sc__law_goods_clash.nd rfl (by first | exact Or.inl rfl | exact Or.inr rfl)) pgs_nil))))
      (pss_cons (ps_setLc (i := 3) (own := [("_law_text_here", 5)]) (g := (gName 5)) (by rfl) sc__law_goods_clash.nd rfl rfl (sw_true rfl rfl rfl (by decide +kernel)) (pi_list (pv 2)) (blkOk_by (own := [("_law_text_here", 5)]) (N := n__law_goods_clash) (sc := defScope s__law_goods_clash) (by decide +kernel)) (fun _ _ _ _ _ => (pg_name (i := 5) sc__law_goods_clash.nd rfl (by first | exact Or.inl rfl | exact Or.inr rfl))) (fun _ _ _ _ _ => pts_nil) (fun _ _ _ _ _ => (pe_c c_bundle_text hr (by first | decide | omega) rfl (pa_cons (pe_lst (pa_cons (pe_tup (pa_cons (pe_str) (pa_cons (pe_c c_address_of hr (by first | decide | omega) rfl (pa_cons (pe_str) (pa_cons (pv 5) pa_nil))) pa_nil))) pa_nil)) pa_nil))))
      (pss_cons (ps_set (i := 4) sc__law_goods_clash.nd rfl (by first | exact Or.inl rfl | exact Or.inr rfl) (pe_op op_cat (pe_lc (own := [("_law_text_here", 5)]) (g := (gName 5)) (by rfl) sc__law_goods_clash.nd (pi_list (pv 1)) (blkOk_by (own := [("_law_text_here", 5)]) (N := n__law_goods_clash) (sc := defScope s__law_goods_clash) (by decide +kernel)) (fun _ _ _ _ _ => (pg_name (i := 5) sc__law_goods_clash.nd rfl (by first | exact Or.inl rfl | exact Or.inr rfl))) (fun _ _ _ _ _ => pts_nil) (fun _ _ _ _ _ => (pe_tup (pa_cons (pe_str) (pa_cons (pv 5) pa_nil))))) (pe_lc (own := [("_law_text_here", 5)]) (g := (gName 5)) (by rfl) sc__law_goods_clash.nd (pi_list (pv 2)) (blkOk_by (own := [("_law_text_here", 5)]) (N := n__law_goods_clash) (sc := defScope s__law_goods_clash) (by decide +kernel)) (fun _ _ _ _ _ => (pg_name (i := 5) sc__law_goods_clash.nd rfl (by first | exact Or.inl rfl | exact Or.inr rfl))) (fun _ _ _ _ _ => pts_nil) (fun _ _ _ _ _ => (pe_tup (pa_cons (pe_str) (pa_cons (pv 5) pa_nil)))))))
      (pss_one (ps_ret (pe_c c__law_clash hr (by first | decide | omega) rfl (pa_cons (pe_op op_cat (pv 4) (pe_lc (own := [("_law_text_here", 5)]) (g := (gName 5)) (by rfl) sc__law_goods_clash.nd (pi_list (pv 3)) (blkOk_by (own := [("_law_text_here", 5)]) (N := n__law_goods_clash) (sc := defScope s__law_goods_clash) (by decide +kernel)) (fun _ _ _ _ _ => (pg_name (i := 5) sc__law_goods_clash.nd rfl (by first | exact Or.inl rfl | exact Or.inr rfl))) (fun _ _ _ _ _ => pts_nil) (fun _ _ _ _ _ => (pe_tup (pa_cons (pe_str) (pa_cons (pv 5) pa_nil)))))) pa_nil))))))), ?_⟩
    walk_at "lw"
    refine g_gtup (SqT.of ht) rfl ?_
    walk_at "lw"
    refine g_ritL (SqL.of hpi) ?_
    refine lc_map (G := fun H' => SqL K H' pi (is.map strS)) walk_list (fun H' s => SqL.of (s.at hpi)) (by rw [List.length_map]; omega) (fun _ => true) (fun v => match v with | .str x => strS (bunOf x.cps.toList) | _ => v) ?_ ?_
    · intro x hx H' R s3 kk
      obtain ⟨l, hl, rfl⟩ := List.mem_map.mp hx
      walk_at "lw"
      refine kk _ rfl (fun H'' R s2 r => ?_) (fun hp' H'' R s2 r => ?_)
      · walk_at "lw"
        exact r
      · walk_at "lw"
        refine ⟨"image", l, rfl, by decide +kernel, ?_⟩
        walk_at "lw"
        refine g_ktup (by show 2 ≤ 100; decide) fun t4 H4 nt4 s4 ht4 => ?_
        walk_at "lw"
        refine g_klst (by show 1 ≤ 100; decide) fun q5 H5 nq5 s5 hq5 => ?_
        walk_at "lw"
        refine ⟨q5, [(t4, millL, adrL "image" l)], rfl, hq5, fun e he => ?_, by show 1 ≤ 100; decide, fun e he => ?_, fun H6 s6 => ?_⟩
        · rw [List.mem_singleton.mp he]
          exact s5.at ht4
        · rw [List.mem_singleton.mp he]
          show millL.length + (adrL "image" l).length ≤ 1000
          rw [adr_len (adr_is _ _)]; decide
        · exact r H6 (s4.trans (s5.trans s6))
    intro qb H1 nqb s1 hqb
    rw [List.filter_eq_self.mpr (fun _ _ => rfl), List.map_map] at hqb
    have hqb : H1 qb = some (.lst ((is.map bunOf).map strS)) := by rw [hqb, List.map_map]; rfl
    walk_at "lw"
    refine g_ritL (SqL.of (s1.at hpl)) ?_
    refine lc_new (G := fun H' => SqL K H' pl (ls.map strS)) (fun x y H => ∃ t, y = .ref t ∧ H t = some (.tup [.str Kd.lay.s, x])) (fun x y H1 H2 m ⟨t, e, h⟩ => ⟨t, e, m _ _ h⟩) walk_list (fun H' s => SqL.of (s.at (s1.at hpl))) (by rw [List.length_map]; omega) (fun x hx H' R s3 kk => ?_) ?_
    · walk_at "lw"
      refine kk _ rfl fun H'' R s2 r => ?_
      walk_at "lw"
      refine g_ktup (by show 2 ≤ 100; decide) fun t4 H4 nt4 s4 ht4 => ?_
      exact r _ H4 s4 ⟨t4, rfl, ht4⟩
    intro q2 ys2 H2 nq2 s2 hl2 hy2 hq2
    have tl2 := TupL.of (k := .lay) hl2 hy2
    have s12 := s1.trans s2
    walk_at "lw"
    refine g_ritL (SqL.of (s12.at hpi)) ?_
    refine lc_new (G := fun H' => SqL K H' pi (is.map strS)) (fun x y H => ∃ t, y = .ref t ∧ H t = some (.tup [.str Kd.img.s, x])) (fun x y H1 H2 m ⟨t, e, h⟩ => ⟨t, e, m _ _ h⟩) walk_list (fun H' s => SqL.of (s.at (s12.at hpi))) (by rw [List.length_map]; omega) (fun x hx H' R s3 kk => ?_) ?_
    · walk_at "lw"
      refine kk _ rfl fun H'' R s2 r => ?_
      walk_at "lw"
      refine g_ktup (by show 2 ≤ 100; decide) fun t4 H4 nt4 s4 ht4 => ?_
      exact r _ H4 s4 ⟨t4, rfl, ht4⟩
    intro q3 ys3 H3 nq3 s3 hl3 hy3 hq3
    have tl3 := TupL.of (k := .img) hl3 hy3
    have e2 : ys2.length = ls.length := by rw [hl2, List.length_map]
    have e3 : ys3.length = is.length := by rw [hl3, List.length_map]
    walk_at "lw"
    refine g_cat (s3.at hq2) hq3 (by omega) fun q4 H4 nq4 s4 hq4 => ?_
    have tl4 := ((tl2.same s3).app tl3).same s4
    have s14 := s12.trans (s3.trans s4)
    walk_at "lw"
    refine g_ritL (SqL.of ((s2.trans (s3.trans s4)).at hqb)) ?_
    refine lc_new (G := fun H' => SqL K H' qb ((is.map bunOf).map strS)) (fun x y H => ∃ t, y = .ref t ∧ H t = some (.tup [.str Kd.bun.s, x])) (fun x y H1 H2 m ⟨t, e, h⟩ => ⟨t, e, m _ _ h⟩) walk_list (fun H' s => SqL.of (s.at ((s2.trans (s3.trans s4)).at hqb))) (by rw [List.length_map, List.length_map]; omega) (fun x hx H' R s3 kk => ?_) ?_
    · walk_at "lw"
      refine kk _ rfl fun H'' R s2 r => ?_
      walk_at "lw"
      refine g_ktup (by show 2 ≤ 100; decide) fun t4 H4 nt4 s4 ht4 => ?_
      exact r _ H4 s4 ⟨t4, rfl, ht4⟩
    intro q5 ys5 H5 nq5 s5 hl5 hy5 hq5
    have tl5 := TupL.of (k := .bun) hl5 hy5
    have e5 : ys5.length = is.length := by rw [hl5, List.length_map, List.length_map]
    walk_at "lw"
    refine g_cat (s5.at hq4) hq5 (by rw [List.length_append]; omega) fun q6 H6 nq6 s6 hq6 => ?_
    have tl6 := ((tl4.same s5).app tl5).same s6
    rw [List.map_map] at tl6
    walk_at "lw"
    refine ⟨q6, _, goods ls is, rfl, hq6, tl6, by have := (gw.ok0).2; omega, (gw.ok0).1, fun r H7 s7 hr7 => ?_⟩
    walk_at "lw"
    exact k r H7 (s14.trans (s5.trans (s6.trans s7))) hr7
end
end Lw

/-! ## requests of the law -/
namespace Lw
open PySem L2
open PyProof.Rows (envOfC sortedS)
def IR0 : Nat → Prop := fun i => i = 0 ∨ IReg i
theorem ir0 : ∀ i, i = 0 → IR0 i := fun _ h => .inl h
theorem irR : ∀ i, IReg i → IR0 i := fun _ h => .inr h
theorem irF : ∀ i, False → IR0 i := fun _ h => h.elim
theorem noR0 : ¬ IReg 0 := by rintro (z | z | z | z | z) <;> cases z
theorem noR9 : ¬ IReg 9 := by rintro (z | z | z | z | z) <;> cases z
theorem no0R : ∀ i, i = 0 → ¬ IReg i := fun i z => by rw [z]; exact noR0
theorem noFR : ∀ i, False → ¬ IReg i := fun i z => z.elim
theorem Post.up {G : List Bl} {m m' : Nat} {s s' : Rg} {c : Int} {a w : Str} (h : Post G m s c a w s') (hm : m ≤ m') : Post G m' s c a w s' := ⟨h.j.mono hm, h.n, h.cs, h.L, h.lap, h.kept, h.new⟩
theorem Post.base {G : List Bl} {m : Nat} {s s1 s' : Rg} {c : Int} {a w : Str} (h : Post G m s1 c a w s') (e1 : s1.n = s.n) (e2 : s1.cs = s.cs) (e3 : s1.L = s.L) : Post G m s c a w s' :=
  ⟨h.j, h.n.trans e1, h.cs.trans e2, fun j y hy => h.L j y (by rw [e3]; exact hy), by rw [← e2]; exact h.lap, by rw [← e2, ← e3]; exact h.kept, h.new⟩
theorem start_yes {s : Rg} {i : Int} (h : i ∈ s.cs) : ans s (.start i) = ({ s with un := s.un + 1, ts := s.ts ++ [s.un + 1], X := fun j => if j = s.un + 1 then [] else s.X j }, [.inr "upload", .inl (s.un + 1)]) := if_pos h
theorem start_no {s : Rg} {i : Int} (h : i ∉ s.cs) : ans s (.start i) = (s, lapsedR i) := if_neg h
theorem part_yes {s : Rg} {u : Int} {t : List Nat} (h : u ∈ s.ts) (hX : s.X u = []) : (ans s (.part u 0 t)).1 = { s with X := fun j => if j = u then t else s.X j } := by
  show (partR s u 0 t).1 = _
  unfold partR
  rw [if_pos h, hX, if_pos (show (0 : Int) = (([] : List Nat).length : Int) from rfl)]
  rfl
theorem take_at {K : PySem.W.Frag} {c : Addr → Nat} {S q : Addr} {H : Hp} {xs : List V} {n : Int} {Q : VK} (S0 : StateAt c H S) (cq : c q ≠ 0) (hq : H q = some (.lst xs)) (hn : (xs.length : Int) = n) (h0 : 0 < n) (h1 : n ≤ 1000)
    (k : ∀ (j : Nat) (v : V) (c' : Addr → Nat) (H' : Hp), xs[j]? = some v → StateAt c' H' S → Stp (fun i => i = 0) c c' H H' → Q v H') : spTake ([.ref S, .int n] ++ []) H (fun y H2 => rIxL K (.ref q) y H2 Q) E0 := by
  refine ⟨c, S, n, rfl, S0, by omega, by omega, fun r c2 H2 r0 r1 S2 st2 => ?_⟩
  obtain ⟨v, hv, hat⟩ := at_in (xs := xs) (i := r) r0 (by omega)
  exact g_rix (SqL.of (st2.keep _ _ hq cq)) hat (k r.toNat v c2 H2 hv S2 st2)
section
variable (CS CC CU CO CR : Addr)
def spLUp : Sp := fun vs H Q _ => ∃ (c : Addr → Nat) (x : Rx) (s : Rg) (G : List Bl) (m : Nat) (i : Int) (t : List Nat), vs = [.ref x.R, .int i, .str (SX.S t)] ∧ RegAt CS CC CU CO CR c H x s ∧ GOk G ∧ J G m s ∧ m ≤ 500 ∧ (⟨.lay, t⟩ : Bl) ∈ G ∧ t.length ≤ 3 ∧ okC t ∧
  ∀ (c' : Addr → Nat) (H' : Hp) (tt : Addr) (s' : Rg) (w : Str) (r : List Key), Post G (m + 3) s i (adrB ⟨.lay, t⟩) w s' → RegAt CS CC CU CO CR c' H' x s' → Stp IReg c c' H H' → H' tt = some (.tup ((.inr w :: r : List Key).map kV)) → Q (.ref tt) H'
def spLReq : Sp := fun vs H Q _ => ∃ (c : Addr → Nat) (S t0 : Addr) (x : Rx) (s : Rg) (ls is : List (List Nat)) (m : Nat) (i : Int), vs = [.ref S, .ref x.R, .ref t0, .int i] ∧ StateAt c H S ∧ RegAt CS CC CU CO CR c H x s ∧ GdAt c H t0 ls is ∧ GW ls is ∧ GOk (goods ls is) ∧ J (goods ls is) m s ∧ m ≤ 500 ∧
  ∀ (c' : Addr → Nat) (H' : Hp) (tt t2 : Addr) (s' : Rg) (a w : Str) (r : List Key), Post (goods ls is) (m + 3) s i a w s' → StateAt c' H' S → RegAt CS CC CU CO CR c' H' x s' → Stp IR0 c c' H H' → H' tt = some (.tup [.str a, .ref t2]) → H' t2 = some (.tup ((.inr w :: r : List Key).map kV)) → Q (.ref tt) H'
end
section
variable {P : Program} {w : World} {K : PySem.W.Frag} {mg : Str → Option Value} {base : Heap} {C_Claims C_Collector C_Store C_Uploads C_Registry C_Refused C_Malformed a_KINDS a_BELOW a_CLAIMED : Addr}
theorem ok__law_upload (T : Txt w K mg C_Claims C_Collector C_Store C_Uploads C_Registry C_Refused C_Malformed a_KINDS a_BELOW a_CLAIMED) : Cal P w K mg base 14 "_law_upload" (spLUp C_Store C_Claims C_Uploads C_Collector C_Registry) := by
  have t_Registry_answer : Met P w K mg base 13 C_Registry "answer" (spAns C_Store C_Claims C_Uploads C_Collector C_Registry) := ok_Registry_answer T
  have c_address_of : Cal P w K mg base 1 "address_of" spAddr := ok_address_of T
  refine cal_mk T.d__law_upload sc__law_upload (fun vs H Q E h => ?_) (fun f cdv A outer s H vs Q E hr h => ?_)
  · obtain ⟨c, x, s, G, m, i, t, rfl, _⟩ := h
    rfl
  · obtain ⟨c, x, s', G, m, i, t, rfl, W, g, h, hm, hb, htl, hto, k⟩ := h
    have hu := hu_of hr
    obtain ⟨d1, _, _, _, _, _, _, _, _, _, _, _, _, hR, _⟩ := W.hs
    refine ⟨_, (pss_cons (ps_set (i := 3) sc__law_upload.nd rfl (by first | exact Or.inl rfl | exact Or.inr rfl) (pe_mt t_Registry_answer hr (by first | decide | omega) (pv 0) (pa_cons (pe_tup (pa_cons (pe_str) (pa_cons (pv 1) pa_nil))) pa_nil)))
      (pss_cons (ps_if (pt_cmpR op_ne (pe_ix ix_tup (pv 3) (pe_int) (fun _ _ => rfl)) (pe_str) (nomark _)) (pss_one (ps_ret (pv 3))) pss_nil)
      (pss_cons (ps_if (pt_cmpR op_ne (pv 2) (pe_str) (nomark _)) (pss_one (ps_expr (pe_mt t_Registry_answer hr (by first | decide | omega) (pv 0) (pa_cons (pe_tup (pa_cons (pe_str) (pa_cons (pe_ix ix_tup (pv 3) (pe_int) (fun _ _ => rfl)) (pa_cons (pe_int) (pa_cons (pv 2) pa_nil))))) pa_nil)))) pss_nil)
      (pss_one (ps_ret (pe_mt t_Registry_answer hr (by first | decide | omega) (pv 0) (pa_cons (pe_tup (pa_cons (pe_str) (pa_cons (pe_ix ix_tup (pv 3) (pe_int) (fun _ _ => rfl)) (pa_cons (pv 1) (pa_cons (pe_str) (pa_cons (pe_c c_address_of hr (by first | decide | omega) rfl (pa_cons (pe_str) (pa_cons (pv 2) pa_nil))) pa_nil)))))) pa_nil))))))), ?_⟩
    walk_at "lw"
    refine g_ktup (by show 2 ≤ 100; decide) fun t1 H1 nt1 s1 ht1 => ?_
    walk_at "lw"
    refine ⟨c, x, s', .start i, t1, rfl, ht1, W.same s1, h.rwf g (by omega), trivial, ansOk7 g h (fun _ _ _ z => by cases z), fun c2 H2 t2 W2 st2 ht2 => ?_⟩
    have j2 := h.start i
    have st2 : Stp IReg c c2 H H2 := (Stp.same s1).trans st2
    clear W hR s1 ht1 nt1
    walk_at "lw"
    by_cases hc : i ∈ s'.cs
    · have en : (ans s' (.start i)).1.n = s'.n := by rw [start_yes hc]
      have ec : (ans s' (.start i)).1.cs = s'.cs := by rw [start_yes hc]
      have eL : (ans s' (.start i)).1.L = s'.L := by rw [start_yes hc]
      have hu2 : s'.un + 1 ∈ (ans s' (.start i)).1.ts := by rw [start_yes hc]; exact List.mem_append.mpr (.inr List.mem_cons_self)
      have hX2 : (ans s' (.start i)).1.X (s'.un + 1) = [] := by rw [start_yes hc]; exact if_pos rfl
      have ht2 : H2 t2 = some (.tup [.str "upload", .int (s'.un + 1)]) := by rw [ht2, start_yes hc]; rfl
      generalize (ans s' (.start i)).1 = s2 at en ec eL hu2 hX2 W2 j2
      have fin : ∀ (c3 : Addr → Nat) (H3 : Hp) (s3 : Rg) (t3 : Addr) (Q3 : VK), J G (m + 2) s3 → s3.n = s'.n → s3.cs = s'.cs → s3.L = s'.L → s'.un + 1 ∈ s3.ts → s3.X (s'.un + 1) = t → RegAt C_Store C_Claims C_Uploads C_Collector C_Registry c3 H3 x s3 → Stp IReg c c3 H H3 → H3 t3 = some (.tup [.str "finish", .int (s'.un + 1), .int i, .str "layer", .str (adr "layer" t)]) → (∀ v H', Q v H' → Q3 v H') →
          spAns C_Store C_Claims C_Uploads C_Collector C_Registry [.ref x.R, .ref t3] H3 Q3 E0 := fun c3 H3 s3 t3 Q3 j3 e1 e2 e3 h1 h2 W3 st3 ht3 hQ => by
        refine ⟨c3, x, s3, .fin (s'.un + 1) i (adrB ⟨.lay, t⟩), t3, rfl, ht3, W3, j3.rwf g (by omega), trivial, ansOk7 g j3 (fun _ _ _ z => by cases z), fun c4 H4 t4 W4 st4 ht4 => ?_⟩
        obtain ⟨p1, p2⟩ := post_fin g j3 h1 h2 hb (c := i) (by rw [e2]; exact hc)
        rw [p1] at ht4
        exact hQ _ _ (k c4 H4 t4 _ "kept" _ (p2.base e1 e2 e3) W4 (st3.trans st4) ht4)
      walk_at "lw"
      refine g_rixT (SqT.of ht2) (j := 0) (v := .str "upload") rfl ?_
      walk_at "lw"
      obtain ⟨d1, _, _, _, _, _, _, _, _, _, _, _, _, hR, _⟩ := W2.hs
      refine ifn2 (fun he => ?_) (fun he => ?_)
      · have he : t = [] := SX.S_inj (by rw [← empty_S]; exact str_eq.mp he)
        walk_at "lw"
        refine g_rixT (SqT.of ht2) (j := 1) (v := .int (s'.un + 1)) rfl ?_
        walk_at "lw"
        refine ⟨"layer", t, rfl, by decide +kernel, ?_⟩
        walk_at "lw"
        refine g_ktup (by show 5 ≤ 100; decide) fun t3 H3 nt3 s3 ht3 => ?_
        exact fin c2 H3 s2 t3 _ (j2.mono (by omega)) en ec eL hu2 (by rw [hX2, he]) (W2.same s3) (st2.trans (Stp.same s3)) ht3 fun v H' q => q
      · walk_at "lw"
        refine g_rixT (SqT.of ht2) (j := 1) (v := .int (s'.un + 1)) rfl ?_
        walk_at "lw"
        refine g_ktup (by show 4 ≤ 100; decide) fun t3 H3 nt3 s3 ht3 => ?_
        walk_at "lw"
        refine ⟨c2, x, s2, .part (s'.un + 1) 0 t, t3, rfl, ht3, W2.same s3, j2.rwf g (by omega), ⟨hto, by omega⟩, ansOk7 g j2 (fun _ _ _ z => by cases z), fun c4 H4 t4 W4 st4 ht4 => ?_⟩
        have j4 := j2.part (s'.un + 1) 0 htl hto
        have ht2 := st4.tup _ _ (s3.at ht2)
        have st4 := (st2.trans (Stp.same s3)).trans st4
        rw [part_yes hu2 hX2] at W4 j4
        clear ht4 hR s3 ht3 nt3
        obtain ⟨d1, _, _, _, _, _, _, _, _, _, _, _, _, hR, _⟩ := W4.hs
        walk_at "lw"
        refine g_rixT (SqT.of ht2) (j := 1) (v := .int (s'.un + 1)) rfl ?_
        walk_at "lw"
        refine ⟨"layer", t, rfl, by decide +kernel, ?_⟩
        walk_at "lw"
        refine g_ktup (by show 5 ≤ 100; decide) fun t5 H5 nt5 s5 ht5 => ?_
        exact fin c4 H5 _ t5 _ j4 en ec eL hu2 (if_pos rfl) (W4.same s5) (st4.trans (Stp.same s5)) ht5 fun v H' q => q
    · rw [start_no hc] at W2 ht2
      have ht2 : H2 t2 = some (.tup [.str "lapsed", .int i]) := ht2
      walk_at "lw"
      refine g_rixT (SqT.of ht2) (j := 0) (v := .str "lapsed") rfl ?_
      walk_at "lw"
      exact k c2 H2 t2 s' "lapsed" [.inl i] ((post_lapsed h hc).up (by omega)) W2 st2 ht2
theorem ok__law_request (T : Txt w K mg C_Claims C_Collector C_Store C_Uploads C_Registry C_Refused C_Malformed a_KINDS a_BELOW a_CLAIMED) : Cal P w K mg base 15 "_law_request" (spLReq C_Store C_Claims C_Uploads C_Collector C_Registry) := by
  have t_Registry_answer : Met P w K mg base 13 C_Registry "answer" (spAns C_Store C_Claims C_Uploads C_Collector C_Registry) := ok_Registry_answer T
  have c_address_of : Cal P w K mg base 1 "address_of" spAddr := ok_address_of T
  have c_bundle_text : Cal P w K mg base 1 "bundle_text" spBun := ok_bundle_text T
  have c__law_take : Cal P w K mg base 1 "_law_take" spTake := ok__law_take T
  have c__law_upload : Cal P w K mg base 14 "_law_upload" (spLUp C_Store C_Claims C_Uploads C_Collector C_Registry) := ok__law_upload T
  refine cal_mk T.d__law_request sc__law_request (fun vs H Q E h => ?_) (fun f cdv A outer s H vs Q E hr h => ?_)
  · obtain ⟨c, S, t0, x, s, ls, is, m, i, rfl, _⟩ := h
    rfl
  · obtain ⟨c, S, t0, x, s', ls, is, m, i, rfl, S0, W, gd, gw, g, h, hm, k⟩ := h
    have hu := hu_of hr
    obtain ⟨pl, pi, ht0, cpl, hpl, cpi, hpi⟩ := gd.ex
    have l0 := gw.l0
    have l1 := gw.l1
    have i0 := gw.i0
    have i1 := gw.i1
    refine ⟨_, (pss_cons (ps_asg (pv 2) (pg_tup (by rfl) (pgs_cons (pg_name (i := 4) sc__law_request.nd rfl (by first | exact Or.inl rfl | exact Or.inr rfl)) (pgs_cons (pg_name (i := 5) sc__law_request.nd rfl (by first | exact Or.inl rfl | exact Or.inr rfl)) pgs_nil))))
      (pss_cons (ps_set (i := 6) sc__law_request.nd rfl (by first | exact Or.inl rfl | exact Or.inr rfl) (pe_c c__law_take hr (by first | decide | omega) rfl (pa_cons (pv 0) (pa_cons (pe_int) pa_nil))))
      (pss_cons (ps_set (i := 7) sc__law_request.nd rfl (by first | exact Or.inl rfl | exact Or.inr rfl) (pe_ix ix_list (pv 4) (pe_c c__law_take hr (by first | decide | omega) rfl (pa_cons (pv 0) (pa_cons (pe_callB call_len_seq' (by rfl) T.n_len (by decide +kernel) (pa_cons (pv 4) pa_nil)) pa_nil))) (fun _ _ => rfl)))
      (pss_cons (ps_set (i := 8) sc__law_request.nd rfl (by first | exact Or.inl rfl | exact Or.inr rfl) (pe_ix ix_list (pv 5) (pe_c c__law_take hr (by first | decide | omega) rfl (pa_cons (pv 0) (pa_cons (pe_callB call_len_seq' (by rfl) T.n_len (by decide +kernel) (pa_cons (pv 5) pa_nil)) pa_nil))) (fun _ _ => rfl)))
      (pss_cons (ps_set (i := 9) sc__law_request.nd rfl (by first | exact Or.inl rfl | exact Or.inr rfl) (pe_c c_address_of hr (by first | decide | omega) rfl (pa_cons (pe_str) (pa_cons (pv 8) pa_nil))))
      (pss_cons (ps_if (pt_cmpR op_lt (pv 6) (pe_int) (nomark _)) (pss_one (ps_ret (pe_tup (pa_cons (pe_c c_address_of hr (by first | decide | omega) rfl (pa_cons (pe_str) (pa_cons (pv 7) pa_nil))) (pa_cons (pe_c c__law_upload hr (by first | decide | omega) rfl (pa_cons (pv 1) (pa_cons (pv 3) (pa_cons (pv 7) pa_nil)))) pa_nil))))) pss_nil)
      (pss_cons (ps_if (pt_cmpR op_eq (pv 6) (pe_int) (nomark _)) (pss_one (ps_ret (pe_tup (pa_cons (pe_c c_address_of hr (by first | decide | omega) rfl (pa_cons (pe_str) (pa_cons (pv 7) pa_nil))) (pa_cons (pe_mt t_Registry_answer hr (by first | decide | omega) (pv 1) (pa_cons (pe_tup (pa_cons (pe_str) (pa_cons (pv 3) (pa_cons (pe_c c_address_of hr (by first | decide | omega) rfl (pa_cons (pe_str) (pa_cons (pv 7) pa_nil))) pa_nil)))) pa_nil)) pa_nil))))) pss_nil)
      (pss_cons (ps_if (pt_cmpR op_lt (pv 6) (pe_int) (nomark _)) (pss_one (ps_ret (pe_tup (pa_cons (pv 9) (pa_cons (pe_mt t_Registry_answer hr (by first | decide | omega) (pv 1) (pa_cons (pe_tup (pa_cons (pe_str) (pa_cons (pv 3) (pa_cons (pe_str) (pa_cons (pv 8) pa_nil))))) pa_nil)) pa_nil))))) pss_nil)
      (C8.pss_cut (ps_if (PW.pt (pw_and (pt_cmpR op_eq (pv 6) (pe_int) (nomark _)) (pw_and1 (pt_cmpR op_eq (pe_c c__law_take hr (by first | decide | omega) rfl (pa_cons (pv 0) (pa_cons (pe_int) pa_nil))) (pe_int) (nomark _))))) (pss_cons (ps_set (i := 10) sc__law_request.nd rfl (by first | exact Or.inl rfl | exact Or.inr rfl) (pe_c c_bundle_text hr (by first | decide | omega) rfl (pa_cons (pe_lst (pa_cons (pe_tup (pa_cons (pe_str) (pa_cons (pv 9) pa_nil))) pa_nil)) pa_nil)))
      (pss_one (ps_ret (pe_tup (pa_cons (pe_c c_address_of hr (by first | decide | omega) rfl (pa_cons (pe_str) (pa_cons (pv 10) pa_nil))) (pa_cons (pe_mt t_Registry_answer hr (by first | decide | omega) (pv 1) (pa_cons (pe_tup (pa_cons (pe_str) (pa_cons (pv 3) (pa_cons (pe_str) (pa_cons (pv 10) pa_nil))))) pa_nil)) pa_nil)))))) pss_nil)
      (pss_one (ps_ret (pe_tup (pa_cons (pv 9) (pa_cons (pe_mt t_Registry_answer hr (by first | decide | omega) (pv 1) (pa_cons (pe_tup (pa_cons (pe_str) (pa_cons (pv 3) (pa_cons (pe_ix ix_list (pe_lst (pa_cons (pe_str) (pa_cons (pe_str) pa_nil))) (pe_c c__law_take hr (by first | decide | omega) rfl (pa_cons (pv 0) (pa_cons (pe_int) pa_nil))) (fun _ _ => rfl)) (pa_cons (pv 9) pa_nil))))) pa_nil)) pa_nil)))))))))))))), ?_⟩
    walk_at "lw"
    refine g_gtup (SqT.of ht0) rfl ?_
    walk_at "lw"
    refine ⟨c, S, 8, rfl, S0, by decide, by decide, fun kd c1 H1 kd0 kd1 S1 st1 => ?_⟩
    have W1 := W.frame st1 no0R
    have cpl1 : c1 pl = 9 := by rw [st1.col _ _ hpl, cpl]
    have cpi1 : c1 pi = 9 := by rw [st1.col _ _ hpi, cpi]
    have hpl1 := st1.keep _ _ hpl (by rw [cpl]; decide)
    have hpi1 := st1.keep _ _ hpi (by rw [cpi]; decide)
    clear S0 W hpl hpi cpl cpi ht0 gd
    walk_at "lw"
    refine take_at S1 (by rw [cpl1]; decide) hpl1 rfl (by rw [List.length_map]; omega) (by rw [List.length_map]; omega) fun j v c2 H2 hj S2 st2 => ?_
    obtain ⟨t, htj, rfl⟩ := map_at hj
    have htm := List.mem_of_getElem? htj
    have W2 := W1.frame st2 no0R
    have cpi2 : c2 pi = 9 := by rw [st2.col _ _ hpi1, cpi1]
    have hpi2 := st2.keep _ _ hpi1 (by rw [cpi1]; decide)
    have st2 := st1.trans st2
    clear S1 W1 hpl1 hpi1 cpl1 cpi1 st1 hj htj
    walk_at "lw"
    refine take_at S2 (by rw [cpi2]; decide) hpi2 rfl (by rw [List.length_map]; omega) (by rw [List.length_map]; omega) fun j v c3 H3 hj S3 st3 => ?_
    obtain ⟨im, htj, rfl⟩ := map_at hj
    have him := List.mem_of_getElem? htj
    have W3 := W2.frame st3 no0R
    have st3 := st2.trans st3
    clear S2 W2 hpi2 cpi2 st2 hj htj
    have gl : (⟨.lay, t⟩ : Bl) ∈ goods ls is := goods_mem.mpr (.inl ⟨t, htm, rfl⟩)
    have gi : (⟨.img, im⟩ : Bl) ∈ goods ls is := goods_mem.mpr (.inr (.inl ⟨im, him, rfl⟩))
    have gb : (⟨.bun, bunOf im⟩ : Bl) ∈ goods ls is := goods_mem.mpr (.inr (.inr ⟨im, him, rfl⟩))
    obtain ⟨tl, tok⟩ := gw.l t htm
    obtain ⟨d1, _, _, _, _, _, _, _, _, _, _, _, _, hR, _⟩ := W3.hs
    walk_at "lw"
    refine ⟨"image", im, rfl, by decide +kernel, ?_⟩
    walk_at "lw"
    have fin : ∀ (c5 : Addr → Nat) (H5 H6 : Hp) (tt t2 : Addr) (s5 : Rg) (a w : Str) (r : List Key), Post (goods ls is) (m + 3) s' i a w s5 → StateAt c5 H5 S → RegAt C_Store C_Claims C_Uploads C_Collector C_Registry c5 H5 x s5 → Stp IR0 c c5 H H5 → Same H5 H6 → H6 tt = some (.tup [.str a, .ref t2]) → H5 t2 = some (.tup ((.inr w :: r : List Key).map kV)) → Q (.ref tt) H6 := fun c5 H5 H6 tt t2 s5 a w r p S5 W5 st5 s6 htt ht2 =>
      k c5 H6 tt t2 s5 a w r p (S5.frame (I := fun _ => False) (Stp.same s6) (by decide)) (W5.same s6) (st5.trans (Stp.same s6)) htt (s6.at ht2)
    have st30 := st3.mono ir0
    refine if2 (fun h3 => ?_) (fun h3 => ?_)
    · walk_at "lw"
      refine ⟨"layer", t, rfl, by decide +kernel, ?_⟩
      walk_at "lw"
      refine ⟨c3, x, s', goods ls is, m, i, t, rfl, W3, g, h, hm, gl, tl, tok, fun c4 H4 tt s4 w r p W4 st4 htt => ?_⟩
      walk_at "lw"
      refine g_ktup (by show 2 ≤ 100; decide) fun t6 H6 nt6 s6 ht6 => ?_
      walk_at "lw"
      exact fin c4 H4 H6 t6 tt s4 _ w r p (S3.frame st4 noR0) W4 (st30.trans (st4.mono irR)) s6 ht6 htt
    walk_at "lw"
    refine if2 (fun h4 => ?_) (fun h4 => ?_)
    · walk_at "lw"
      refine ⟨"layer", t, rfl, by decide +kernel, ?_⟩
      walk_at "lw"
      refine ⟨"layer", t, rfl, by decide +kernel, ?_⟩
      walk_at "lw"
      refine g_ktup (by show 3 ≤ 100; decide) fun t1 H4 nt1 s4 ht1 => ?_
      walk_at "lw"
      refine ⟨c3, x, s', .has i (adrB ⟨.lay, t⟩), t1, rfl, ht1, W3.same s4, h.rwf g (by omega), trivial, ansOk7 g h (fun _ _ _ z => by cases z), fun c5 H5 t5 W5 st5 ht5 => ?_⟩
      obtain ⟨w, r, e, p⟩ := post_has h (c := i) (a := adrB ⟨.lay, t⟩)
      rw [e] at ht5
      have st5 : Stp IReg c3 c5 H3 H5 := (Stp.same s4).trans st5
      walk_at "lw"
      refine g_ktup (by show 2 ≤ 100; decide) fun t6 H6 nt6 s6 ht6 => ?_
      walk_at "lw"
      exact fin c5 H5 H6 t6 t5 _ _ w r (p.up (by omega)) (S3.frame st5 noR0) W5 (st30.trans (st5.mono irR)) s6 ht6 ht5
    walk_at "lw"
    refine if2 (fun h5 => ?_) (fun h5 => ?_)
    · walk_at "lw"
      refine g_ktup (by show 4 ≤ 100; decide) fun t1 H4 nt1 s4 ht1 => ?_
      walk_at "lw"
      obtain ⟨as, hias, hal, haa⟩ := gw.i im him
      have iok := g.ok _ gi
      refine ⟨c3, x, s', .put i .img im, t1, rfl, ht1, W3.same s4, h.rwf g (by omega), ⟨by decide, iok.c, iok.l⟩, ansOk7 g h (fun _ _ _ z => by cases z; exact gi), fun c5 H5 t5 W5 st5 ht5 => ?_⟩
      obtain ⟨w, r, e, p⟩ := post_put g h gi (c := i)
      rw [e] at ht5
      have st5 : Stp IReg c3 c5 H3 H5 := (Stp.same s4).trans st5
      walk_at "lw"
      refine g_ktup (by show 2 ≤ 100; decide) fun t6 H6 nt6 s6 ht6 => ?_
      walk_at "lw"
      exact fin c5 H5 H6 t6 t5 _ _ w r (p.up (by omega)) (S3.frame st5 noR0) W5 (st30.trans (st5.mono irR)) s6 ht6 ht5
    refine g_cut (fun σ H5 => ∃ (c5 : Addr → Nat) (v10 : Option V), σ = [some (.ref S), some (.ref x.R), some (.ref t0), some (.int i), some (.ref pl), some (.ref pi), some (.int kd), some (strS t), some (strS im), some (.str (adr "image" im)), v10] ∧ StateAt c5 H5 S ∧ RegAt C_Store C_Claims C_Uploads C_Collector C_Registry c5 H5 x s' ∧ Stp IR0 c c5 H H5) ?_ ?_
    · walk_at "lw"
      refine if2 (fun h6 => ?_) (fun h6 => ?_)
      · walk_at "lw"
        refine ⟨c3, S, 2, rfl, S3, by decide, by decide, fun q c4 H4 q0 q1 S4 st4 => ?_⟩
        have W4 := W3.frame st4 no0R
        have st4 := st30.trans (st4.mono ir0)
        clear S3 W3 st30 st3 hR
        obtain ⟨d1, _, _, _, _, _, _, _, _, _, _, _, _, hR, _⟩ := W4.hs
        walk_at "lw"
        refine if2 (fun h7 => ?_) (fun h7 => ?_)
        · walk_at "lw"
          refine g_ktup (by show 2 ≤ 100; decide) fun t5 H5 nt5 s5 ht5 => ?_
          walk_at "lw"
          refine g_klst (by show 1 ≤ 100; decide) fun q6 H6 nq6 s6 hq6 => ?_
          walk_at "lw"
          refine ⟨q6, [(t5, millL, adrL "image" im)], rfl, hq6, fun e he => ?_, by show 1 ≤ 100; decide, fun e he => ?_, fun H7 s7 => ?_⟩
          · rw [List.mem_singleton.mp he]
            exact s6.at ht5
          · rw [List.mem_singleton.mp he]
            show millL.length + (adrL "image" im).length ≤ 1000
            rw [adr_len (adr_is _ _)]; decide
          have s47 := s5.trans (s6.trans s7)
          have hR := s47.at hR
          walk_at "lw"
          refine ⟨"bundle", bunOf im, rfl, by decide +kernel, ?_⟩
          walk_at "lw"
          refine g_ktup (by show 4 ≤ 100; decide) fun t8 H8 nt8 s8 ht8 => ?_
          have s48 := s47.trans s8
          walk_at "lw"
          have bok := g.ok _ gb
          refine ⟨c4, x, s', .put i .bun (bunOf im), t8, rfl, ht8, W4.same s48, h.rwf g (by omega), ⟨by decide, bok.c, bok.l⟩, ansOk7 g h (fun _ _ _ z => by cases z; exact gb), fun c9 H9 t9 W9 st9 ht9 => ?_⟩
          obtain ⟨w, r, e, p⟩ := post_put g h gb (c := i)
          rw [e] at ht9
          have st9 : Stp IReg c4 c9 H4 H9 := (Stp.same s48).trans st9
          walk_at "lw"
          refine g_ktup (by show 2 ≤ 100; decide) fun t10 H10 nt10 s10 ht10 => ?_
          walk_at "lw"
          exact fin c9 H9 H10 t10 t9 _ _ w r (p.up (by omega)) (S4.frame st9 noR0) W9 (st4.trans (st9.mono irR)) s10 ht10 ht9
        · walk_at "lw"
          exact ⟨c4, _, rfl, S4, W4, st4⟩
      · walk_at "lw"
        exact ⟨c3, _, rfl, S3, W3, st30⟩
    · clear S3 W3 st30 st3 hR
      rintro σ H5 ⟨c5, v10, rfl, S5, W5, st5⟩
      obtain ⟨d1, _, _, _, _, _, _, _, _, _, _, _, _, hR, _⟩ := W5.hs
      walk_at "lw"
      refine g_klst (by show 2 ≤ 100; decide) fun q6 H6 nq6 s6 hq6 => ?_
      have st6 : Stp (fun _ => False) c5 (Stp.paint c5 q6 9) H5 H6 := L2x_sameN s6 nq6
      have S6 := S5.frame st6 (by decide)
      have W6 := W5.frame st6 noFR
      have cq : Stp.paint c5 q6 9 q6 = 9 := Stp.paint_same
      generalize Stp.paint c5 q6 9 = c6 at st6 S6 W6 cq
      have st6 := st5.trans (st6.mono irF)
      have hR := s6.at hR
      clear S5 W5 st5
      walk_at "lw"
      refine take_at (n := 2) S6 (by rw [cq]; decide) hq6 rfl (by decide) (by decide) fun j v c7 H7 hj S7 st7 => ?_
      obtain ⟨nm, rfl⟩ : ∃ nm : Str, v = .str nm := by
        have : ∀ x ∈ ([.str "app", .str "web"] : List V), ∃ nm : Str, x = .str nm := by simp
        exact this v (List.mem_of_getElem? hj)
      have W7 := W6.frame st7 no0R
      have st7 := st6.trans (st7.mono ir0)
      clear S6 W6 st6 hj hR
      walk_at "lw"
      refine g_ktup (by show 4 ≤ 100; decide) fun t8 H8 nt8 s8 ht8 => ?_
      walk_at "lw"
      refine ⟨c7, x, s', .name i nm (adrB ⟨.img, im⟩), t8, rfl, ht8, W7.same s8, h.rwf g (by omega), trivial, ansOk7 g h (fun _ _ _ z => by cases z), fun c9 H9 t9 W9 st9 ht9 => ?_⟩
      obtain ⟨w, r, e, p⟩ := post_name g h gi (show Kd.img ≠ Kd.lay by decide) nm (c := i)
      rw [e] at ht9
      have st9 : Stp IReg c7 c9 H7 H9 := (Stp.same s8).trans st9
      walk_at "lw"
      refine g_ktup (by show 2 ≤ 100; decide) fun t10 H10 nt10 s10 ht10 => ?_
      walk_at "lw"
      exact fin c9 H9 H10 t10 t9 _ _ w r (p.up (by omega)) (S7.frame st9 noR0) W9 (st7.trans (st9.mono irR)) s10 ht10 ht9
end
end Lw

/-! ## is all of it there? -/
namespace Lw
open PySem L2
open PyProof.Rows (envOfC sortedS)
/-- a comprehension whose test may lay things -/
theorem lc_mapT {g : TG} {te : TE} {σ : L2.St} {H : Hp} {Q : VK} {J : It} {xs : List V} {G : Hp → Prop} {tt : TT} {vs : List Nat} (w : Walk J xs.length G (YAt xs)) (hG : ∀ H', Same H H' → G H') (hz : xs.length ≤ 100000) (p : V → Bool) (f : V → V)
    (hg : ∀ x ∈ xs, ∀ H' (R : L2.St → Hp → Prop), Same H H' → (∀ σ2, wipe σ2 vs = wipe σ vs → (∀ H'' (R : Bool → Hp → Prop), Same H H'' → (∀ H3, Same H'' H3 → R (p x) H3) → tt σ2 H'' R) →
      (p x = true → ∀ H'' (R : VK), Same H H'' → (∀ H3, Same H'' H3 → R (f x) H3) → te σ2 H'' R) → R σ2 H') → g x (wipe σ vs) H' R)
    (k : ∀ q H', H q = none → Same H H' → H' q = some (.lst ((xs.filter p).map f)) → Q (.ref q) H') : kLc g tt te vs σ Q J H := by
  intro D hD
  refine lc_it w (fun i H2 => Same H H2 ∧ H2 D = some (.lst (((xs.take i).filter p).map f))) ⟨Same.new hD, upd_same⟩ (fun i H2 _ h => hG H2 h.1) (fun i x H2 H2' hi h y => ?_) (fun H2 h => ?_)
  · obtain ⟨e, hx⟩ := y
    subst e
    refine hg x (List.mem_of_getElem? hx) _ _ h.1 fun σ2 hw ht he => ⟨hw, ?_⟩
    refine ht _ _ h.1 fun H5 s5 => ?_
    have hl : (((xs.take i).filter p).map f).length < sizeLine := by
      rw [List.length_map]
      have h1 := List.length_filter_le p (xs.take i)
      have h2 := List.length_take_le i xs
      exact Nat.lt_of_lt_of_le (show _ < 200000 by omega) (by decide)
    cases hp : p x with
    | true =>
      refine iteT ?_
      refine he hp _ _ (h.1.trans s5) fun H3 s3 => ⟨_, s3 _ _ (s5 _ _ h.2), hl, ((h.1.trans s5).trans s3).grow hD, ?_⟩
      rw [upd_same, take_ok hx, List.filter_append, List.map_append]
      simp [hp]
    | false =>
      refine iteF ?_
      refine ⟨h.1.trans s5, ?_⟩
      rw [take_ok hx, List.filter_append]
      simpa [hp] using s5 _ _ h.2
  · rw [List.take_length] at h
    exact k D H2 hD h.1 h.2
section
variable (CS CC CU CO CR : Addr)
def spLBelow : Sp := fun vs H Q _ => ∃ (c : Addr → Nat) (p : Addr) (ks : List Str) (B : Str → Bl) (a : Str), vs = [.ref p, .str a] ∧ StoreAt CS c H p ks B ∧ SWf ks B ∧ a ∈ ks ∧ ∀ r H', Same H H' → H' r = some (.lst ((B a).refs.map strS)) → Q (.ref r) H'
def spLWhole (n : Nat) : Sp := fun vs H Q _ => ∃ (c : Addr → Nat) (p : Addr) (ks : List Str) (B : Str → Bl) (a : Str), vs = [.ref p, .str a] ∧ StoreAt CS c H p ks B ∧ SWf ks B ∧ wh ks B (n + 1) a = true ∧ ∀ H', Same H H' → Q (.bl true) H'
def LWholeC (n : Nat) (sp : Sp) : Prop := ∀ (c : Addr → Nat) (H : Hp) (Q : VK) (p : Addr) (ks : List Str) (B : Str → Bl) (a : Str), StoreAt CS c H p ks B → SWf ks B → wh ks B n a = true → (∀ H', Same H H' → Q (.bl true) H') → sp [.ref p, .str a] H Q E0
/-- what the law keeps -/
structure KpAt (c : Addr → Nat) (H : Hp) (kd : Addr) (kk : List Int) (kp : Int → List Str) : Prop where
  ex : ∃ A : Int → Addr, c kd = 7 ∧ H kd = some (.dK (mkD kk fun i => .ref (A i))) ∧ ∀ i ∈ kk, c (A i) = 13 ∧ H (A i) = some (.lst ((kp i).map V.str))
def spSound : Sp := fun vs H Q _ => ∃ (c : Addr → Nat) (x : Rx) (s : Rg) (G : List Bl) (m : Nat) (kd : Addr) (kk : List Int) (kp : Int → List Str), vs = [.ref x.R, .ref kd] ∧ RegAt CS CC CU CO CR c H x s ∧ GOk G ∧ J G m s ∧ m ≤ 600 ∧ KpAt c H kd kk kp ∧ (∀ i ∈ s.cs, i ∈ kk ∧ ∀ a ∈ kp i, a ∈ s.L i) ∧ ∀ H', Same H H' → Q (.bl true) H'
end
theorem KpAt.frame {I : Nat → Prop} {c c' : Addr → Nat} {H H' : Hp} {kd : Addr} {kk : List Int} {kp : Int → List Str} (h : KpAt c H kd kk kp) (s : Stp I c c' H H') (h7 : ¬ I 7) (h13 : ¬ I 13) : KpAt c' H' kd kk kp := by
  obtain ⟨A, h1, h2, h3⟩ := h.ex
  exact ⟨A, by rw [s.col _ _ h2, h1], s.keep _ _ h2 (by rw [h1]; exact h7), fun i hi => ⟨by rw [s.col _ _ (h3 i hi).2, (h3 i hi).1], s.keep _ _ (h3 i hi).2 (by rw [(h3 i hi).1]; exact h13)⟩⟩
section
variable {P : Program} {w : World} {K : PySem.W.Frag} {mg : Str → Option Value} {base : Heap} {C_Claims C_Collector C_Store C_Uploads C_Registry C_Refused C_Malformed a_KINDS a_BELOW a_CLAIMED : Addr}
theorem ok__law_below (T : Txt w K mg C_Claims C_Collector C_Store C_Uploads C_Registry C_Refused C_Malformed a_KINDS a_BELOW a_CLAIMED) : Cal P w K mg base 2 "_law_below" (spLBelow C_Store) := by
  have t_Store_blob : Met P w K mg base 1 C_Store "blob" (spBlob C_Store) := ok_Store_blob T
  refine cal_mk T.d__law_below sc__law_below (fun vs H Q E h => ?_) (fun f cdv A outer s H vs Q E hr h => ?_)
  · obtain ⟨c, p, ks, B, a, rfl, _⟩ := h
    rfl
  · obtain ⟨c, p, ks, B, a, rfl, W, wf, ha, k⟩ := h
    have hu := hu_of hr
    have ok := wf.ok a ha
    have hl := ok.l
    have hf := ok.f
    obtain ⟨_, _, _, hp, _⟩ := W.ex
    unfold Bl.refs refsL at k
    unfold faultK at hf
    refine ⟨_, (pss_cons (ps_set (i := 2) sc__law_below.nd rfl (by first | exact Or.inl rfl | exact Or.inr rfl) (pe_mt t_Store_blob hr (by first | decide | omega) (pv 0) (pa_cons (pv 1) pa_nil)))
      (pss_cons (ps_if (pt_cmpR op_isN' (pv 2) (pe_non) (nomark _)) (pss_one (ps_ret (pe_non))) pss_nil)
      (pss_cons (ps_set (i := 3) sc__law_below.nd rfl (by first | exact Or.inl rfl | exact Or.inr rfl) (pe_split (pe_ix ix_tup (pv 2) (pe_int) (fun _ _ => rfl)) (pe_str)))
      (pss_cons (ps_if (pt_cmpR op_eq (pe_ix ix_tup (pv 2) (pe_int) (fun _ _ => rfl)) (pe_str) (nomark _)) (pss_one (ps_ret (pe_lst pa_nil))) pss_nil)
      (pss_cons (ps_if (pt_cmpR op_eq (pe_ix ix_tup (pv 2) (pe_int) (fun _ _ => rfl)) (pe_str) (nomark _)) (pss_one (ps_ret (pe_slice sl_list (pv 3) (po_some (pe_int)) (po_some (pe_un un_neg (pe_int)))))) pss_nil)
      (pss_one (ps_ret (pe_lc (own := [("_law_line", 4)]) (g := (gName 4)) (by rfl) sc__law_below.nd (pi_list (pe_slice sl_list (pv 3) (po_some (pe_int)) (po_some (pe_un un_neg (pe_int))))) (blkOk_by (own := [("_law_line", 4)]) (N := n__law_below) (sc := defScope s__law_below) (by decide +kernel)) (fun _ _ _ _ _ => (pg_name (i := 4) sc__law_below.nd rfl (by first | exact Or.inl rfl | exact Or.inr rfl))) (fun _ _ _ _ _ => pts_nil) (fun _ _ _ _ _ => (pe_ix (ix_listK K rfl) (pe_split (pv 4) (pe_str)) (pe_int) (fun _ _ => rfl))))))))))), ?_⟩
    walk_at "lw"
    refine ⟨c, p, ks, B, a, rfl, W, fun z => absurd ha z, fun _ t ht => ?_⟩
    walk_at "lw"
    refine if2 (fun z => nomatch z) (fun _ => ?_)
    walk_at "lw"
    refine g_rixT (SqT.of ht) (j := 1) (v := strS (B a).t) rfl ?_
    walk_at "lw"
    refine g_rstr (x := SX.S (B a).t) ?_
    walk_at "lw"
    refine g_spl (by decide +kernel) (by rw [SX.S_len]; exact Nat.le_trans (show (B a).t.length + 2 ≤ 100002 by omega) (by decide)) fun q H1 nq s1 hq => ?_
    rw [split_ln, List.map_map] at hq
    have hq : H1 q = some (.lst ((lnL (B a).t).map strS)) := hq
    walk_at "lw"
    refine g_rixT (SqT.of (s1.at ht)) (j := 0) (v := .str (B a).k.s) rfl ?_
    walk_at "lw"
    refine if2 (fun e1 => ?_) (fun e1 => ?_)
    · have e1 := str_eq.mp e1
      rw [if_pos e1] at k
      walk_at "lw"
      exact g_klst (by show 0 ≤ 100; decide) fun r H2 _ s2 hr => k r H2 (s1.trans s2) hr
    · have e1 : ¬ (B a).k.s = "layer" := fun z => e1 (by rw [z])
      rw [if_neg e1] at k hf
      walk_at "lw"
      refine g_rixT (SqT.of (s1.at ht)) (j := 0) (v := .str (B a).k.s) rfl ?_
      walk_at "lw"
      refine if2 (fun e2 => ?_) (fun e2 => ?_)
      · have e2 := str_eq.mp e2
        rw [if_pos e2] at k
        walk_at "lw"
        refine ⟨_, rfl, ?_⟩
        walk_at "lw"
        refine g_slL (SqL.of hq) fun r H2 _ s2 hr => ?_
        rw [cut_mid] at hr
        exact k r H2 (s1.trans s2) hr
      · have e2 : ¬ (B a).k.s = "image" := fun z => e2 (by rw [z])
        rw [if_neg e2] at k
        rw [decide_eq_false e2] at hf
        have h2 := bun_two hf
        walk_at "lw"
        refine ⟨_, rfl, ?_⟩
        walk_at "lw"
        refine g_slL (SqL.of hq) fun r H2 _ s2 hr => ?_
        rw [cut_mid] at hr
        refine g_ritL (SqL.of hr) ?_
        have hml : (mid (lnL (B a).t)).length ≤ 100000 := by rw [mid_len]; have := ln_le (B a).t; omega
        refine lc_map (G := fun H' => SqL K H' r ((mid (lnL (B a).t)).map strS)) walk_list (fun H' s => SqL.of (s _ _ hr)) (by rw [List.length_map]; exact hml) (fun _ => true) (fun v => match v with | .str x => strS (w1 x.cps.toList) | _ => v) ?_ ?_
        · intro x hx H' R s3 kk
          obtain ⟨l, hl2, rfl⟩ := List.mem_map.mp hx
          have hlen := ln_part (mid_mem hl2)
          walk_at "lw"
          refine kk _ rfl (fun H'' R s2 r => ?_) (fun hp' H'' R s2 r => ?_)
          · walk_at "lw"
            exact r
          · walk_at "lw"
            refine g_rstr (x := SX.S l) ?_
            walk_at "lw"
            refine g_spl (by decide +kernel) (by rw [SX.S_len]; exact Nat.le_trans (show l.length + 2 ≤ 100002 by omega) (by decide)) fun wq H5 nwq s5 hwq => ?_
            rw [split_wd, List.map_map] at hwq
            have hwq : H5 wq = some (.lst ((wdL l).map strS)) := hwq
            walk_at "lw"
            refine g_rix (SqL.of hwq) (atI_map (atI_nat (j := 1) (w1_at (h2 l hl2)))) ?_
            exact r _ s5
        · intro q3 H3 nq3 s3 hq3
          rw [List.filter_eq_self.mpr (fun _ _ => rfl), List.map_map] at hq3
          have e : (mid (lnL (B a).t)).map ((fun v => match v with | V.str x => strS (w1 x.cps.toList) | _ => v) ∘ strS) = ((prs (B a).t).map (·.2)).map strS := by
            unfold prs
            rw [List.map_map, List.map_map]
            rfl
          rw [e] at hq3
          exact k q3 H3 ((s1.trans s2).trans s3) hq3
theorem lw_step (T : Txt w K mg C_Claims C_Collector C_Store C_Uploads C_Registry C_Refused C_Malformed a_KINDS a_BELOW a_CLAIMED) {n k' j : Nat} {sp' : Sp} (h2 : 2 ≤ j) (hk : k' ≤ j) (c__law_whole : Cal P w K mg base k' "_law_whole" sp') (hs : LWholeC C_Store n sp') : Cal P w K mg base (j + 1) "_law_whole" (spLWhole C_Store n) := by
  have c__law_below : Cal P w K mg base 2 "_law_below" (spLBelow C_Store) := ok__law_below T
  refine cal_mk T.d__law_whole sc__law_whole (fun vs H Q E h => ?_) (fun f cdv A outer s H vs Q E hr h => ?_)
  · obtain ⟨c, p, ks, B, a, rfl, _⟩ := h
    rfl
  · obtain ⟨c, p, ks, B, a, rfl, W, wf, hw, k⟩ := h
    have hu := hu_of hr
    refine ⟨_, (pss_cons (ps_set (i := 2) sc__law_whole.nd rfl (by first | exact Or.inl rfl | exact Or.inr rfl) (pe_c c__law_below hr (by first | decide | omega) rfl (pa_cons (pv 0) (pa_cons (pv 1) pa_nil))))
      (pss_cons (ps_if (pt_cmpR op_isN' (pv 2) (pe_non) (nomark _)) (pss_one (ps_ret (pe_bl))) pss_nil)
      (pss_one (ps_ret (pe_cmpR op_eq (pe_callB call_len_seq' (by rfl) T.n_len (by decide +kernel) (pa_cons (pe_lc (own := [("_law_other", 3)]) (g := (gName 3)) (by rfl) sc__law_whole.nd (pi_list (pv 2)) (blkOk_by (own := [("_law_other", 3)]) (N := n__law_whole) (sc := defScope s__law_whole) (by decide +kernel)) (fun _ _ _ _ _ => (pg_name (i := 3) sc__law_whole.nd rfl (by first | exact Or.inl rfl | exact Or.inr rfl))) (fun _ _ _ _ _ => (pts_one (pt_not (pt_val (pe_c c__law_whole hr (by first | decide | omega) rfl (pa_cons (pv 0) (pa_cons (pv 3) pa_nil))))))) (fun _ _ _ _ _ => (pv 3))) pa_nil)) (pe_int) (nomark _)))))), ?_⟩
    walk_at "lw"
    refine ⟨c, p, ks, B, a, rfl, W, wf, wh_in hw, fun r H1 s1 hr1 => ?_⟩
    have rl := refs_len (wf.ok a (wh_in hw))
    walk_at "lw"
    refine if2 (fun z => nomatch z) (fun _ => ?_)
    walk_at "lw"
    refine g_ritL (SqL.of hr1) ?_
    refine lc_mapT (G := fun H' => SqL K H' r ((B a).refs.map strS)) walk_list (fun H' s => SqL.of (s _ _ hr1)) (by rw [List.length_map]; omega) (fun _ => false) (fun v => v) ?_ ?_
    · intro x hx H' R s3 kk
      obtain ⟨l, hl2, rfl⟩ := List.mem_map.mp hx
      walk_at "lw"
      refine kk _ rfl (fun H'' R s2 r => ?_) (fun hp' H'' R s2 r => by cases hp')
      walk_at "lw"
      refine hs c H'' _ p ks B (SX.S l) (W.same (s1.trans s2)) wf (wh_ref hw l hl2).2.2 fun H3 s4 => ?_
      walk_at "lw"
      exact r H3 s4
    intro q H3 nq s3 hq
    rw [List.filter_eq_nil_iff.mpr (fun _ _ => by decide)] at hq
    have hq : H3 q = some (.lst []) := hq
    walk_at "lw"
    exact k H3 (s1.trans s3)
theorem no_lwhole (T : Txt w K mg C_Claims C_Collector C_Store C_Uploads C_Registry C_Refused C_Malformed a_KINDS a_BELOW a_CLAIMED) : Cal P w K mg base 1 "_law_whole" (fun _ _ _ _ => False) :=
  cal_mk T.d__law_whole sc__law_whole (fun vs H Q E h => h.elim) (fun f cdv A outer s H vs Q E hr h => h.elim)
theorem ok__law_whole (T : Txt w K mg C_Claims C_Collector C_Store C_Uploads C_Registry C_Refused C_Malformed a_KINDS a_BELOW a_CLAIMED) : Cal P w K mg base 5 "_law_whole" (spLWhole C_Store 2) := by
  have t0 : Cal P w K mg base 3 "_law_whole" (spLWhole C_Store 0) := lw_step T (j := 2) (by decide) (by decide) (no_lwhole T) (fun c H Q p ks B a _ _ h _ => by cases h)
  have t1 : Cal P w K mg base 4 "_law_whole" (spLWhole C_Store 1) := lw_step T (j := 3) (by decide) (by decide) t0 (fun c H Q p ks B a W wf h k => ⟨c, p, ks, B, a, rfl, W, wf, h, k⟩)
  exact lw_step T (j := 4) (by decide) (by decide) t1 (fun c H Q p ks B a W wf h k => ⟨c, p, ks, B, a, rfl, W, wf, h, k⟩)
theorem ok__law_sound (T : Txt w K mg C_Claims C_Collector C_Store C_Uploads C_Registry C_Refused C_Malformed a_KINDS a_BELOW a_CLAIMED) : Cal P w K mg base 6 "_law_sound" (spSound C_Store C_Claims C_Uploads C_Collector C_Registry) := by
  have c__law_whole : Cal P w K mg base 5 "_law_whole" (spLWhole C_Store 2) := ok__law_whole T
  have t_Store_blob : Met P w K mg base 1 C_Store "blob" (spBlob C_Store) := ok_Store_blob T
  have t_Registry_roots : Met P w K mg base 2 C_Registry "roots" (spRoots C_Store C_Claims C_Uploads C_Collector C_Registry) := ok_Registry_roots T
  have t_Claims_numbers : Met P w K mg base 1 C_Claims "numbers" (spCNumbers C_Claims) := ok_Claims_numbers T
  refine cal_mk T.d__law_sound sc__law_sound (fun vs H Q E h => ?_) (fun f cdv A outer s H vs Q E hr h => ?_)
  · obtain ⟨c, x, s, G, m, kd, kk, kp, rfl, _⟩ := h
    rfl
  · obtain ⟨c, x, s', G, m, kd, kk, kp, rfl, W, g, h, hm, ⟨A', ck, hkd, hka⟩, hkp, k⟩ := h
    have hu := hu_of hr
    obtain ⟨d1, d2, d3, d4, d5, w1, w2, w3, w4, w5, w6, w7, w8, hR, hp, hcl, hup, hco, hnm⟩ := W.hs
    clear hup hco
    have wf := h.sg.swf g
    have kl : s'.ks.length ≤ 20 := by have := h.sg.len; have := g.len; omega
    have nl := h.nl
    have wR : ∀ y, isRoot s' y → wh s'.ks s'.B 3 y = true := h.rt
    refine ⟨_, (pss_cons (ps_set (i := 2) sc__law_sound.nd rfl (by first | exact Or.inl rfl | exact Or.inr rfl) (pe_fld (pv 0) rfl))
      (pss_cons (ps_set (i := 3) sc__law_sound.nd rfl (by first | exact Or.inl rfl | exact Or.inr rfl) (pe_fld (pv 0) rfl))
      (pss_cons (ps_lock (ps_for PassesOwn.never rfl (pi_keys (pv 3)) (pg_name (i := 4) sc__law_sound.nd rfl (by first | exact Or.inl rfl | exact Or.inr rfl)) (pss_one (ps_if (PW.pt (pw_or (pt_not (pt_val (pe_c c__law_whole hr (by first | decide | omega) rfl (pa_cons (pv 2) (pa_cons (pe_dget hu (pv 3) (pv 4) (fun _ _ => rfl)) pa_nil))))) (pw_or1 (pt_cmpR op_eq (pe_ix ix_tup (pe_mt t_Store_blob hr (by first | decide | omega) (pv 2) (pa_cons (pe_dget hu (pv 3) (pv 4) (fun _ _ => rfl)) pa_nil)) (pe_int) (fun _ _ => rfl)) (pe_str) (nomark _))))) (pss_one (ps_ret (pe_bl))) pss_nil))))
      (pss_cons (ps_for PassesOwn.never rfl (pi_list (pe_mt0 t_Registry_roots hr (by first | decide | omega) (pv 0))) (pg_name (i := 5) sc__law_sound.nd rfl (by first | exact Or.inl rfl | exact Or.inr rfl)) (pss_one (ps_if (pt_not (pt_val (pe_c c__law_whole hr (by first | decide | omega) rfl (pa_cons (pv 2) (pa_cons (pv 5) pa_nil))))) (pss_one (ps_ret (pe_bl))) pss_nil)))
      (pss_cons (ps_for PassesOwn.never rfl (pi_list (pe_mt0 t_Claims_numbers hr (by first | decide | omega) (pe_fld (pv 0) rfl))) (pg_name (i := 6) sc__law_sound.nd rfl (by first | exact Or.inl rfl | exact Or.inr rfl)) (pss_one (ps_for PassesOwn.never rfl (pi_list (pe_dget hu (pv 1) (pv 6) (fun _ _ => rfl))) (pg_name (i := 5) sc__law_sound.nd rfl (by first | exact Or.inl rfl | exact Or.inr rfl)) (pss_one (ps_if (pt_not (pt_val (pe_c c__law_whole hr (by first | decide | omega) rfl (pa_cons (pv 2) (pa_cons (pv 5) pa_nil))))) (pss_one (ps_ret (pe_bl))) pss_nil)))))
      (pss_one (ps_ret (pe_bl)))))))), ?_⟩
    walk_at "lw"
    refine g_lock hnm fun od H1 n1 k1 => ?_
    have st1 : Stp (fun i => i = 5) c c H H1 := Stp.ch hnm W.nm.1 (fun xs z => by cases z) n1 k1
    have S1 := W.st.frame st1 (by decide)
    have hp1 : H1 x.p = _ := (k1 _ (ne_of hp hnm (by intro z; cases z))).trans hp
    walk_at "lw"
    refine g_ritK n1 ?_
    refine for_at walk_ks (fun i σ H' => Same H1 H' ∧ ∃ v4 v5 v6 : Option V, σ = [some (.ref x.R), some (.ref kd), some (.ref x.p), some (.ref x.nd), v4, v5, v6]) ⟨Same.refl _, none, none, none, rfl⟩ (fun i σ H' h => h.1.at n1) ?_ ?_
    · rintro i yy σ H2 hyy ⟨s2, v4, v5, v6, rfl⟩
      rw [mkS_kV] at hyy
      obtain ⟨y, hy, rfl⟩ := map_at hyy
      have hym := List.mem_of_getElem? hy
      have hw := wR _ (.inr ⟨y, hym, rfl⟩)
      have hp2 := s2.at hp1
      walk_at "lw"
      refine g_rdgetS (.inr ⟨od, s2.at n1⟩) (by rw [valV_mkS, if_pos hym]) ?_
      walk_at "lw"
      refine ⟨c, x.p, s'.ks, s'.B, s'.N y, rfl, S1.same s2, wf, hw, fun H3 s3 => ?_⟩
      have hp3 := s3.at hp2
      walk_at "lw"
      refine g_rdgetS (.inr ⟨od, s3.at (s2.at n1)⟩) (by rw [valV_mkS, if_pos hym]) ?_
      walk_at "lw"
      refine ⟨c, x.p, s'.ks, s'.B, s'.N y, rfl, S1.same (s2.trans s3), fun z => absurd (wh_in hw) z, fun _ t ht => ?_⟩
      walk_at "lw"
      refine g_rixT (SqT.of ht) (j := 0) (v := .str (s'.B (s'.N y)).k.s) rfl ?_
      walk_at "lw"
      refine ifF (decide_eq_false fun z => h.nm y hym ((Kd.s_inj (b := .lay)).mp (str_eq.mp z))) ?_
      walk_at "lw"
      exact ⟨s2.trans s3, _, _, _, rfl⟩
    · rintro σ H2 ⟨s2, v4, v5, v6, rfl⟩
      refine ⟨s2.at n1, ?_⟩
      have sm : Same H (upd H2 x.nd (.dK (mkS s'.nk fun a => .str (s'.N a)))) := fun b o e => by
        by_cases z : b = x.nd
        · subst z
          rw [hnm] at e
          cases e
          exact upd_same
        · rw [upd_ne z]
          exact s2.at (by rw [k1 b z]; exact e)
      generalize upd H2 x.nd (.dK (mkS s'.nk fun a => .str (s'.N a))) = H3 at sm
      clear st1 S1 hp1 n1 k1 s2
      have W3 := W.same sm
      have hR := sm.at hR
      have hcl := sm.at hcl
      have hp := sm.at hp
      walk_at "lw"
      refine ⟨c, x, s', s'.ks, rfl, W3, fun y hy => wh_in (wR y hy), by omega, by omega, fun r ys H4 nd so hmem s4 hr4 => ?_⟩
      refine g_ritL (SqL.of hr4) ?_
      refine for_at (G := fun H' => SqL K H' r (ys.map V.str)) walk_list (fun i σ H' => Same H4 H' ∧ ∃ v4 v5 v6 : Option V, σ = [some (.ref x.R), some (.ref kd), some (.ref x.p), some (.ref x.nd), v4, v5, v6]) ⟨Same.refl _, _, _, _, rfl⟩ (fun i σ H' h => SqL.of (h.1.at hr4)) ?_ ?_
      · rintro i yy σ H5 hyy ⟨s5, v4, v5, v6, rfl⟩
        obtain ⟨y, hy, rfl⟩ := map_at hyy
        walk_at "lw"
        refine ⟨c, x.p, s'.ks, s'.B, y, rfl, W3.st.same (s4.trans s5), wf, wR y ((hmem y).mp (List.mem_of_getElem? hy)), fun H6 s6 => ?_⟩
        walk_at "lw"
        exact ⟨s5.trans s6, _, _, _, rfl⟩
      · rintro σ H5 ⟨s5, v4, v5, v6, rfl⟩
        have s5 := s4.trans s5
        have W5 := W3.same s5
        have hR := s5.at hR
        have hcl := s5.at hcl
        walk_at "lw"
        have cl := h.cl
        refine ⟨c, x.cp, s'.n, s'.cs, s'.L, rfl, W5.cl, by omega, fun r2 zs H6 pe so2 s6 hr6 => ?_⟩
        refine g_ritL (SqL.of hr6) ?_
        have hkd6 := s6.at (s5.at (sm.at hkd))
        refine for_at (G := fun H' => SqL K H' r2 (zs.map V.int)) walk_list (fun i σ H' => Same H6 H' ∧ ∃ v4 v5 v6 : Option V, σ = [some (.ref x.R), some (.ref kd), some (.ref x.p), some (.ref x.nd), v4, v5, v6]) ⟨Same.refl _, _, _, _, rfl⟩ (fun i σ H' h => SqL.of (h.1.at hr6)) ?_ ?_
        · rintro i yy σ H7 hyy ⟨s7, v4, v5, v6, rfl⟩
          obtain ⟨z, hz, rfl⟩ := map_at hyy
          have hzc : z ∈ s'.cs := pe.subset (List.mem_of_getElem? hz)
          obtain ⟨hzk, hzL⟩ := hkp z hzc
          walk_at "lw"
          refine g_rdgetI (.of (s7.at hkd6)) (by rw [valV_mkD, if_pos hzk]) ?_
          have ha7 := s7.at (s6.at (s5.at (sm.at (hka z hzk).2)))
          refine g_ritL (SqL.of ha7) ?_
          refine for_at (G := fun H' => SqL K H' (A' z) ((kp z).map V.str)) walk_list (fun i σ H' => Same H7 H' ∧ ∃ v4 v5 v6 : Option V, σ = [some (.ref x.R), some (.ref kd), some (.ref x.p), some (.ref x.nd), v4, v5, v6]) ⟨Same.refl _, _, _, _, rfl⟩ (fun i σ H' h => SqL.of (h.1.at ha7)) ?_ ?_
          · rintro i yy σ H8 hyy ⟨s8, v4, v5, v6, rfl⟩
            obtain ⟨y, hy, rfl⟩ := map_at hyy
            walk_at "lw"
            refine ⟨c, x.p, s'.ks, s'.B, y, rfl, W5.st.same (s6.trans (s7.trans s8)), wf, wR y (.inl ⟨z, hzc, hzL y (List.mem_of_getElem? hy)⟩), fun H9 s9 => ?_⟩
            walk_at "lw"
            exact ⟨s8.trans s9, _, _, _, rfl⟩
          · rintro σ H8 ⟨s8, v4, v5, v6, rfl⟩
            walk_at "lw"
            exact ⟨s7.trans s8, _, _, _, rfl⟩
        · rintro σ H7 ⟨s7, v4, v5, v6, rfl⟩
          walk_at "lw"
          exact k H7 (sm.trans (s5.trans (s6.trans s7)))
end
end Lw

/-! ## the law -/
namespace Lw
open PySem L2
open PyProof.Rows (envOfC sortedS)
def spLaw (K : PySem.W.Frag) : Sp := fun vs H Q _ => ∃ (a : Addr) (ns : List Int), vs = [.ref a] ∧ SqL K H a (ns.map V.int) ∧ ns.length ≤ 63 ∧ ∀ H', Q (.bl true) H'
/-- what is kept, and the registry -/
structure KI (m : Nat) (s : Rg) (kk : List Int) (kp : Int → List Str) : Prop where
  mem : ∀ j, j ∈ kk ↔ 0 ≤ j ∧ j ≤ s.n
  len : (kk.length : Int) = s.n + 1
  sub : ∀ i ∈ s.cs, ∀ a ∈ kp i, a ∈ s.L i
  kl : ∀ i, (kp i).length ≤ m
theorem KI.up {m m' : Nat} {s s' : Rg} {kk : List Int} {kp : Int → List Str} (h : KI m s kk kp) (hm : m ≤ m') (e1 : s'.n = s.n) (e2 : ∀ i ∈ s'.cs, i ∈ s.cs) (e3 : s'.L = s.L) : KI m' s' kk kp :=
  ⟨by rw [e1]; exact h.mem, by rw [e1]; exact h.len, fun i hi a ha => by rw [e3]; exact h.sub i (e2 i hi) a ha, fun i => Nat.le_trans (h.kl i) hm⟩
theorem cstep_keep {rs : List Str} {s s' : Rg} {w : Str} (h : CStep rs s s' w) : s'.n = s.n ∧ s'.cs = s.cs ∧ s'.L = s.L := by
  cases h <;> exact ⟨rfl, rfl, rfl⟩
theorem noR7 : ¬ IReg 7 := by rintro (z | z | z | z | z) <;> cases z
theorem noR13 : ¬ IReg 13 := by rintro (z | z | z | z | z) <;> cases z
theorem no07 : ¬ IR0 0 ∨ True := .inr trivial
theorem n0_7 : ¬ IR0 7 := by
  rintro (z | z)
  · cases z
  · exact noR7 z
theorem n0_13 : ¬ IR0 13 := by
  rintro (z | z)
  · cases z
  · exact noR13 z
theorem n0_9 : ¬ IR0 9 := by
  rintro (z | z)
  · cases z
  · exact noR9 z
theorem icR : ∀ i, ICo i → IReg i := fun i h => h.elim (fun z => .inr (.inr (.inr (.inr z)))) fun z => .inl z
section
variable {P : Program} {w : World} {K : PySem.W.Frag} {mg : Str → Option Value} {base : Heap} {C_Claims C_Collector C_Store C_Uploads C_Registry C_Refused C_Malformed a_KINDS a_BELOW a_CLAIMED : Addr}
theorem ok_law (T : Txt w K mg C_Claims C_Collector C_Store C_Uploads C_Registry C_Refused C_Malformed a_KINDS a_BELOW a_CLAIMED) {f : Addr} {fd : FuncData} (F : Fun K "law" "law" s_law f fd) : FnOk P w K mg base CX0 16 f fd ["_law_script"] (spLaw K) := by
  have c__law_state : Cal P w K mg base 1 "_law_state" (spState K) := ok__law_state T
  have c__law_take : Cal P w K mg base 1 "_law_take" spTake := ok__law_take T
  have c__law_goods : Cal P w K mg base 3 "_law_goods" spGoods := ok__law_goods T
  have c__law_goods_clash : Cal P w K mg base 3 "_law_goods_clash" spGClash := ok__law_goods_clash T
  have c__law_request : Cal P w K mg base 15 "_law_request" (spLReq C_Store C_Claims C_Uploads C_Collector C_Registry) := ok__law_request T
  have c__law_sound : Cal P w K mg base 6 "_law_sound" (spSound C_Store C_Claims C_Uploads C_Collector C_Registry) := ok__law_sound T
  have m_Registry : Mak P w K mg base 3 "Registry" C_Registry (spRInit C_Store C_Claims C_Uploads C_Collector C_Registry) := ok_Registry___init__ T
  have t_Registry_answer : Met P w K mg base 13 C_Registry "answer" (spAns C_Store C_Claims C_Uploads C_Collector C_Registry) := ok_Registry_answer T
  have t_Registry_collect : Met P w K mg base 9 C_Registry "collect" (spCollect C_Store C_Claims C_Uploads C_Collector C_Registry) := ok_Registry_collect T
  have t_Registry_lapse : Met P w K mg base 2 C_Registry "lapse" (spLapse C_Store C_Claims C_Uploads C_Collector C_Registry) := ok_Registry_lapse T
  have t_Registry_drop_name : Met P w K mg base 1 C_Registry "drop_name" (spDrop C_Store C_Claims C_Uploads C_Collector C_Registry) := ok_Registry_drop_name T
  have t_Registry_fall : Met P w K mg base 2 C_Registry "fall" (spFall C_Store C_Claims C_Uploads C_Collector C_Registry) := ok_Registry_fall T
  have t_Claims_is_open : Met P w K mg base 1 C_Claims "is_open" (spCOpen C_Claims) := ok_Claims_is_open T
  refine F.ok sc_law (fun vs H Q E h => ?_) (fun cdv A outer s H vs Q E hr h => ?_)
  · obtain ⟨a, ns, rfl, _⟩ := h
    rfl
  · obtain ⟨sc, ns, rfl, hS, hlen, k⟩ := h
    have hu := hu_of hr
    refine ⟨_, (pss_cons (ps_set (i := 1) sc_law.nd rfl (by first | exact Or.inl rfl | exact Or.inr rfl) (pe_c c__law_state hr (by first | decide | omega) rfl (pa_cons (pv 0) pa_nil)))
      (pss_cons (ps_set (i := 2) sc_law.nd rfl (by first | exact Or.inl rfl | exact Or.inr rfl) (pe_c c__law_goods hr (by first | decide | omega) rfl (pa_cons (pv 1) pa_nil)))
      (pss_cons (ps_if (pt_val (pe_c c__law_goods_clash hr (by first | decide | omega) rfl (pa_cons (pv 2) pa_nil))) (pss_one (ps_ret (pe_bl))) pss_nil)
      (pss_cons (ps_set (i := 3) sc_law.nd rfl (by first | exact Or.inl rfl | exact Or.inr rfl) (pe_mk0 m_Registry hr (by first | decide | omega) rfl))
      (pss_cons (ps_set (i := 4) sc_law.nd rfl (by first | exact Or.inl rfl | exact Or.inr rfl) (pe_disp (pps_cons (pe_int) (pe_lst pa_nil) pps_nil) (by rfl) (by rfl) (fun z => by cases z) (by decide)))
      (pss_cons (ps_for PassesOwn.never rfl (pi_range1 (by rfl) T.n_range (pa_cons (pe_c c__law_take hr (by first | decide | omega) rfl (pa_cons (pv 1) (pa_cons (pe_int) pa_nil))) pa_nil)) (pg_name (i := 5) sc_law.nd rfl (by first | exact Or.inl rfl | exact Or.inr rfl)) (pss_cons (ps_set (i := 6) sc_law.nd rfl (by first | exact Or.inl rfl | exact Or.inr rfl) (pe_c c__law_take hr (by first | decide | omega) rfl (pa_cons (pv 1) (pa_cons (pe_int) pa_nil))))
      (pss_cons (ps_set (i := 7) sc_law.nd rfl (by first | exact Or.inl rfl | exact Or.inr rfl) (pe_op op_sub (pe_op op_sub (pe_callB call_lenD' (by rfl) T.n_len (by decide +kernel) (pa_cons (pv 4) pa_nil)) (pe_int)) (pe_ix ix_list (pe_lst (pa_cons (pe_int) (pa_cons (pe_int) (pa_cons (pe_int) (pa_cons (pe_int) pa_nil))))) (pe_c c__law_take hr (by first | decide | omega) rfl (pa_cons (pv 1) (pa_cons (pe_int) pa_nil))) (fun _ _ => rfl))))
      (C8.pss_cut (ps_if (pt_cmpR op_lt (pv 6) (pe_int) (nomark _)) (pss_cons (ps_set (i := 8) sc_law.nd rfl (by first | exact Or.inl rfl | exact Or.inr rfl) (pe_mt t_Registry_answer hr (by first | decide | omega) (pv 3) (pa_cons (pe_tup (pa_cons (pe_str) pa_nil)) pa_nil)))
      (pss_one (ps_dput hu (pv 4) (pe_ix ix_tup (pv 8) (pe_int) (fun _ _ => rfl)) (pe_lst pa_nil) rfl))) (pss_one (ps_if (pt_cmpR op_lt (pv 6) (pe_int) (nomark _)) (pss_one (ps_expr (pe_mt0 t_Registry_collect hr (by first | decide | omega) (pv 3)))) (pss_one (ps_if (pt_cmpR op_eq (pv 6) (pe_int) (nomark _)) (pss_one (ps_expr (pe_mt0 t_Registry_fall hr (by first | decide | omega) (pv 3)))) (pss_one (ps_if (pt_cmpR op_eq (pv 6) (pe_int) (nomark _)) (pss_one (ps_expr (pe_mt t_Registry_lapse hr (by first | decide | omega) (pv 3) (pa_cons (pv 7) pa_nil)))) (pss_one (ps_if (pt_cmpR op_eq (pv 6) (pe_int) (nomark _)) (pss_one (ps_expr (pe_mt t_Registry_drop_name hr (by first | decide | omega) (pv 3) (pa_cons (pe_ix ix_list (pe_lst (pa_cons (pe_str) (pa_cons (pe_str) pa_nil))) (pe_c c__law_take hr (by first | decide | omega) rfl (pa_cons (pv 1) (pa_cons (pe_int) pa_nil))) (fun _ _ => rfl)) pa_nil)))) (pss_one (ps_if (pt_cmpR op_gt (pv 7) (pe_int) (nomark _)) (pss_cons (ps_set (i := 9) sc_law.nd rfl (by first | exact Or.inl rfl | exact Or.inr rfl) (pe_mt t_Claims_is_open hr (by first | decide | omega) (pe_fld (pv 3) rfl) (pa_cons (pv 7) pa_nil)))
      (pss_cons (ps_asg (pe_c c__law_request hr (by first | decide | omega) rfl (pa_cons (pv 1) (pa_cons (pv 3) (pa_cons (pv 2) (pa_cons (pv 7) pa_nil))))) (pg_tup (by rfl) (pgs_cons (pg_name (i := 10) sc_law.nd rfl (by first | exact Or.inl rfl | exact Or.inr rfl)) (pgs_cons (pg_name (i := 8) sc_law.nd rfl (by first | exact Or.inl rfl | exact Or.inr rfl)) pgs_nil))))
      (pss_cons (ps_if (pt_cmpR op_ne (pv 9) (pe_cmpR op_ne (pe_ix ix_tup (pv 8) (pe_int) (fun _ _ => rfl)) (pe_str) (nomark _)) (nomark _)) (pss_one (ps_ret (pe_bl))) pss_nil)
      (C8.pss_cut (ps_if (PW.pt (pw_and (pt_cmpR op_in_seq (pv 10) (pe_dget hu (pv 4) (pv 7) (fun _ _ => rfl)) (by rfl)) (pw_and (pt_val (pv 9)) (pw_and1 (pt_cmpR op_notIn_seq (pe_ix ix_tup (pv 8) (pe_int) (fun _ _ => rfl)) (pe_lst (pa_cons (pe_str) (pa_cons (pe_str) pa_nil))) (by rfl)))))) (pss_one (ps_ret (pe_bl))) pss_nil)
      (pss_one (ps_if (pt_cmpR op_eq (pe_ix ix_tup (pv 8) (pe_int) (fun _ _ => rfl)) (pe_str) (nomark _)) (pss_one (ps_dput hu (pv 4) (pv 7) (pe_op op_cat (pe_dget hu (pv 4) (pv 7) (fun _ _ => rfl)) (pe_lst (pa_cons (pv 10) pa_nil))) rfl)) pss_nil)))))) pss_nil)))))))))))
      (pss_one (ps_if (pt_not (pt_val (pe_c c__law_sound hr (by first | decide | omega) rfl (pa_cons (pv 3) (pa_cons (pv 4) pa_nil))))) (pss_one (ps_ret (pe_bl))) pss_nil))))))
      (pss_one (ps_ret (pe_bl))))))))), ?_⟩
    walk_at "lw"
    refine ⟨sc, ns, fun _ => 9, rfl, hS, hlen, fun S c1 H1 S1 st1 => ?_⟩
    clear st1 hS
    walk_at "lw"
    refine ⟨c1, S, rfl, S1, fun t0 ls is c2 H2 gw gd S2 st2 => ?_⟩
    clear S1 st2
    walk_at "lw"
    refine ⟨c2, t0, ls, is, rfl, gd, gw, fun r H3 s3 inj => ?_⟩
    walk_at "lw"
    have gd := gd.frame (I := fun _ => False) (Stp.same s3) id
    have S3 := S2.frame (I := fun _ => False) (Stp.same s3) (by decide)
    clear S2 s3
    cases r with
    | true =>
      walk_at "lw"
      exact k _
    | false =>
      have g := gw.ok (inj rfl)
      walk_at "lw"
      intro p dx np ndx nex
      refine ⟨c2, p, dx, rfl, upd_same, fun c4 H4 x hx W4 kp => ⟨rfl, ?_⟩⟩
      subst hx
      have s4 : Same H3 H4 := Same.made np ndx fun b o e hb => (kp b o e hb).1
      have st4 : Stp (fun _ => False) c2 c4 H3 H4 := Stp.sameC s4 fun b o e => (kp b o (by rw [upd_ne (ne_of_none e np), upd_ne (ne_of_none e ndx)]; exact e) (ne_of_none e np)).2
      have S4 := S3.frame st4 (by decide)
      have gd := gd.frame st4 id
      clear kp s4 st4 S3 np ndx nex inj
      walk_at "lw"
      refine g_disp fun kd H5 nkd s5 hkd => ?_
      walk_at "lw"
      refine g_klst (by show 0 ≤ 100; decide) fun q H6 nq s6 hq => ?_
      walk_at "lw"
      refine g_rdisp (kvs := [(kI 0, .ref q)]) (s6.at hkd) rfl (by show 1 ≤ 15; decide) fun H7 hk7 k7 => ?_
      have hk7 : H7 kd = some (.dK (mkD [0] fun _ => .ref q)) := hk7
      have nkq : kd ≠ q := ne_of_none hkd nq
      have nq4 : H4 q = none := s5.free nq
      have s7 : Same H4 H7 := (s5.trans s6).chg nkd k7
      obtain ⟨c7, e1, e2, e3⟩ : ∃ c7 : Addr → Nat, c7 kd = 7 ∧ c7 q = 13 ∧ ∀ b o, H4 b = some o → c7 b = c4 b := by
        refine ⟨fun b => if b = kd then 7 else if b = q then 13 else c4 b, if_pos rfl, ?_, fun b o e => ?_⟩
        · dsimp only; rw [if_neg nkq.symm, if_pos rfl]
        · dsimp only; rw [if_neg (ne_of_none e nkd), if_neg (ne_of_none e nq4)]
      have st7 : Stp (fun _ => False) c4 c7 H4 H7 := Stp.sameC s7 e3
      have W7 := W4.frame st7 noFR
      have S7 := S4.frame st7 (by decide)
      have gd := gd.frame st7 id
      have K7 : KpAt c7 H7 kd [0] (fun _ => []) := ⟨fun _ => q, e1, hk7, fun i hi => ⟨e2, by rw [k7 q nkq.symm]; exact hq⟩⟩
      have I7 : KI 0 Rg0 [0] (fun _ => []) := ⟨fun j => by
        rw [List.mem_singleton]
        show j = 0 ↔ 0 ≤ j ∧ j ≤ 0
        omega, rfl, (fun i hi => nomatch hi), fun _ => Nat.le_refl _⟩
      clear e1 e2 e3 st7 W4 S4 s7 hk7 k7 hq hkd nkd s5 s6 nq nq4
      walk_at "lw"
      refine ⟨c7, S, 121, rfl, S7, by decide, by decide, fun r c8 H8 r0 r1 S8 st8 => ?_⟩
      have W8 := W7.frame st8 no0R
      have gd := gd.frame st8 (by decide)
      have K8 := K7.frame st8 (by decide) (by decide)
      clear W7 K7 S7 st8
      walk_at "lw"
      refine g_for1 r0 (by omega) (fun i σ H => ∃ (c : Addr → Nat) (s : Rg) (kk : List Int) (kp : Int → List Str) (v5 v6 v7 v8 v9 v10 : Option V), σ = [some (.ref sc), some (.ref S), some (.ref t0), some (.ref x.R), some (.ref kd), v5, v6, v7, v8, v9, v10] ∧ StateAt c H S ∧ RegAt C_Store C_Claims C_Uploads C_Collector C_Registry c H x s ∧ GdAt c H t0 ls is ∧ KpAt c H kd kk kp ∧ J (goods ls is) (4 * i) s ∧ KI (4 * i) s kk kp)
        ⟨c8, Rg0, [0], fun _ => [], none, none, none, none, none, none, rfl, S8, W8, gd, K8, J.zero, I7⟩ ?_ ?_
      · clear S8 W8 gd K8
        rintro i σ H10 hi ⟨c10, s', kk, kp, v5, v6, v7, v8, v9, v10, rfl, S10, W10, gd, K10, j, ki⟩
        have hi50 : i < 121 := by omega
        have n0 := j.n0
        have kln := ki.len
        walk_at "lw"
        refine ⟨c10, S, 24, rfl, S10, by decide, by decide, fun kn c11 H11 kn0 kn1 S11 st11 => ?_⟩
        have W11 := W10.frame st11 no0R
        have gd := gd.frame st11 (by decide)
        have K11 := K10.frame st11 (by decide) (by decide)
        clear S10 W10 K10 st11
        obtain ⟨A', ck, hkd, hka⟩ := id K11.ex
        walk_at "lw"
        refine g_klst (by show 4 ≤ 100; decide) fun q H12 nq s12 hq => ?_
        have st12 : Stp (fun _ => False) c11 (Stp.paint c11 q 9) H11 H12 := L2x_sameN s12 nq
        have cq : Stp.paint c11 q 9 q = 9 := Stp.paint_same
        have S12 := S11.frame st12 (by decide)
        have W12 := W11.frame st12 noFR
        have gd := gd.frame st12 id
        have K12 := K11.frame st12 id id
        generalize Stp.paint c11 q 9 = c12 at st12 cq S12 W12 gd K12
        clear S11 W11 K11 st12 ck hkd hka s12 nq
        walk_at "lw"
        refine take_at (n := 4) S12 (by rw [cq]; decide) hq rfl (by decide) (by decide) fun jj v c13 H13 hj S13 st13 => ?_
        obtain ⟨d, rfl, d0, d2⟩ : ∃ d : Int, v = .int d ∧ 0 ≤ d ∧ d ≤ 2 := by
          have : ∀ x ∈ ([.int 0, .int 0, .int 1, .int 2] : List V), ∃ d : Int, x = .int d ∧ 0 ≤ d ∧ d ≤ 2 := by simp
          exact this v (List.mem_of_getElem? hj)
        have W13 := W12.frame st13 no0R
        have gd := gd.frame st13 (by decide)
        have K13 := K12.frame st13 (by decide) (by decide)
        clear S12 W12 K12 st13 hj hq cq
        walk_at "lw"
        rw [mkD_len, kln, show s'.n + 1 - 1 - d = s'.n - d by omega]
        have hcl : ∃ cl : Int, cl = s'.n - d := ⟨_, rfl⟩
        obtain ⟨cl, ecl⟩ := hcl
        rw [← ecl]
        have j1 := j.mono (show 4 * i ≤ 4 * (i + 1) by omega)
        refine g_cut (fun σ H => ∃ (c : Addr → Nat) (s : Rg) (kk : List Int) (kp : Int → List Str) (v5 v6 v7 v8 v9 v10 : Option V), σ = [some (.ref sc), some (.ref S), some (.ref t0), some (.ref x.R), some (.ref kd), v5, v6, v7, v8, v9, v10] ∧ StateAt c H S ∧ RegAt C_Store C_Claims C_Uploads C_Collector C_Registry c H x s ∧ GdAt c H t0 ls is ∧ KpAt c H kd kk kp ∧ J (goods ls is) (4 * (i + 1)) s ∧ KI (4 * (i + 1)) s kk kp) ?_ ?_
        · obtain ⟨dR, dS, dC, _, _, _, _, _, _, _, _, _, _, hR, hP, hC, _⟩ := W13.hs
          have kic : ∀ s2 : Rg, s2.n = s'.n → (∀ i ∈ s2.cs, i ∈ s'.cs) → s2.L = s'.L → KI (4 * (i + 1)) s2 kk kp := fun s2 e1 e2 e3 => ki.up (by omega) e1 e2 e3
          walk_at "lw"
          refine if2 (fun h0 => ?_) (fun h0 => ?_)
          · walk_at "lw"
            refine g_ktup (by show 1 ≤ 100; decide) fun t1 H14 nt1 s14 ht1 => ?_
            walk_at "lw"
            refine ⟨c13, x, s', .opn, t1, rfl, ht1, W13.same s14, j.rwf g (by omega), trivial, ansOk7 g j (fun _ _ _ z => by cases z), fun c15 H15 t2 W15 st15 ht2 => ?_⟩
            have st15 : Stp IReg c13 c15 H13 H15 := (Stp.same s14).trans st15
            have ht2 : H15 t2 = some (.tup [.str "claim", .int (s'.n + 1)]) := ht2
            have S15 := S13.frame st15 noR0
            have gd := gd.frame st15 noR9
            have K15 := K13.frame st15 noR7 noR13
            clear S13 W13 K13 st15 s14 ht1 nt1 hR hP hC
            walk_at "lw"
            refine g_klst (by show 0 ≤ 100; decide) fun q H16 nq s16 hq => ?_
            have st16 : Stp (fun _ => False) c15 (Stp.paint c15 q 13) H15 H16 := L2x_sameN s16 nq
            have cq : Stp.paint c15 q 13 q = 13 := Stp.paint_same
            have S16 := S15.frame st16 (by decide)
            have W16 := W15.frame st16 noFR
            have gd := gd.frame st16 id
            obtain ⟨A', ck, hkd, hka⟩ := (K15.frame st16 id id).ex
            generalize Stp.paint c15 q 13 = c16 at st16 cq S16 W16 gd ck hka
            have ht2 := s16.at ht2
            clear S15 W15 K15 st16 s16 nq
            have nk : s'.n + 1 ∉ kk := fun z => by have := (ki.mem _).mp z; omega
            walk_at "lw"
            refine g_rixT (SqT.of ht2) (j := 1) (v := .int (s'.n + 1)) rfl ?_
            walk_at "lw"
            refine g_rdputI hkd (by rw [mkD_len]; omega) fun H17 h17 k17 => ?_
            rw [putK_mkD_new nk] at h17
            have st17 : Stp (fun i => i = 7) c16 c16 H16 H17 := Stp.ch hkd ck (fun xs z => by cases z) h17 k17
            walk_at "lw"
            refine ⟨c16, _, kk ++ [s'.n + 1], fun i => if i = s'.n + 1 then [] else kp i, _, _, _, _, _, _, rfl, S16.frame st17 (by decide), W16.frame st17 (fun i z => by rw [z]; exact noR7), gd.frame st17 (by decide), ⟨fun i => if i = s'.n + 1 then q else A' i, ck, by
              rw [h17]
              congr 2
              refine mkD_congr fun i _ => ?_
              dsimp only
              by_cases e : i = s'.n + 1
              · rw [if_pos e, if_pos e]
              · rw [if_neg e, if_neg e], fun i hi => ?_⟩, j.opn.mono (by omega), ⟨fun jj => ?_, ?_, fun i hi a ha => ?_, fun i => ?_⟩⟩
            · dsimp only
              by_cases e : i = s'.n + 1
              · rw [if_pos e, if_pos e, k17 q (ne_of hq hkd (by intro z; cases z))]
                exact ⟨cq, hq⟩
              · rw [if_neg e, if_neg e]
                have hi : i ∈ kk := (List.mem_append.mp hi).resolve_right fun z => e (List.mem_singleton.mp z)
                exact ⟨(hka i hi).1, by rw [k17 _ (ne_of (hka i hi).2 hkd (by intro z; cases z))]; exact (hka i hi).2⟩
            · rw [List.mem_append, List.mem_singleton, ki.mem]
              show _ ↔ 0 ≤ jj ∧ jj ≤ s'.n + 1
              omega
            · rw [List.length_append]
              show ((kk.length + 1 : Nat) : Int) = s'.n + 1 + 1
              omega
            · have ha : a ∈ (if i = s'.n + 1 then [] else kp i) := ha
              show a ∈ (if i = s'.n + 1 then [] else s'.L i)
              by_cases e : i = s'.n + 1
              · rw [if_pos e] at ha; cases ha
              · rw [if_neg e] at ha ⊢
                exact ki.sub i ((List.mem_append.mp hi).resolve_right fun z => e (List.mem_singleton.mp z)) a ha
            · show (if i = s'.n + 1 then [] else kp i).length ≤ _
              split
              · exact Nat.zero_le _
              · have := ki.kl i; omega
          walk_at "lw"
          refine if2 (fun h1 => ?_) (fun h1 => ?_)
          · walk_at "lw"
            refine ⟨c13, x, s', s'.ks, rfl, W13, fun y hy => root_in j hy, by have := j.sg.len; have := g.len; omega, by have := j.nl; omega, j.stepOk g (by omega), fun c14 H14 s2 w rs nd hm cs W14 st14 => ?_⟩
            have st14 := st14.mono icR
            have j2 := j.cstep g nd hm cs
            obtain ⟨z1, z2, z3⟩ := cstep_keep cs
            walk_at "lw"
            exact ⟨c14, s2, kk, kp, _, _, _, _, _, _, rfl, S13.frame st14 noR0, W14, gd.frame st14 noR9, K13.frame st14 noR7 noR13, j2.mono (by omega), kic s2 z1 (by rw [z2]; exact fun _ z => z) z3⟩
          walk_at "lw"
          refine if2 (fun h2 => ?_) (fun h2 => ?_)
          · walk_at "lw"
            refine ⟨c13, x, s', rfl, W13, fun c14 H14 W14 st14 => ?_⟩
            walk_at "lw"
            exact ⟨c14, _, kk, kp, _, _, _, _, _, _, rfl, S13.frame st14 noR0, W14, gd.frame st14 noR9, K13.frame st14 noR7 noR13, j1.fall, kic _ rfl (fun _ z => z) rfl⟩
          walk_at "lw"
          refine if2 (fun h3 => ?_) (fun h3 => ?_)
          · walk_at "lw"
            refine ⟨c13, x, s', cl, rfl, W13, fun c14 H14 W14 st14 => ?_⟩
            walk_at "lw"
            exact ⟨c14, _, kk, kp, _, _, _, _, _, _, rfl, S13.frame st14 noR0, W14, gd.frame st14 noR9, K13.frame st14 noR7 noR13, j1.lapse cl, kic _ rfl (fun _ z => (List.mem_filter.mp z).1) rfl⟩
          walk_at "lw"
          refine if2 (fun h4 => ?_) (fun h4 => ?_)
          · walk_at "lw"
            refine g_klst (by show 2 ≤ 100; decide) fun q6 H14 nq6 s14 hq6 => ?_
            have st14 : Stp (fun _ => False) c13 (Stp.paint c13 q6 9) H13 H14 := L2x_sameN s14 nq6
            have S14 := S13.frame st14 (by decide)
            have W14 := W13.frame st14 noFR
            have gd := gd.frame st14 id
            have K14 := K13.frame st14 id id
            have cq : Stp.paint c13 q6 9 q6 = 9 := Stp.paint_same
            generalize Stp.paint c13 q6 9 = c14 at st14 S14 W14 cq gd K14
            clear S13 W13 K13 hR hP hC
            walk_at "lw"
            refine take_at (n := 2) S14 (by rw [cq]; decide) hq6 rfl (by decide) (by decide) fun jj v c15 H15 hj S15 st15 => ?_
            obtain ⟨nm, rfl⟩ : ∃ nm : Str, v = .str nm := by
              have : ∀ x ∈ ([.str "app", .str "web"] : List V), ∃ nm : Str, x = .str nm := by simp
              exact this v (List.mem_of_getElem? hj)
            have W15 := W14.frame st15 no0R
            have gd := gd.frame st15 (by decide)
            have K15 := K14.frame st15 (by decide) (by decide)
            clear S14 W14 K14 hj
            walk_at "lw"
            refine ⟨c15, x, s', nm, rfl, W15, fun c16 H16 W16 st16 => ?_⟩
            walk_at "lw"
            exact ⟨c16, _, kk, kp, _, _, _, _, _, _, rfl, S15.frame st16 noR0, W16, gd.frame st16 noR9, K15.frame st16 noR7 noR13, j1.unname nm, kic _ rfl (fun _ z => z) rfl⟩
          walk_at "lw"
          refine if2 (fun h5 => ?_) (fun h5 => ?_)
          · have h5 : 0 < cl := by simpa using h5
            have hck : cl ∈ kk := (ki.mem cl).mpr (by omega)
            walk_at "lw"
            refine ⟨c13, x.cp, s'.n, cl, s'.cs, s'.L, rfl, W13.cl, ?_⟩
            walk_at "lw"
            refine ⟨c13, S, t0, x, s', ls, is, 4 * i, cl, rfl, S13, W13, gd, gw, g, j, by omega, fun c14 H14 tt t2 s2 a w r po S14 W14 st14 htt ht2 => ?_⟩
            have gd := gd.frame st14 n0_9
            have K14 := K13.frame st14 n0_7 n0_13
            have j2 := po.j.mono (show 4 * i + 3 ≤ 4 * (i + 1) by omega)
            have nn := po.n
            have ncs := po.cs
            have sub2 : ∀ i ∈ s2.cs, ∀ y ∈ kp i, y ∈ s2.L i := fun i hi y hy => po.L i y (ki.sub i (by rw [← ncs]; exact hi) y hy)
            have ki2 : KI (4 * (i + 1)) s2 kk kp := ⟨by rw [nn]; exact ki.mem, by rw [nn]; exact ki.len, sub2, fun jj => by have := ki.kl jj; omega⟩
            clear S13 W13 K13 hR hP hC
            obtain ⟨A', ck, hkd, hka⟩ := id K14.ex
            have hkd0 := hkd
            refine g_gtup (SqT.of htt) rfl ?_
            walk_at "lw"
            have at0 : atI (List.map kV (Sum.inr w :: r)) 0 = some (V.str w) := atI_nat (j := 0) rfl
            refine g_rixT (SqT.of ht2) (j := 0) (v := .str w) at0 ?_
            walk_at "lw"
            have e1 : decide (cl ∈ s'.cs) = !decide (V.str w = V.str "lapsed") := by
              by_cases hc : cl ∈ s'.cs
              · rw [decide_eq_true hc, decide_eq_false fun z => (po.lap.mp (str_eq.mp z)) hc]; rfl
              · rw [decide_eq_false hc, decide_eq_true (str_eq.mpr (po.lap.mpr hc))]; rfl
            refine ifF (by rw [e1, decide_eq_true rfl]; rfl) ?_
            walk_at "lw"
            refine g_cut (fun σ H15 => σ = [some (.ref sc), some (.ref S), some (.ref t0), some (.ref x.R), some (.ref kd), some (.int (i : Int)), some (.int kn), some (.int cl), some (.ref t2), some (.bl (decide (cl ∈ s'.cs))), some (.str a)] ∧ Same H14 H15) ?_ ?_
            · walk_at "lw"
              refine g_rdgetI (.of hkd) (by rw [valV_mkD, if_pos hck]) ?_
              refine ⟨A' cl, (kp cl).map V.str, rfl, .inl (SqL.of (hka cl hck).2), rfl, flat_str _, ?_⟩
              rw [inV_str]
              walk_at "lw"
              by_cases ha : a ∈ kp cl
              · rw [decide_eq_true ha]
                walk_at "lw"
                by_cases hc : cl ∈ s'.cs
                · rw [decide_eq_true hc]
                  walk_at "lw"
                  refine g_rixT (SqT.of ht2) (j := 0) (v := .str w) at0 ?_
                  walk_at "lw"
                  have hw := po.kept hc (ki.sub cl hc a ha)
                  refine g_kninL (b := true) (by show 2 ≤ 100; decide) rfl rfl (by rcases hw with e | e <;> rw [e] <;> decide +kernel) fun H15 s15 => ?_
                  walk_at "lw"
                  exact ⟨rfl, s15⟩
                · rw [decide_eq_false hc]
                  walk_at "lw"
                  exact ⟨rfl, Same.refl _⟩
              · rw [decide_eq_false ha]
                walk_at "lw"
                exact ⟨rfl, Same.refl _⟩
            · rintro σ H15 ⟨rfl, s15⟩
              walk_at "lw"
              refine g_rixT (SqT.of (s15.at ht2)) (j := 0) (v := .str w) at0 ?_
              walk_at "lw"
              refine if2 (fun hw => ?_) (fun hw => ?_)
              · have hw := str_eq.mp hw
                have hkd := s15.at hkd
                have hal := s15.at (hka cl hck).2
                walk_at "lw"
                refine g_rdgetI (.of hkd) (by rw [valV_mkD, if_pos hck]) ?_
                walk_at "lw"
                refine g_klst (by show 1 ≤ 100; decide) fun q H16 nq s16 hq => ?_
                walk_at "lw"
                have kl := ki.kl cl
                refine g_cat (s16.at hal) hq (by rw [List.length_map]; show (kp cl).length + 1 ≤ 100000; omega) fun q2 H17 nq2 s17 hq2 => ?_
                have s1517 := s15.trans (s16.trans s17)
                have st17 : Stp (fun _ => False) c14 (Stp.paint c14 q2 13) H14 H17 := (Stp.same (s15.trans s16)).trans (L2x_sameN s17 nq2)
                have cq : Stp.paint c14 q2 13 q2 = 13 := Stp.paint_same
                have S17 := S14.frame st17 (by decide)
                have W17 := W14.frame st17 noFR
                have gd := gd.frame st17 id
                have ckd : Stp.paint c14 q2 13 kd = 7 := by rw [st17.col _ _ (hkd0), ck]
                have hka17 : ∀ i ∈ kk, Stp.paint c14 q2 13 (A' i) = 13 ∧ H17 (A' i) = some (.lst ((kp i).map V.str)) := fun i hi => ⟨by rw [st17.col _ _ (hka i hi).2, (hka i hi).1], s1517.at (hka i hi).2⟩
                generalize Stp.paint c14 q2 13 = c17 at st17 cq S17 W17 gd ckd hka17
                have hkd := (s16.trans s17).at hkd
                walk_at "lw"
                refine g_rdputI hkd (by rw [mkD_len]; omega) fun H18 h18 k18 => ?_
                rw [putK_mkD_old hck] at h18
                have st18 : Stp (fun i => i = 7) c17 c17 H17 H18 := Stp.ch hkd ckd (fun xs z => by cases z) h18 k18
                walk_at "lw"
                refine ⟨c17, s2, kk, fun i => if i = cl then kp cl ++ [a] else kp i, _, _, _, _, _, _, rfl, S17.frame st18 (by decide), W17.frame st18 (fun i z => by rw [z]; exact noR7), gd.frame st18 (by decide), ⟨fun i => if i = cl then q2 else A' i, ckd, by
                  rw [h18]
                  congr 2
                  refine mkD_congr fun i _ => ?_
                  dsimp only
                  by_cases e : i = cl
                  · rw [if_pos e, if_pos e]
                  · rw [if_neg e, if_neg e], fun i hi => ?_⟩, j2, ⟨ki2.mem, ki2.len, fun i hi y hy => ?_, fun i => ?_⟩⟩
                · dsimp only
                  by_cases e : i = cl
                  · rw [if_pos e, if_pos e, k18 q2 (ne_of hq2 hkd (by intro z; cases z)), hq2, List.map_append]
                    exact ⟨cq, rfl⟩
                  · rw [if_neg e, if_neg e]
                    exact ⟨(hka17 i hi).1, by rw [k18 _ (ne_of (hka17 i hi).2 hkd (by intro z; cases z))]; exact (hka17 i hi).2⟩
                · have hy : y ∈ (if i = cl then kp cl ++ [a] else kp i) := hy
                  by_cases e : i = cl
                  · rw [if_pos e] at hy
                    rcases List.mem_append.mp hy with z | z
                    · rw [e] at hi ⊢
                      exact sub2 cl hi y z
                    · rw [List.mem_singleton.mp z, e]
                      exact po.new hw
                  · rw [if_neg e] at hy
                    exact sub2 i hi y hy
                · show (if i = cl then kp cl ++ [a] else kp i).length ≤ _
                  split
                  · rw [List.length_append]; show (kp cl).length + 1 ≤ _; omega
                  · exact ki2.kl i
              · walk_at "lw"
                exact ⟨c14, s2, kk, kp, _, _, _, _, _, _, rfl, S14.frame (I := fun _ => False) (Stp.same s15) (by decide), W14.same s15, gd.frame (I := fun _ => False) (Stp.same s15) id, K14.frame (I := fun _ => False) (Stp.same s15) id id, j2, ki2⟩
          · walk_at "lw"
            exact ⟨c13, s', kk, kp, _, _, _, _, _, _, rfl, S13, W13, gd, K13, j1, kic _ rfl (fun _ z => z) rfl⟩
        · clear S13 W13 gd K13 j ki n0 kln ecl j1
          rintro σ H14 ⟨c14, s2, kk, kp, v5, v6, v7, v8, v9, v10, rfl, S14, W14, gd, K14, j, ki⟩
          walk_at "lw"
          refine ⟨c14, x, s2, goods ls is, 4 * (i + 1), kd, kk, kp, rfl, W14, g, j, by omega, K14, fun i hi => ⟨(ki.mem i).mpr (by have := j.cle i hi; omega), ki.sub i hi⟩, fun H15 s15 => ?_⟩
          walk_at "lw"
          exact ⟨c14, s2, kk, kp, _, _, _, _, _, _, rfl, S14.frame (I := fun _ => False) (Stp.same s15) (by decide), W14.same s15, gd.frame (I := fun _ => False) (Stp.same s15) id, K14.frame (I := fun _ => False) (Stp.same s15) id id, j, ki⟩
      · rintro σ H10 ⟨c10, s', kk, kp, v5, v6, v7, v8, v9, v10, rfl, S10, W10, gd, K10, j, ki⟩
        walk_at "lw"
        exact k _
end
end Lw

namespace Lw
open PySem L2
open PyProof.Rows (envOfC)
theorem all_mk {l : PySem.W.OpenLaw} {w : World} {K : PySem.W.Frag} {h : Heap} {mg : Str → Option Value} {fa C_Claims C_Collector C_Store C_Uploads C_Registry C_Refused C_Malformed a_KINDS a_BELOW a_CLAIMED f_Claims___init__ f_Claims_begin f_Claims_is_open f_Claims_pin f_Claims_end f_Claims_numbers f_Claims_pinned f_Collector___init__ f_Collector_stop f_Collector_shade f_Collector_step f_Collector_mark_one f_Collector_sweep_one f_Store___init__ f_Store_keep f_Store_blob f_Store_remove_blob f_Store_addresses f_Store_below f_Store_is_whole f_Store_closure f_Uploads___init__ f_Uploads_begin f_Uploads_add_part f_Uploads_finish f_Uploads_forget f_Registry___init__ f_Registry_answer f_Registry_answer_plain f_Registry_kept f_Registry_answer_has f_Registry_answer_part f_Registry_answer_finish f_Registry_answer_put f_Registry_answer_name f_Registry_answer_get f_Registry_drop_name f_Registry_lapse f_Registry_fall f_Registry_roots f_Registry_collect f_Malformed___init__ f_address_of f_is_address f_image_text f_bundle_text f_lines_of f_read_image f_is_platform f_read_bundle f_references f__law_state f__law_take f__law_text f__law_goods f__law_clash f__law_goods_clash f__law_upload f__law_request f__law_below f__law_whole f__law_sound f_law : Addr} {od_Claims___init__ an_Claims___init__ : Option Addr} {sl_Claims___init__ : Array (Option Value)} {oc_Claims___init__ kV_Claims___init__ dc_Claims___init__ pm_Claims___init__ cd_Claims___init__ ct_Claims___init__ : Value} {od_Claims_begin an_Claims_begin : Option Addr} {sl_Claims_begin : Array (Option Value)} {oc_Claims_begin kV_Claims_begin dc_Claims_begin pm_Claims_begin cd_Claims_begin ct_Claims_begin : Value} {od_Claims_is_open an_Claims_is_open : Option Addr} {sl_Claims_is_open : Array (Option Value)} {oc_Claims_is_open kV_Claims_is_open dc_Claims_is_open pm_Claims_is_open cd_Claims_is_open ct_Claims_is_open : Value} {od_Claims_pin an_Claims_pin : Option Addr} {sl_Claims_pin : Array (Option Value)} {oc_Claims_pin kV_Claims_pin dc_Claims_pin pm_Claims_pin cd_Claims_pin ct_Claims_pin : Value} {od_Claims_end an_Claims_end : Option Addr} {sl_Claims_end : Array (Option Value)} {oc_Claims_end kV_Claims_end dc_Claims_end pm_Claims_end cd_Claims_end ct_Claims_end : Value} {od_Claims_numbers an_Claims_numbers : Option Addr} {sl_Claims_numbers : Array (Option Value)} {oc_Claims_numbers kV_Claims_numbers dc_Claims_numbers pm_Claims_numbers cd_Claims_numbers ct_Claims_numbers : Value} {od_Claims_pinned an_Claims_pinned : Option Addr} {sl_Claims_pinned : Array (Option Value)} {oc_Claims_pinned kV_Claims_pinned dc_Claims_pinned pm_Claims_pinned cd_Claims_pinned ct_Claims_pinned : Value} {od_Collector___init__ an_Collector___init__ : Option Addr} {sl_Collector___init__ : Array (Option Value)} {oc_Collector___init__ kV_Collector___init__ dc_Collector___init__ pm_Collector___init__ cd_Collector___init__ ct_Collector___init__ : Value} {od_Collector_stop an_Collector_stop : Option Addr} {sl_Collector_stop : Array (Option Value)} {oc_Collector_stop kV_Collector_stop dc_Collector_stop pm_Collector_stop cd_Collector_stop ct_Collector_stop : Value} {od_Collector_shade an_Collector_shade : Option Addr} {sl_Collector_shade : Array (Option Value)} {oc_Collector_shade kV_Collector_shade dc_Collector_shade pm_Collector_shade cd_Collector_shade ct_Collector_shade : Value} {od_Collector_step an_Collector_step : Option Addr} {sl_Collector_step : Array (Option Value)} {oc_Collector_step kV_Collector_step dc_Collector_step pm_Collector_step cd_Collector_step ct_Collector_step : Value} {od_Collector_mark_one an_Collector_mark_one : Option Addr} {sl_Collector_mark_one : Array (Option Value)} {oc_Collector_mark_one kV_Collector_mark_one dc_Collector_mark_one pm_Collector_mark_one cd_Collector_mark_one ct_Collector_mark_one : Value} {od_Collector_sweep_one an_Collector_sweep_one : Option Addr} {sl_Collector_sweep_one : Array (Option Value)} {oc_Collector_sweep_one kV_Collector_sweep_one dc_Collector_sweep_one pm_Collector_sweep_one cd_Collector_sweep_one ct_Collector_sweep_one : Value} {od_Store___init__ an_Store___init__ : Option Addr} {sl_Store___init__ : Array (Option Value)} {oc_Store___init__ kV_Store___init__ dc_Store___init__ pm_Store___init__ cd_Store___init__ ct_Store___init__ : Value} {od_Store_keep an_Store_keep : Option Addr} {sl_Store_keep : Array (Option Value)} {oc_Store_keep kV_Store_keep dc_Store_keep pm_Store_keep cd_Store_keep ct_Store_keep : Value} {od_Store_blob an_Store_blob : Option Addr} {sl_Store_blob : Array (Option Value)} {oc_Store_blob kV_Store_blob dc_Store_blob pm_Store_blob cd_Store_blob ct_Store_blob : Value} {od_Store_remove_blob an_Store_remove_blob : Option Addr} {sl_Store_remove_blob : Array (Option Value)} {oc_Store_remove_blob kV_Store_remove_blob dc_Store_remove_blob pm_Store_remove_blob cd_Store_remove_blob ct_Store_remove_blob : Value} {od_Store_addresses an_Store_addresses : Option Addr} {sl_Store_addresses : Array (Option Value)} {oc_Store_addresses kV_Store_addresses dc_Store_addresses pm_Store_addresses cd_Store_addresses ct_Store_addresses : Value} {od_Store_below an_Store_below : Option Addr} {sl_Store_below : Array (Option Value)} {oc_Store_below kV_Store_below dc_Store_below pm_Store_below cd_Store_below ct_Store_below : Value} {od_Store_is_whole an_Store_is_whole : Option Addr} {sl_Store_is_whole : Array (Option Value)} {oc_Store_is_whole kV_Store_is_whole dc_Store_is_whole pm_Store_is_whole cd_Store_is_whole ct_Store_is_whole : Value} {od_Store_closure an_Store_closure : Option Addr} {sl_Store_closure : Array (Option Value)} {oc_Store_closure kV_Store_closure dc_Store_closure pm_Store_closure cd_Store_closure ct_Store_closure : Value} {od_Uploads___init__ an_Uploads___init__ : Option Addr} {sl_Uploads___init__ : Array (Option Value)} {oc_Uploads___init__ kV_Uploads___init__ dc_Uploads___init__ pm_Uploads___init__ cd_Uploads___init__ ct_Uploads___init__ : Value} {od_Uploads_begin an_Uploads_begin : Option Addr} {sl_Uploads_begin : Array (Option Value)} {oc_Uploads_begin kV_Uploads_begin dc_Uploads_begin pm_Uploads_begin cd_Uploads_begin ct_Uploads_begin : Value} {od_Uploads_add_part an_Uploads_add_part : Option Addr} {sl_Uploads_add_part : Array (Option Value)} {oc_Uploads_add_part kV_Uploads_add_part dc_Uploads_add_part pm_Uploads_add_part cd_Uploads_add_part ct_Uploads_add_part : Value} {od_Uploads_finish an_Uploads_finish : Option Addr} {sl_Uploads_finish : Array (Option Value)} {oc_Uploads_finish kV_Uploads_finish dc_Uploads_finish pm_Uploads_finish cd_Uploads_finish ct_Uploads_finish : Value} {od_Uploads_forget an_Uploads_forget : Option Addr} {sl_Uploads_forget : Array (Option Value)} {oc_Uploads_forget kV_Uploads_forget dc_Uploads_forget pm_Uploads_forget cd_Uploads_forget ct_Uploads_forget : Value} {od_Registry___init__ an_Registry___init__ : Option Addr} {sl_Registry___init__ : Array (Option Value)} {oc_Registry___init__ kV_Registry___init__ dc_Registry___init__ pm_Registry___init__ cd_Registry___init__ ct_Registry___init__ : Value} {od_Registry_answer an_Registry_answer : Option Addr} {sl_Registry_answer : Array (Option Value)} {oc_Registry_answer kV_Registry_answer dc_Registry_answer pm_Registry_answer cd_Registry_answer ct_Registry_answer : Value} {od_Registry_answer_plain an_Registry_answer_plain : Option Addr} {sl_Registry_answer_plain : Array (Option Value)} {oc_Registry_answer_plain kV_Registry_answer_plain dc_Registry_answer_plain pm_Registry_answer_plain cd_Registry_answer_plain ct_Registry_answer_plain : Value} {od_Registry_kept an_Registry_kept : Option Addr} {sl_Registry_kept : Array (Option Value)} {oc_Registry_kept kV_Registry_kept dc_Registry_kept pm_Registry_kept cd_Registry_kept ct_Registry_kept : Value} {od_Registry_answer_has an_Registry_answer_has : Option Addr} {sl_Registry_answer_has : Array (Option Value)} {oc_Registry_answer_has kV_Registry_answer_has dc_Registry_answer_has pm_Registry_answer_has cd_Registry_answer_has ct_Registry_answer_has : Value} {od_Registry_answer_part an_Registry_answer_part : Option Addr} {sl_Registry_answer_part : Array (Option Value)} {oc_Registry_answer_part kV_Registry_answer_part dc_Registry_answer_part pm_Registry_answer_part cd_Registry_answer_part ct_Registry_answer_part : Value} {od_Registry_answer_finish an_Registry_answer_finish : Option Addr} {sl_Registry_answer_finish : Array (Option Value)} {oc_Registry_answer_finish kV_Registry_answer_finish dc_Registry_answer_finish pm_Registry_answer_finish cd_Registry_answer_finish ct_Registry_answer_finish : Value} {od_Registry_answer_put an_Registry_answer_put : Option Addr} {sl_Registry_answer_put : Array (Option Value)} {oc_Registry_answer_put kV_Registry_answer_put dc_Registry_answer_put pm_Registry_answer_put cd_Registry_answer_put ct_Registry_answer_put : Value} {od_Registry_answer_name an_Registry_answer_name : Option Addr} {sl_Registry_answer_name : Array (Option Value)} {oc_Registry_answer_name kV_Registry_answer_name dc_Registry_answer_name pm_Registry_answer_name cd_Registry_answer_name ct_Registry_answer_name : Value} {od_Registry_answer_get an_Registry_answer_get : Option Addr} {sl_Registry_answer_get : Array (Option Value)} {oc_Registry_answer_get kV_Registry_answer_get dc_Registry_answer_get pm_Registry_answer_get cd_Registry_answer_get ct_Registry_answer_get : Value} {od_Registry_drop_name an_Registry_drop_name : Option Addr} {sl_Registry_drop_name : Array (Option Value)} {oc_Registry_drop_name kV_Registry_drop_name dc_Registry_drop_name pm_Registry_drop_name cd_Registry_drop_name ct_Registry_drop_name : Value} {od_Registry_lapse an_Registry_lapse : Option Addr} {sl_Registry_lapse : Array (Option Value)} {oc_Registry_lapse kV_Registry_lapse dc_Registry_lapse pm_Registry_lapse cd_Registry_lapse ct_Registry_lapse : Value} {od_Registry_fall an_Registry_fall : Option Addr} {sl_Registry_fall : Array (Option Value)} {oc_Registry_fall kV_Registry_fall dc_Registry_fall pm_Registry_fall cd_Registry_fall ct_Registry_fall : Value} {od_Registry_roots an_Registry_roots : Option Addr} {sl_Registry_roots : Array (Option Value)} {oc_Registry_roots kV_Registry_roots dc_Registry_roots pm_Registry_roots cd_Registry_roots ct_Registry_roots : Value} {od_Registry_collect an_Registry_collect : Option Addr} {sl_Registry_collect : Array (Option Value)} {oc_Registry_collect kV_Registry_collect dc_Registry_collect pm_Registry_collect cd_Registry_collect ct_Registry_collect : Value} {od_Malformed___init__ an_Malformed___init__ : Option Addr} {sl_Malformed___init__ : Array (Option Value)} {oc_Malformed___init__ kV_Malformed___init__ dc_Malformed___init__ pm_Malformed___init__ cd_Malformed___init__ ct_Malformed___init__ : Value} {od_address_of an_address_of : Option Addr} {sl_address_of : Array (Option Value)} {oc_address_of kV_address_of dc_address_of pm_address_of cd_address_of ct_address_of : Value} {od_is_address an_is_address : Option Addr} {sl_is_address : Array (Option Value)} {oc_is_address kV_is_address dc_is_address pm_is_address cd_is_address ct_is_address : Value} {od_image_text an_image_text : Option Addr} {sl_image_text : Array (Option Value)} {oc_image_text kV_image_text dc_image_text pm_image_text cd_image_text ct_image_text : Value} {od_bundle_text an_bundle_text : Option Addr} {sl_bundle_text : Array (Option Value)} {oc_bundle_text kV_bundle_text dc_bundle_text pm_bundle_text cd_bundle_text ct_bundle_text : Value} {od_lines_of an_lines_of : Option Addr} {sl_lines_of : Array (Option Value)} {oc_lines_of kV_lines_of dc_lines_of pm_lines_of cd_lines_of ct_lines_of : Value} {od_read_image an_read_image : Option Addr} {sl_read_image : Array (Option Value)} {oc_read_image kV_read_image dc_read_image pm_read_image cd_read_image ct_read_image : Value} {od_is_platform an_is_platform : Option Addr} {sl_is_platform : Array (Option Value)} {oc_is_platform kV_is_platform dc_is_platform pm_is_platform cd_is_platform ct_is_platform : Value} {od_read_bundle an_read_bundle : Option Addr} {sl_read_bundle : Array (Option Value)} {oc_read_bundle kV_read_bundle dc_read_bundle pm_read_bundle cd_read_bundle ct_read_bundle : Value} {od_references an_references : Option Addr} {sl_references : Array (Option Value)} {oc_references kV_references dc_references pm_references cd_references ct_references : Value} {od__law_state an__law_state : Option Addr} {sl__law_state : Array (Option Value)} {oc__law_state kV__law_state dc__law_state pm__law_state cd__law_state ct__law_state : Value} {od__law_take an__law_take : Option Addr} {sl__law_take : Array (Option Value)} {oc__law_take kV__law_take dc__law_take pm__law_take cd__law_take ct__law_take : Value} {od__law_text an__law_text : Option Addr} {sl__law_text : Array (Option Value)} {oc__law_text kV__law_text dc__law_text pm__law_text cd__law_text ct__law_text : Value} {od__law_goods an__law_goods : Option Addr} {sl__law_goods : Array (Option Value)} {oc__law_goods kV__law_goods dc__law_goods pm__law_goods cd__law_goods ct__law_goods : Value} {od__law_clash an__law_clash : Option Addr} {sl__law_clash : Array (Option Value)} {oc__law_clash kV__law_clash dc__law_clash pm__law_clash cd__law_clash ct__law_clash : Value} {od__law_goods_clash an__law_goods_clash : Option Addr} {sl__law_goods_clash : Array (Option Value)} {oc__law_goods_clash kV__law_goods_clash dc__law_goods_clash pm__law_goods_clash cd__law_goods_clash ct__law_goods_clash : Value} {od__law_upload an__law_upload : Option Addr} {sl__law_upload : Array (Option Value)} {oc__law_upload kV__law_upload dc__law_upload pm__law_upload cd__law_upload ct__law_upload : Value} {od__law_request an__law_request : Option Addr} {sl__law_request : Array (Option Value)} {oc__law_request kV__law_request dc__law_request pm__law_request cd__law_request ct__law_request : Value} {od__law_below an__law_below : Option Addr} {sl__law_below : Array (Option Value)} {oc__law_below kV__law_below dc__law_below pm__law_below cd__law_below ct__law_below : Value} {od__law_whole an__law_whole : Option Addr} {sl__law_whole : Array (Option Value)} {oc__law_whole kV__law_whole dc__law_whole pm__law_whole cd__law_whole ct__law_whole : Value} {od__law_sound an__law_sound : Option Addr} {sl__law_sound : Array (Option Value)} {oc__law_sound kV__law_sound dc__law_sound pm__law_sound cd__law_sound ct__law_sound : Value} {od_law an_law : Option Addr} {sl_law : Array (Option Value)} {oc_law kV_law dc_law pm_law cd_law ct_law : Value} {nm_Malformed q_Malformed : Str} {N_Malformed : Addr} {bs_Malformed sb_Malformed : List Value} {sn_Malformed : List Str} {ab_Malformed : Bool} {col_Malformed : Option Bool} {dd_Malformed : Option Addr} {m0_Malformed m1_Malformed m2_Malformed m3_Malformed m5_Malformed : Option Value} {t_DIGITS t_LETTERS t_MAX_LINES t_PRIME : Tok} {its_KINDS : Array Value} {n_KINDS : Nat} {sl_KINDS : Array (Option Value)} {es_BELOW : Array DictEntry} {n_BELOW : Nat} {t_below1 t_below2 : Tok} {its_CLAIMED : Array Value} {n_CLAIMED : Nat} {sl_CLAIMED : Array (Option Value)} (X : K.In h) (G : h.Ns mainGlobals mg) (hfa : mg "law" = some (.ref fa))
    (a_Claims : PySem.W.nsIn K mainGlobals "Claims" = some (some (.ref C_Claims)))
    (pg_Claims : PySem.W.plainGet K C_Claims Str.empty = true)
    (hd_Claims : PySem.W.hasDictIn K C_Claims = true)
    (po_Claims : PySem.W.plainOver K C_Claims = true)
    (sa_Claims : PySem.W.findIn K (.ref C_Claims) "__setattr__" = some (some (.builtin "object.__setattr__")))
    (mk_Claims : PySem.W.makesIn K C_Claims = true)
    (kc_Claims : PySem.W.keepIn K (.ref C_Claims) = true)
    (na_Claims_last : PySem.W.findIn K (.ref C_Claims) "last" = some none)
    (na_Claims_pins : PySem.W.findIn K (.ref C_Claims) "pins" = some none)
    (a_Claims___init__ : PySem.W.findIn K (.ref C_Claims) "__init__" = some (some (.ref f_Claims___init__)))
    (i_Claims___init__ : PySem.W.isFn K (.ref f_Claims___init__) = true)
    (l_Claims___init__ : K.lookup f_Claims___init__ = some ⟨oc_Claims___init__, od_Claims___init__, .func (PySem.W.fnOf "__init__" "Claims.__init__" (defArgs s_Claims___init__) (defBody s_Claims___init__) (defScope s_Claims___init__) .none kV_Claims___init__ dc_Claims___init__ pm_Claims___init__ an_Claims___init__ cd_Claims___init__ ct_Claims___init__), sl_Claims___init__⟩)
    (c_Claims___init__ : PySem.W.codeIn K cd_Claims___init__ "Claims.__init__" = true)
    (k_Claims___init__ : PySem.W.keepIn K (.ref f_Claims___init__) = true)
    (a_Claims_begin : PySem.W.findIn K (.ref C_Claims) "begin" = some (some (.ref f_Claims_begin)))
    (i_Claims_begin : PySem.W.isFn K (.ref f_Claims_begin) = true)
    (l_Claims_begin : K.lookup f_Claims_begin = some ⟨oc_Claims_begin, od_Claims_begin, .func (PySem.W.fnOf "begin" "Claims.begin" (defArgs s_Claims_begin) (defBody s_Claims_begin) (defScope s_Claims_begin) .none kV_Claims_begin dc_Claims_begin pm_Claims_begin an_Claims_begin cd_Claims_begin ct_Claims_begin), sl_Claims_begin⟩)
    (c_Claims_begin : PySem.W.codeIn K cd_Claims_begin "Claims.begin" = true)
    (k_Claims_begin : PySem.W.keepIn K (.ref f_Claims_begin) = true)
    (a_Claims_is_open : PySem.W.findIn K (.ref C_Claims) "is_open" = some (some (.ref f_Claims_is_open)))
    (i_Claims_is_open : PySem.W.isFn K (.ref f_Claims_is_open) = true)
    (l_Claims_is_open : K.lookup f_Claims_is_open = some ⟨oc_Claims_is_open, od_Claims_is_open, .func (PySem.W.fnOf "is_open" "Claims.is_open" (defArgs s_Claims_is_open) (defBody s_Claims_is_open) (defScope s_Claims_is_open) .none kV_Claims_is_open dc_Claims_is_open pm_Claims_is_open an_Claims_is_open cd_Claims_is_open ct_Claims_is_open), sl_Claims_is_open⟩)
    (c_Claims_is_open : PySem.W.codeIn K cd_Claims_is_open "Claims.is_open" = true)
    (k_Claims_is_open : PySem.W.keepIn K (.ref f_Claims_is_open) = true)
    (a_Claims_pin : PySem.W.findIn K (.ref C_Claims) "pin" = some (some (.ref f_Claims_pin)))
    (i_Claims_pin : PySem.W.isFn K (.ref f_Claims_pin) = true)
    (l_Claims_pin : K.lookup f_Claims_pin = some ⟨oc_Claims_pin, od_Claims_pin, .func (PySem.W.fnOf "pin" "Claims.pin" (defArgs s_Claims_pin) (defBody s_Claims_pin) (defScope s_Claims_pin) .none kV_Claims_pin dc_Claims_pin pm_Claims_pin an_Claims_pin cd_Claims_pin ct_Claims_pin), sl_Claims_pin⟩)
    (c_Claims_pin : PySem.W.codeIn K cd_Claims_pin "Claims.pin" = true)
    (k_Claims_pin : PySem.W.keepIn K (.ref f_Claims_pin) = true)
    (a_Claims_end : PySem.W.findIn K (.ref C_Claims) "end" = some (some (.ref f_Claims_end)))
    (i_Claims_end : PySem.W.isFn K (.ref f_Claims_end) = true)
    (l_Claims_end : K.lookup f_Claims_end = some ⟨oc_Claims_end, od_Claims_end, .func (PySem.W.fnOf "end" "Claims.end" (defArgs s_Claims_end) (defBody s_Claims_end) (defScope s_Claims_end) .none kV_Claims_end dc_Claims_end pm_Claims_end an_Claims_end cd_Claims_end ct_Claims_end), sl_Claims_end⟩)
    (c_Claims_end : PySem.W.codeIn K cd_Claims_end "Claims.end" = true)
    (k_Claims_end : PySem.W.keepIn K (.ref f_Claims_end) = true)
    (a_Claims_numbers : PySem.W.findIn K (.ref C_Claims) "numbers" = some (some (.ref f_Claims_numbers)))
    (i_Claims_numbers : PySem.W.isFn K (.ref f_Claims_numbers) = true)
    (l_Claims_numbers : K.lookup f_Claims_numbers = some ⟨oc_Claims_numbers, od_Claims_numbers, .func (PySem.W.fnOf "numbers" "Claims.numbers" (defArgs s_Claims_numbers) (defBody s_Claims_numbers) (defScope s_Claims_numbers) .none kV_Claims_numbers dc_Claims_numbers pm_Claims_numbers an_Claims_numbers cd_Claims_numbers ct_Claims_numbers), sl_Claims_numbers⟩)
    (c_Claims_numbers : PySem.W.codeIn K cd_Claims_numbers "Claims.numbers" = true)
    (k_Claims_numbers : PySem.W.keepIn K (.ref f_Claims_numbers) = true)
    (a_Claims_pinned : PySem.W.findIn K (.ref C_Claims) "pinned" = some (some (.ref f_Claims_pinned)))
    (i_Claims_pinned : PySem.W.isFn K (.ref f_Claims_pinned) = true)
    (l_Claims_pinned : K.lookup f_Claims_pinned = some ⟨oc_Claims_pinned, od_Claims_pinned, .func (PySem.W.fnOf "pinned" "Claims.pinned" (defArgs s_Claims_pinned) (defBody s_Claims_pinned) (defScope s_Claims_pinned) .none kV_Claims_pinned dc_Claims_pinned pm_Claims_pinned an_Claims_pinned cd_Claims_pinned ct_Claims_pinned), sl_Claims_pinned⟩)
    (c_Claims_pinned : PySem.W.codeIn K cd_Claims_pinned "Claims.pinned" = true)
    (k_Claims_pinned : PySem.W.keepIn K (.ref f_Claims_pinned) = true)
    (a_Collector : PySem.W.nsIn K mainGlobals "Collector" = some (some (.ref C_Collector)))
    (pg_Collector : PySem.W.plainGet K C_Collector Str.empty = true)
    (hd_Collector : PySem.W.hasDictIn K C_Collector = true)
    (po_Collector : PySem.W.plainOver K C_Collector = true)
    (sa_Collector : PySem.W.findIn K (.ref C_Collector) "__setattr__" = some (some (.builtin "object.__setattr__")))
    (mk_Collector : PySem.W.makesIn K C_Collector = true)
    (kc_Collector : PySem.W.keepIn K (.ref C_Collector) = true)
    (na_Collector_store : PySem.W.findIn K (.ref C_Collector) "store" = some none)
    (na_Collector_phase : PySem.W.findIn K (.ref C_Collector) "phase" = some none)
    (na_Collector_marked : PySem.W.findIn K (.ref C_Collector) "marked" = some none)
    (na_Collector_todo : PySem.W.findIn K (.ref C_Collector) "todo" = some none)
    (na_Collector_doomed : PySem.W.findIn K (.ref C_Collector) "doomed" = some none)
    (a_Collector___init__ : PySem.W.findIn K (.ref C_Collector) "__init__" = some (some (.ref f_Collector___init__)))
    (i_Collector___init__ : PySem.W.isFn K (.ref f_Collector___init__) = true)
    (l_Collector___init__ : K.lookup f_Collector___init__ = some ⟨oc_Collector___init__, od_Collector___init__, .func (PySem.W.fnOf "__init__" "Collector.__init__" (defArgs s_Collector___init__) (defBody s_Collector___init__) (defScope s_Collector___init__) .none kV_Collector___init__ dc_Collector___init__ pm_Collector___init__ an_Collector___init__ cd_Collector___init__ ct_Collector___init__), sl_Collector___init__⟩)
    (c_Collector___init__ : PySem.W.codeIn K cd_Collector___init__ "Collector.__init__" = true)
    (k_Collector___init__ : PySem.W.keepIn K (.ref f_Collector___init__) = true)
    (a_Collector_stop : PySem.W.findIn K (.ref C_Collector) "stop" = some (some (.ref f_Collector_stop)))
    (i_Collector_stop : PySem.W.isFn K (.ref f_Collector_stop) = true)
    (l_Collector_stop : K.lookup f_Collector_stop = some ⟨oc_Collector_stop, od_Collector_stop, .func (PySem.W.fnOf "stop" "Collector.stop" (defArgs s_Collector_stop) (defBody s_Collector_stop) (defScope s_Collector_stop) .none kV_Collector_stop dc_Collector_stop pm_Collector_stop an_Collector_stop cd_Collector_stop ct_Collector_stop), sl_Collector_stop⟩)
    (c_Collector_stop : PySem.W.codeIn K cd_Collector_stop "Collector.stop" = true)
    (k_Collector_stop : PySem.W.keepIn K (.ref f_Collector_stop) = true)
    (a_Collector_shade : PySem.W.findIn K (.ref C_Collector) "shade" = some (some (.ref f_Collector_shade)))
    (i_Collector_shade : PySem.W.isFn K (.ref f_Collector_shade) = true)
    (l_Collector_shade : K.lookup f_Collector_shade = some ⟨oc_Collector_shade, od_Collector_shade, .func (PySem.W.fnOf "shade" "Collector.shade" (defArgs s_Collector_shade) (defBody s_Collector_shade) (defScope s_Collector_shade) .none kV_Collector_shade dc_Collector_shade pm_Collector_shade an_Collector_shade cd_Collector_shade ct_Collector_shade), sl_Collector_shade⟩)
    (c_Collector_shade : PySem.W.codeIn K cd_Collector_shade "Collector.shade" = true)
    (k_Collector_shade : PySem.W.keepIn K (.ref f_Collector_shade) = true)
    (a_Collector_step : PySem.W.findIn K (.ref C_Collector) "step" = some (some (.ref f_Collector_step)))
    (i_Collector_step : PySem.W.isFn K (.ref f_Collector_step) = true)
    (l_Collector_step : K.lookup f_Collector_step = some ⟨oc_Collector_step, od_Collector_step, .func (PySem.W.fnOf "step" "Collector.step" (defArgs s_Collector_step) (defBody s_Collector_step) (defScope s_Collector_step) .none kV_Collector_step dc_Collector_step pm_Collector_step an_Collector_step cd_Collector_step ct_Collector_step), sl_Collector_step⟩)
    (c_Collector_step : PySem.W.codeIn K cd_Collector_step "Collector.step" = true)
    (k_Collector_step : PySem.W.keepIn K (.ref f_Collector_step) = true)
    (a_Collector_mark_one : PySem.W.findIn K (.ref C_Collector) "mark_one" = some (some (.ref f_Collector_mark_one)))
    (i_Collector_mark_one : PySem.W.isFn K (.ref f_Collector_mark_one) = true)
    (l_Collector_mark_one : K.lookup f_Collector_mark_one = some ⟨oc_Collector_mark_one, od_Collector_mark_one, .func (PySem.W.fnOf "mark_one" "Collector.mark_one" (defArgs s_Collector_mark_one) (defBody s_Collector_mark_one) (defScope s_Collector_mark_one) .none kV_Collector_mark_one dc_Collector_mark_one pm_Collector_mark_one an_Collector_mark_one cd_Collector_mark_one ct_Collector_mark_one), sl_Collector_mark_one⟩)
    (c_Collector_mark_one : PySem.W.codeIn K cd_Collector_mark_one "Collector.mark_one" = true)
    (k_Collector_mark_one : PySem.W.keepIn K (.ref f_Collector_mark_one) = true)
    (a_Collector_sweep_one : PySem.W.findIn K (.ref C_Collector) "sweep_one" = some (some (.ref f_Collector_sweep_one)))
    (i_Collector_sweep_one : PySem.W.isFn K (.ref f_Collector_sweep_one) = true)
    (l_Collector_sweep_one : K.lookup f_Collector_sweep_one = some ⟨oc_Collector_sweep_one, od_Collector_sweep_one, .func (PySem.W.fnOf "sweep_one" "Collector.sweep_one" (defArgs s_Collector_sweep_one) (defBody s_Collector_sweep_one) (defScope s_Collector_sweep_one) .none kV_Collector_sweep_one dc_Collector_sweep_one pm_Collector_sweep_one an_Collector_sweep_one cd_Collector_sweep_one ct_Collector_sweep_one), sl_Collector_sweep_one⟩)
    (c_Collector_sweep_one : PySem.W.codeIn K cd_Collector_sweep_one "Collector.sweep_one" = true)
    (k_Collector_sweep_one : PySem.W.keepIn K (.ref f_Collector_sweep_one) = true)
    (a_Store : PySem.W.nsIn K mainGlobals "Store" = some (some (.ref C_Store)))
    (pg_Store : PySem.W.plainGet K C_Store Str.empty = true)
    (hd_Store : PySem.W.hasDictIn K C_Store = true)
    (po_Store : PySem.W.plainOver K C_Store = true)
    (sa_Store : PySem.W.findIn K (.ref C_Store) "__setattr__" = some (some (.builtin "object.__setattr__")))
    (mk_Store : PySem.W.makesIn K C_Store = true)
    (kc_Store : PySem.W.keepIn K (.ref C_Store) = true)
    (na_Store_blobs : PySem.W.findIn K (.ref C_Store) "blobs" = some none)
    (a_Store___init__ : PySem.W.findIn K (.ref C_Store) "__init__" = some (some (.ref f_Store___init__)))
    (i_Store___init__ : PySem.W.isFn K (.ref f_Store___init__) = true)
    (l_Store___init__ : K.lookup f_Store___init__ = some ⟨oc_Store___init__, od_Store___init__, .func (PySem.W.fnOf "__init__" "Store.__init__" (defArgs s_Store___init__) (defBody s_Store___init__) (defScope s_Store___init__) .none kV_Store___init__ dc_Store___init__ pm_Store___init__ an_Store___init__ cd_Store___init__ ct_Store___init__), sl_Store___init__⟩)
    (c_Store___init__ : PySem.W.codeIn K cd_Store___init__ "Store.__init__" = true)
    (k_Store___init__ : PySem.W.keepIn K (.ref f_Store___init__) = true)
    (a_Store_keep : PySem.W.findIn K (.ref C_Store) "keep" = some (some (.ref f_Store_keep)))
    (i_Store_keep : PySem.W.isFn K (.ref f_Store_keep) = true)
    (l_Store_keep : K.lookup f_Store_keep = some ⟨oc_Store_keep, od_Store_keep, .func (PySem.W.fnOf "keep" "Store.keep" (defArgs s_Store_keep) (defBody s_Store_keep) (defScope s_Store_keep) .none kV_Store_keep dc_Store_keep pm_Store_keep an_Store_keep cd_Store_keep ct_Store_keep), sl_Store_keep⟩)
    (c_Store_keep : PySem.W.codeIn K cd_Store_keep "Store.keep" = true)
    (k_Store_keep : PySem.W.keepIn K (.ref f_Store_keep) = true)
    (a_Store_blob : PySem.W.findIn K (.ref C_Store) "blob" = some (some (.ref f_Store_blob)))
    (i_Store_blob : PySem.W.isFn K (.ref f_Store_blob) = true)
    (l_Store_blob : K.lookup f_Store_blob = some ⟨oc_Store_blob, od_Store_blob, .func (PySem.W.fnOf "blob" "Store.blob" (defArgs s_Store_blob) (defBody s_Store_blob) (defScope s_Store_blob) .none kV_Store_blob dc_Store_blob pm_Store_blob an_Store_blob cd_Store_blob ct_Store_blob), sl_Store_blob⟩)
    (c_Store_blob : PySem.W.codeIn K cd_Store_blob "Store.blob" = true)
    (k_Store_blob : PySem.W.keepIn K (.ref f_Store_blob) = true)
    (a_Store_remove_blob : PySem.W.findIn K (.ref C_Store) "remove_blob" = some (some (.ref f_Store_remove_blob)))
    (i_Store_remove_blob : PySem.W.isFn K (.ref f_Store_remove_blob) = true)
    (l_Store_remove_blob : K.lookup f_Store_remove_blob = some ⟨oc_Store_remove_blob, od_Store_remove_blob, .func (PySem.W.fnOf "remove_blob" "Store.remove_blob" (defArgs s_Store_remove_blob) (defBody s_Store_remove_blob) (defScope s_Store_remove_blob) .none kV_Store_remove_blob dc_Store_remove_blob pm_Store_remove_blob an_Store_remove_blob cd_Store_remove_blob ct_Store_remove_blob), sl_Store_remove_blob⟩)
    (c_Store_remove_blob : PySem.W.codeIn K cd_Store_remove_blob "Store.remove_blob" = true)
    (k_Store_remove_blob : PySem.W.keepIn K (.ref f_Store_remove_blob) = true)
    (a_Store_addresses : PySem.W.findIn K (.ref C_Store) "addresses" = some (some (.ref f_Store_addresses)))
    (i_Store_addresses : PySem.W.isFn K (.ref f_Store_addresses) = true)
    (l_Store_addresses : K.lookup f_Store_addresses = some ⟨oc_Store_addresses, od_Store_addresses, .func (PySem.W.fnOf "addresses" "Store.addresses" (defArgs s_Store_addresses) (defBody s_Store_addresses) (defScope s_Store_addresses) .none kV_Store_addresses dc_Store_addresses pm_Store_addresses an_Store_addresses cd_Store_addresses ct_Store_addresses), sl_Store_addresses⟩)
    (c_Store_addresses : PySem.W.codeIn K cd_Store_addresses "Store.addresses" = true)
    (k_Store_addresses : PySem.W.keepIn K (.ref f_Store_addresses) = true)
    (a_Store_below : PySem.W.findIn K (.ref C_Store) "below" = some (some (.ref f_Store_below)))
    (i_Store_below : PySem.W.isFn K (.ref f_Store_below) = true)
    (l_Store_below : K.lookup f_Store_below = some ⟨oc_Store_below, od_Store_below, .func (PySem.W.fnOf "below" "Store.below" (defArgs s_Store_below) (defBody s_Store_below) (defScope s_Store_below) .none kV_Store_below dc_Store_below pm_Store_below an_Store_below cd_Store_below ct_Store_below), sl_Store_below⟩)
    (c_Store_below : PySem.W.codeIn K cd_Store_below "Store.below" = true)
    (k_Store_below : PySem.W.keepIn K (.ref f_Store_below) = true)
    (a_Store_is_whole : PySem.W.findIn K (.ref C_Store) "is_whole" = some (some (.ref f_Store_is_whole)))
    (i_Store_is_whole : PySem.W.isFn K (.ref f_Store_is_whole) = true)
    (l_Store_is_whole : K.lookup f_Store_is_whole = some ⟨oc_Store_is_whole, od_Store_is_whole, .func (PySem.W.fnOf "is_whole" "Store.is_whole" (defArgs s_Store_is_whole) (defBody s_Store_is_whole) (defScope s_Store_is_whole) .none kV_Store_is_whole dc_Store_is_whole pm_Store_is_whole an_Store_is_whole cd_Store_is_whole ct_Store_is_whole), sl_Store_is_whole⟩)
    (c_Store_is_whole : PySem.W.codeIn K cd_Store_is_whole "Store.is_whole" = true)
    (k_Store_is_whole : PySem.W.keepIn K (.ref f_Store_is_whole) = true)
    (a_Store_closure : PySem.W.findIn K (.ref C_Store) "closure" = some (some (.ref f_Store_closure)))
    (i_Store_closure : PySem.W.isFn K (.ref f_Store_closure) = true)
    (l_Store_closure : K.lookup f_Store_closure = some ⟨oc_Store_closure, od_Store_closure, .func (PySem.W.fnOf "closure" "Store.closure" (defArgs s_Store_closure) (defBody s_Store_closure) (defScope s_Store_closure) .none kV_Store_closure dc_Store_closure pm_Store_closure an_Store_closure cd_Store_closure ct_Store_closure), sl_Store_closure⟩)
    (c_Store_closure : PySem.W.codeIn K cd_Store_closure "Store.closure" = true)
    (k_Store_closure : PySem.W.keepIn K (.ref f_Store_closure) = true)
    (a_Uploads : PySem.W.nsIn K mainGlobals "Uploads" = some (some (.ref C_Uploads)))
    (pg_Uploads : PySem.W.plainGet K C_Uploads Str.empty = true)
    (hd_Uploads : PySem.W.hasDictIn K C_Uploads = true)
    (po_Uploads : PySem.W.plainOver K C_Uploads = true)
    (sa_Uploads : PySem.W.findIn K (.ref C_Uploads) "__setattr__" = some (some (.builtin "object.__setattr__")))
    (mk_Uploads : PySem.W.makesIn K C_Uploads = true)
    (kc_Uploads : PySem.W.keepIn K (.ref C_Uploads) = true)
    (na_Uploads_last : PySem.W.findIn K (.ref C_Uploads) "last" = some none)
    (na_Uploads_texts : PySem.W.findIn K (.ref C_Uploads) "texts" = some none)
    (a_Uploads___init__ : PySem.W.findIn K (.ref C_Uploads) "__init__" = some (some (.ref f_Uploads___init__)))
    (i_Uploads___init__ : PySem.W.isFn K (.ref f_Uploads___init__) = true)
    (l_Uploads___init__ : K.lookup f_Uploads___init__ = some ⟨oc_Uploads___init__, od_Uploads___init__, .func (PySem.W.fnOf "__init__" "Uploads.__init__" (defArgs s_Uploads___init__) (defBody s_Uploads___init__) (defScope s_Uploads___init__) .none kV_Uploads___init__ dc_Uploads___init__ pm_Uploads___init__ an_Uploads___init__ cd_Uploads___init__ ct_Uploads___init__), sl_Uploads___init__⟩)
    (c_Uploads___init__ : PySem.W.codeIn K cd_Uploads___init__ "Uploads.__init__" = true)
    (k_Uploads___init__ : PySem.W.keepIn K (.ref f_Uploads___init__) = true)
    (a_Uploads_begin : PySem.W.findIn K (.ref C_Uploads) "begin" = some (some (.ref f_Uploads_begin)))
    (i_Uploads_begin : PySem.W.isFn K (.ref f_Uploads_begin) = true)
    (l_Uploads_begin : K.lookup f_Uploads_begin = some ⟨oc_Uploads_begin, od_Uploads_begin, .func (PySem.W.fnOf "begin" "Uploads.begin" (defArgs s_Uploads_begin) (defBody s_Uploads_begin) (defScope s_Uploads_begin) .none kV_Uploads_begin dc_Uploads_begin pm_Uploads_begin an_Uploads_begin cd_Uploads_begin ct_Uploads_begin), sl_Uploads_begin⟩)
    (c_Uploads_begin : PySem.W.codeIn K cd_Uploads_begin "Uploads.begin" = true)
    (k_Uploads_begin : PySem.W.keepIn K (.ref f_Uploads_begin) = true)
    (a_Uploads_add_part : PySem.W.findIn K (.ref C_Uploads) "add_part" = some (some (.ref f_Uploads_add_part)))
    (i_Uploads_add_part : PySem.W.isFn K (.ref f_Uploads_add_part) = true)
    (l_Uploads_add_part : K.lookup f_Uploads_add_part = some ⟨oc_Uploads_add_part, od_Uploads_add_part, .func (PySem.W.fnOf "add_part" "Uploads.add_part" (defArgs s_Uploads_add_part) (defBody s_Uploads_add_part) (defScope s_Uploads_add_part) .none kV_Uploads_add_part dc_Uploads_add_part pm_Uploads_add_part an_Uploads_add_part cd_Uploads_add_part ct_Uploads_add_part), sl_Uploads_add_part⟩)
    (c_Uploads_add_part : PySem.W.codeIn K cd_Uploads_add_part "Uploads.add_part" = true)
    (k_Uploads_add_part : PySem.W.keepIn K (.ref f_Uploads_add_part) = true)
    (a_Uploads_finish : PySem.W.findIn K (.ref C_Uploads) "finish" = some (some (.ref f_Uploads_finish)))
    (i_Uploads_finish : PySem.W.isFn K (.ref f_Uploads_finish) = true)
    (l_Uploads_finish : K.lookup f_Uploads_finish = some ⟨oc_Uploads_finish, od_Uploads_finish, .func (PySem.W.fnOf "finish" "Uploads.finish" (defArgs s_Uploads_finish) (defBody s_Uploads_finish) (defScope s_Uploads_finish) .none kV_Uploads_finish dc_Uploads_finish pm_Uploads_finish an_Uploads_finish cd_Uploads_finish ct_Uploads_finish), sl_Uploads_finish⟩)
    (c_Uploads_finish : PySem.W.codeIn K cd_Uploads_finish "Uploads.finish" = true)
    (k_Uploads_finish : PySem.W.keepIn K (.ref f_Uploads_finish) = true)
    (a_Uploads_forget : PySem.W.findIn K (.ref C_Uploads) "forget" = some (some (.ref f_Uploads_forget)))
    (i_Uploads_forget : PySem.W.isFn K (.ref f_Uploads_forget) = true)
    (l_Uploads_forget : K.lookup f_Uploads_forget = some ⟨oc_Uploads_forget, od_Uploads_forget, .func (PySem.W.fnOf "forget" "Uploads.forget" (defArgs s_Uploads_forget) (defBody s_Uploads_forget) (defScope s_Uploads_forget) .none kV_Uploads_forget dc_Uploads_forget pm_Uploads_forget an_Uploads_forget cd_Uploads_forget ct_Uploads_forget), sl_Uploads_forget⟩)
    (c_Uploads_forget : PySem.W.codeIn K cd_Uploads_forget "Uploads.forget" = true)
    (k_Uploads_forget : PySem.W.keepIn K (.ref f_Uploads_forget) = true)
    (a_Registry : PySem.W.nsIn K mainGlobals "Registry" = some (some (.ref C_Registry)))
    (pg_Registry : PySem.W.plainGet K C_Registry Str.empty = true)
    (hd_Registry : PySem.W.hasDictIn K C_Registry = true)
    (po_Registry : PySem.W.plainOver K C_Registry = true)
    (sa_Registry : PySem.W.findIn K (.ref C_Registry) "__setattr__" = some (some (.builtin "object.__setattr__")))
    (mk_Registry : PySem.W.makesIn K C_Registry = true)
    (kc_Registry : PySem.W.keepIn K (.ref C_Registry) = true)
    (na_Registry_store : PySem.W.findIn K (.ref C_Registry) "store" = some none)
    (na_Registry_names : PySem.W.findIn K (.ref C_Registry) "names" = some none)
    (na_Registry_claims : PySem.W.findIn K (.ref C_Registry) "claims" = some none)
    (na_Registry_uploads : PySem.W.findIn K (.ref C_Registry) "uploads" = some none)
    (na_Registry_collector : PySem.W.findIn K (.ref C_Registry) "collector" = some none)
    (a_Registry___init__ : PySem.W.findIn K (.ref C_Registry) "__init__" = some (some (.ref f_Registry___init__)))
    (i_Registry___init__ : PySem.W.isFn K (.ref f_Registry___init__) = true)
    (l_Registry___init__ : K.lookup f_Registry___init__ = some ⟨oc_Registry___init__, od_Registry___init__, .func (PySem.W.fnOf "__init__" "Registry.__init__" (defArgs s_Registry___init__) (defBody s_Registry___init__) (defScope s_Registry___init__) .none kV_Registry___init__ dc_Registry___init__ pm_Registry___init__ an_Registry___init__ cd_Registry___init__ ct_Registry___init__), sl_Registry___init__⟩)
    (c_Registry___init__ : PySem.W.codeIn K cd_Registry___init__ "Registry.__init__" = true)
    (k_Registry___init__ : PySem.W.keepIn K (.ref f_Registry___init__) = true)
    (a_Registry_answer : PySem.W.findIn K (.ref C_Registry) "answer" = some (some (.ref f_Registry_answer)))
    (i_Registry_answer : PySem.W.isFn K (.ref f_Registry_answer) = true)
    (l_Registry_answer : K.lookup f_Registry_answer = some ⟨oc_Registry_answer, od_Registry_answer, .func (PySem.W.fnOf "answer" "Registry.answer" (defArgs s_Registry_answer) (defBody s_Registry_answer) (defScope s_Registry_answer) .none kV_Registry_answer dc_Registry_answer pm_Registry_answer an_Registry_answer cd_Registry_answer ct_Registry_answer), sl_Registry_answer⟩)
    (c_Registry_answer : PySem.W.codeIn K cd_Registry_answer "Registry.answer" = true)
    (k_Registry_answer : PySem.W.keepIn K (.ref f_Registry_answer) = true)
    (a_Registry_answer_plain : PySem.W.findIn K (.ref C_Registry) "answer_plain" = some (some (.ref f_Registry_answer_plain)))
    (i_Registry_answer_plain : PySem.W.isFn K (.ref f_Registry_answer_plain) = true)
    (l_Registry_answer_plain : K.lookup f_Registry_answer_plain = some ⟨oc_Registry_answer_plain, od_Registry_answer_plain, .func (PySem.W.fnOf "answer_plain" "Registry.answer_plain" (defArgs s_Registry_answer_plain) (defBody s_Registry_answer_plain) (defScope s_Registry_answer_plain) .none kV_Registry_answer_plain dc_Registry_answer_plain pm_Registry_answer_plain an_Registry_answer_plain cd_Registry_answer_plain ct_Registry_answer_plain), sl_Registry_answer_plain⟩)
    (c_Registry_answer_plain : PySem.W.codeIn K cd_Registry_answer_plain "Registry.answer_plain" = true)
    (k_Registry_answer_plain : PySem.W.keepIn K (.ref f_Registry_answer_plain) = true)
    (a_Registry_kept : PySem.W.findIn K (.ref C_Registry) "kept" = some (some (.ref f_Registry_kept)))
    (i_Registry_kept : PySem.W.isFn K (.ref f_Registry_kept) = true)
    (l_Registry_kept : K.lookup f_Registry_kept = some ⟨oc_Registry_kept, od_Registry_kept, .func (PySem.W.fnOf "kept" "Registry.kept" (defArgs s_Registry_kept) (defBody s_Registry_kept) (defScope s_Registry_kept) .none kV_Registry_kept dc_Registry_kept pm_Registry_kept an_Registry_kept cd_Registry_kept ct_Registry_kept), sl_Registry_kept⟩)
    (c_Registry_kept : PySem.W.codeIn K cd_Registry_kept "Registry.kept" = true)
    (k_Registry_kept : PySem.W.keepIn K (.ref f_Registry_kept) = true)
    (a_Registry_answer_has : PySem.W.findIn K (.ref C_Registry) "answer_has" = some (some (.ref f_Registry_answer_has)))
    (i_Registry_answer_has : PySem.W.isFn K (.ref f_Registry_answer_has) = true)
    (l_Registry_answer_has : K.lookup f_Registry_answer_has = some ⟨oc_Registry_answer_has, od_Registry_answer_has, .func (PySem.W.fnOf "answer_has" "Registry.answer_has" (defArgs s_Registry_answer_has) (defBody s_Registry_answer_has) (defScope s_Registry_answer_has) .none kV_Registry_answer_has dc_Registry_answer_has pm_Registry_answer_has an_Registry_answer_has cd_Registry_answer_has ct_Registry_answer_has), sl_Registry_answer_has⟩)
    (c_Registry_answer_has : PySem.W.codeIn K cd_Registry_answer_has "Registry.answer_has" = true)
    (k_Registry_answer_has : PySem.W.keepIn K (.ref f_Registry_answer_has) = true)
    (a_Registry_answer_part : PySem.W.findIn K (.ref C_Registry) "answer_part" = some (some (.ref f_Registry_answer_part)))
    (i_Registry_answer_part : PySem.W.isFn K (.ref f_Registry_answer_part) = true)
    (l_Registry_answer_part : K.lookup f_Registry_answer_part = some ⟨oc_Registry_answer_part, od_Registry_answer_part, .func (PySem.W.fnOf "answer_part" "Registry.answer_part" (defArgs s_Registry_answer_part) (defBody s_Registry_answer_part) (defScope s_Registry_answer_part) .none kV_Registry_answer_part dc_Registry_answer_part pm_Registry_answer_part an_Registry_answer_part cd_Registry_answer_part ct_Registry_answer_part), sl_Registry_answer_part⟩)
    (c_Registry_answer_part : PySem.W.codeIn K cd_Registry_answer_part "Registry.answer_part" = true)
    (k_Registry_answer_part : PySem.W.keepIn K (.ref f_Registry_answer_part) = true)
    (a_Registry_answer_finish : PySem.W.findIn K (.ref C_Registry) "answer_finish" = some (some (.ref f_Registry_answer_finish)))
    (i_Registry_answer_finish : PySem.W.isFn K (.ref f_Registry_answer_finish) = true)
    (l_Registry_answer_finish : K.lookup f_Registry_answer_finish = some ⟨oc_Registry_answer_finish, od_Registry_answer_finish, .func (PySem.W.fnOf "answer_finish" "Registry.answer_finish" (defArgs s_Registry_answer_finish) (defBody s_Registry_answer_finish) (defScope s_Registry_answer_finish) .none kV_Registry_answer_finish dc_Registry_answer_finish pm_Registry_answer_finish an_Registry_answer_finish cd_Registry_answer_finish ct_Registry_answer_finish), sl_Registry_answer_finish⟩)
    (c_Registry_answer_finish : PySem.W.codeIn K cd_Registry_answer_finish "Registry.answer_finish" = true)
    (k_Registry_answer_finish : PySem.W.keepIn K (.ref f_Registry_answer_finish) = true)
    (a_Registry_answer_put : PySem.W.findIn K (.ref C_Registry) "answer_put" = some (some (.ref f_Registry_answer_put)))
    (i_Registry_answer_put : PySem.W.isFn K (.ref f_Registry_answer_put) = true)
    (l_Registry_answer_put : K.lookup f_Registry_answer_put = some ⟨oc_Registry_answer_put, od_Registry_answer_put, .func (PySem.W.fnOf "answer_put" "Registry.answer_put" (defArgs s_Registry_answer_put) (defBody s_Registry_answer_put) (defScope s_Registry_answer_put) .none kV_Registry_answer_put dc_Registry_answer_put pm_Registry_answer_put an_Registry_answer_put cd_Registry_answer_put ct_Registry_answer_put), sl_Registry_answer_put⟩)
    (c_Registry_answer_put : PySem.W.codeIn K cd_Registry_answer_put "Registry.answer_put" = true)
    (k_Registry_answer_put : PySem.W.keepIn K (.ref f_Registry_answer_put) = true)
    (a_Registry_answer_name : PySem.W.findIn K (.ref C_Registry) "answer_name" = some (some (.ref f_Registry_answer_name)))
    (i_Registry_answer_name : PySem.W.isFn K (.ref f_Registry_answer_name) = true)
    (l_Registry_answer_name : K.lookup f_Registry_answer_name = some ⟨oc_Registry_answer_name, od_Registry_answer_name, .func (PySem.W.fnOf "answer_name" "Registry.answer_name" (defArgs s_Registry_answer_name) (defBody s_Registry_answer_name) (defScope s_Registry_answer_name) .none kV_Registry_answer_name dc_Registry_answer_name pm_Registry_answer_name an_Registry_answer_name cd_Registry_answer_name ct_Registry_answer_name), sl_Registry_answer_name⟩)
    (c_Registry_answer_name : PySem.W.codeIn K cd_Registry_answer_name "Registry.answer_name" = true)
    (k_Registry_answer_name : PySem.W.keepIn K (.ref f_Registry_answer_name) = true)
    (a_Registry_answer_get : PySem.W.findIn K (.ref C_Registry) "answer_get" = some (some (.ref f_Registry_answer_get)))
    (i_Registry_answer_get : PySem.W.isFn K (.ref f_Registry_answer_get) = true)
    (l_Registry_answer_get : K.lookup f_Registry_answer_get = some ⟨oc_Registry_answer_get, od_Registry_answer_get, .func (PySem.W.fnOf "answer_get" "Registry.answer_get" (defArgs s_Registry_answer_get) (defBody s_Registry_answer_get) (defScope s_Registry_answer_get) .none kV_Registry_answer_get dc_Registry_answer_get pm_Registry_answer_get an_Registry_answer_get cd_Registry_answer_get ct_Registry_answer_get), sl_Registry_answer_get⟩)
    (c_Registry_answer_get : PySem.W.codeIn K cd_Registry_answer_get "Registry.answer_get" = true)
    (k_Registry_answer_get : PySem.W.keepIn K (.ref f_Registry_answer_get) = true)
    (a_Registry_drop_name : PySem.W.findIn K (.ref C_Registry) "drop_name" = some (some (.ref f_Registry_drop_name)))
    (i_Registry_drop_name : PySem.W.isFn K (.ref f_Registry_drop_name) = true)
    (l_Registry_drop_name : K.lookup f_Registry_drop_name = some ⟨oc_Registry_drop_name, od_Registry_drop_name, .func (PySem.W.fnOf "drop_name" "Registry.drop_name" (defArgs s_Registry_drop_name) (defBody s_Registry_drop_name) (defScope s_Registry_drop_name) .none kV_Registry_drop_name dc_Registry_drop_name pm_Registry_drop_name an_Registry_drop_name cd_Registry_drop_name ct_Registry_drop_name), sl_Registry_drop_name⟩)
    (c_Registry_drop_name : PySem.W.codeIn K cd_Registry_drop_name "Registry.drop_name" = true)
    (k_Registry_drop_name : PySem.W.keepIn K (.ref f_Registry_drop_name) = true)
    (a_Registry_lapse : PySem.W.findIn K (.ref C_Registry) "lapse" = some (some (.ref f_Registry_lapse)))
    (i_Registry_lapse : PySem.W.isFn K (.ref f_Registry_lapse) = true)
    (l_Registry_lapse : K.lookup f_Registry_lapse = some ⟨oc_Registry_lapse, od_Registry_lapse, .func (PySem.W.fnOf "lapse" "Registry.lapse" (defArgs s_Registry_lapse) (defBody s_Registry_lapse) (defScope s_Registry_lapse) .none kV_Registry_lapse dc_Registry_lapse pm_Registry_lapse an_Registry_lapse cd_Registry_lapse ct_Registry_lapse), sl_Registry_lapse⟩)
    (c_Registry_lapse : PySem.W.codeIn K cd_Registry_lapse "Registry.lapse" = true)
    (k_Registry_lapse : PySem.W.keepIn K (.ref f_Registry_lapse) = true)
    (a_Registry_fall : PySem.W.findIn K (.ref C_Registry) "fall" = some (some (.ref f_Registry_fall)))
    (i_Registry_fall : PySem.W.isFn K (.ref f_Registry_fall) = true)
    (l_Registry_fall : K.lookup f_Registry_fall = some ⟨oc_Registry_fall, od_Registry_fall, .func (PySem.W.fnOf "fall" "Registry.fall" (defArgs s_Registry_fall) (defBody s_Registry_fall) (defScope s_Registry_fall) .none kV_Registry_fall dc_Registry_fall pm_Registry_fall an_Registry_fall cd_Registry_fall ct_Registry_fall), sl_Registry_fall⟩)
    (c_Registry_fall : PySem.W.codeIn K cd_Registry_fall "Registry.fall" = true)
    (k_Registry_fall : PySem.W.keepIn K (.ref f_Registry_fall) = true)
    (a_Registry_roots : PySem.W.findIn K (.ref C_Registry) "roots" = some (some (.ref f_Registry_roots)))
    (i_Registry_roots : PySem.W.isFn K (.ref f_Registry_roots) = true)
    (l_Registry_roots : K.lookup f_Registry_roots = some ⟨oc_Registry_roots, od_Registry_roots, .func (PySem.W.fnOf "roots" "Registry.roots" (defArgs s_Registry_roots) (defBody s_Registry_roots) (defScope s_Registry_roots) .none kV_Registry_roots dc_Registry_roots pm_Registry_roots an_Registry_roots cd_Registry_roots ct_Registry_roots), sl_Registry_roots⟩)
    (c_Registry_roots : PySem.W.codeIn K cd_Registry_roots "Registry.roots" = true)
    (k_Registry_roots : PySem.W.keepIn K (.ref f_Registry_roots) = true)
    (a_Registry_collect : PySem.W.findIn K (.ref C_Registry) "collect" = some (some (.ref f_Registry_collect)))
    (i_Registry_collect : PySem.W.isFn K (.ref f_Registry_collect) = true)
    (l_Registry_collect : K.lookup f_Registry_collect = some ⟨oc_Registry_collect, od_Registry_collect, .func (PySem.W.fnOf "collect" "Registry.collect" (defArgs s_Registry_collect) (defBody s_Registry_collect) (defScope s_Registry_collect) .none kV_Registry_collect dc_Registry_collect pm_Registry_collect an_Registry_collect cd_Registry_collect ct_Registry_collect), sl_Registry_collect⟩)
    (c_Registry_collect : PySem.W.codeIn K cd_Registry_collect "Registry.collect" = true)
    (k_Registry_collect : PySem.W.keepIn K (.ref f_Registry_collect) = true)
    (a_Refused : PySem.W.nsIn K mainGlobals "Refused" = some (some (.ref C_Refused)))
    (a_Malformed : PySem.W.nsIn K mainGlobals "Malformed" = some (some (.ref C_Malformed)))
    (xL_Malformed : K.lookup C_Malformed = some (excClassObj nm_Malformed q_Malformed C_Malformed N_Malformed bs_Malformed [.ref C_Refused, .type "ValueError", .type "Exception", .type "BaseException", .type "object"] true sn_Malformed sb_Malformed ab_Malformed col_Malformed dd_Malformed m0_Malformed m1_Malformed m2_Malformed m3_Malformed m5_Malformed "ValueError.__new__"))
    (sa_Malformed : PySem.W.findIn K (.ref C_Malformed) "__setattr__" = some (some (.builtin "object.__setattr__")))
    (ga_Malformed : PySem.W.findIn K (.ref C_Malformed) "__getattribute__" = some (some (.builtin "BaseException.__getattribute__")))
    (gg_Malformed : PySem.W.findIn K (.ref C_Malformed) "__getattr__" = some none)
    (kC_Malformed : PySem.W.keepIn K (.ref C_Malformed) = true)
    (eC_Malformed : PySem.W.subIn K (.ref C_Malformed) (.type "BaseException") = some true)
    (tC_Malformed : PySem.W.typeIn K (.ref C_Malformed) = some (.type "type"))
    (hC_Malformed : PySem.W.hasDictIn K C_Malformed = true)
    (iC_Malformed : PySem.W.isClsIn K C_Malformed = true)
    (sC_Malformed : PySem.W.subIn K (.ref C_Malformed) (.ref C_Malformed) = some true)
    (hk_Malformed : PySem.W.findIn K (.ref C_Malformed) "__class__" = some (some (.builtin "object.__class__")))
    (hm_Malformed : PySem.W.mroIn K C_Malformed (.type "object") = some true)
    (na_Malformed_line : PySem.W.findIn K (.ref C_Malformed) "line" = some none)
    (a_Malformed___init__ : PySem.W.findIn K (.ref C_Malformed) "__init__" = some (some (.ref f_Malformed___init__)))
    (t_Malformed___init__ : PySem.W.typeIn K (.ref f_Malformed___init__) = some (.type "function"))
    (l_Malformed___init__ : K.lookup f_Malformed___init__ = some ⟨oc_Malformed___init__, od_Malformed___init__, .func (PySem.W.fnOf "__init__" "Malformed.__init__" (defArgs s_Malformed___init__) (defBody s_Malformed___init__) (defScope s_Malformed___init__) .none kV_Malformed___init__ dc_Malformed___init__ pm_Malformed___init__ an_Malformed___init__ cd_Malformed___init__ ct_Malformed___init__), sl_Malformed___init__⟩)
    (c_Malformed___init__ : PySem.W.codeIn K cd_Malformed___init__ "Malformed.__init__" = true)
    (k_Malformed___init__ : PySem.W.keepIn K (.ref f_Malformed___init__) = true)
    (hn_obj : PySem.W.specialIn K (.builtin "object.__class__") "__get__" = some (some (.builtin "getset_descriptor.__get__")))
    (ht_obj : PySem.W.takesIn K (.builtin "object.__class__") = some true)
    (a_address_of : PySem.W.nsIn K mainGlobals "address_of" = some (some (.ref f_address_of)))
    (l_address_of : K.lookup f_address_of = some ⟨oc_address_of, od_address_of, .func (PySem.W.fnOf "address_of" "address_of" (defArgs s_address_of) (defBody s_address_of) (defScope s_address_of) .none kV_address_of dc_address_of pm_address_of an_address_of cd_address_of ct_address_of), sl_address_of⟩)
    (c_address_of : PySem.W.codeIn K cd_address_of "address_of" = true)
    (k_address_of : PySem.W.keepIn K (.ref f_address_of) = true)
    (a_is_address : PySem.W.nsIn K mainGlobals "is_address" = some (some (.ref f_is_address)))
    (l_is_address : K.lookup f_is_address = some ⟨oc_is_address, od_is_address, .func (PySem.W.fnOf "is_address" "is_address" (defArgs s_is_address) (defBody s_is_address) (defScope s_is_address) .none kV_is_address dc_is_address pm_is_address an_is_address cd_is_address ct_is_address), sl_is_address⟩)
    (c_is_address : PySem.W.codeIn K cd_is_address "is_address" = true)
    (k_is_address : PySem.W.keepIn K (.ref f_is_address) = true)
    (a_image_text : PySem.W.nsIn K mainGlobals "image_text" = some (some (.ref f_image_text)))
    (l_image_text : K.lookup f_image_text = some ⟨oc_image_text, od_image_text, .func (PySem.W.fnOf "image_text" "image_text" (defArgs s_image_text) (defBody s_image_text) (defScope s_image_text) .none kV_image_text dc_image_text pm_image_text an_image_text cd_image_text ct_image_text), sl_image_text⟩)
    (c_image_text : PySem.W.codeIn K cd_image_text "image_text" = true)
    (k_image_text : PySem.W.keepIn K (.ref f_image_text) = true)
    (a_bundle_text : PySem.W.nsIn K mainGlobals "bundle_text" = some (some (.ref f_bundle_text)))
    (l_bundle_text : K.lookup f_bundle_text = some ⟨oc_bundle_text, od_bundle_text, .func (PySem.W.fnOf "bundle_text" "bundle_text" (defArgs s_bundle_text) (defBody s_bundle_text) (defScope s_bundle_text) .none kV_bundle_text dc_bundle_text pm_bundle_text an_bundle_text cd_bundle_text ct_bundle_text), sl_bundle_text⟩)
    (c_bundle_text : PySem.W.codeIn K cd_bundle_text "bundle_text" = true)
    (k_bundle_text : PySem.W.keepIn K (.ref f_bundle_text) = true)
    (a_lines_of : PySem.W.nsIn K mainGlobals "lines_of" = some (some (.ref f_lines_of)))
    (l_lines_of : K.lookup f_lines_of = some ⟨oc_lines_of, od_lines_of, .func (PySem.W.fnOf "lines_of" "lines_of" (defArgs s_lines_of) (defBody s_lines_of) (defScope s_lines_of) .none kV_lines_of dc_lines_of pm_lines_of an_lines_of cd_lines_of ct_lines_of), sl_lines_of⟩)
    (c_lines_of : PySem.W.codeIn K cd_lines_of "lines_of" = true)
    (k_lines_of : PySem.W.keepIn K (.ref f_lines_of) = true)
    (a_read_image : PySem.W.nsIn K mainGlobals "read_image" = some (some (.ref f_read_image)))
    (l_read_image : K.lookup f_read_image = some ⟨oc_read_image, od_read_image, .func (PySem.W.fnOf "read_image" "read_image" (defArgs s_read_image) (defBody s_read_image) (defScope s_read_image) .none kV_read_image dc_read_image pm_read_image an_read_image cd_read_image ct_read_image), sl_read_image⟩)
    (c_read_image : PySem.W.codeIn K cd_read_image "read_image" = true)
    (k_read_image : PySem.W.keepIn K (.ref f_read_image) = true)
    (a_is_platform : PySem.W.nsIn K mainGlobals "is_platform" = some (some (.ref f_is_platform)))
    (l_is_platform : K.lookup f_is_platform = some ⟨oc_is_platform, od_is_platform, .func (PySem.W.fnOf "is_platform" "is_platform" (defArgs s_is_platform) (defBody s_is_platform) (defScope s_is_platform) .none kV_is_platform dc_is_platform pm_is_platform an_is_platform cd_is_platform ct_is_platform), sl_is_platform⟩)
    (c_is_platform : PySem.W.codeIn K cd_is_platform "is_platform" = true)
    (k_is_platform : PySem.W.keepIn K (.ref f_is_platform) = true)
    (a_read_bundle : PySem.W.nsIn K mainGlobals "read_bundle" = some (some (.ref f_read_bundle)))
    (l_read_bundle : K.lookup f_read_bundle = some ⟨oc_read_bundle, od_read_bundle, .func (PySem.W.fnOf "read_bundle" "read_bundle" (defArgs s_read_bundle) (defBody s_read_bundle) (defScope s_read_bundle) .none kV_read_bundle dc_read_bundle pm_read_bundle an_read_bundle cd_read_bundle ct_read_bundle), sl_read_bundle⟩)
    (c_read_bundle : PySem.W.codeIn K cd_read_bundle "read_bundle" = true)
    (k_read_bundle : PySem.W.keepIn K (.ref f_read_bundle) = true)
    (a_references : PySem.W.nsIn K mainGlobals "references" = some (some (.ref f_references)))
    (l_references : K.lookup f_references = some ⟨oc_references, od_references, .func (PySem.W.fnOf "references" "references" (defArgs s_references) (defBody s_references) (defScope s_references) .none kV_references dc_references pm_references an_references cd_references ct_references), sl_references⟩)
    (c_references : PySem.W.codeIn K cd_references "references" = true)
    (k_references : PySem.W.keepIn K (.ref f_references) = true)
    (a__law_state : PySem.W.nsIn K mainGlobals "_law_state" = some (some (.ref f__law_state)))
    (l__law_state : K.lookup f__law_state = some ⟨oc__law_state, od__law_state, .func (PySem.W.fnOf "_law_state" "_law_state" (defArgs s__law_state) (defBody s__law_state) (defScope s__law_state) .none kV__law_state dc__law_state pm__law_state an__law_state cd__law_state ct__law_state), sl__law_state⟩)
    (c__law_state : PySem.W.codeIn K cd__law_state "_law_state" = true)
    (k__law_state : PySem.W.keepIn K (.ref f__law_state) = true)
    (a__law_take : PySem.W.nsIn K mainGlobals "_law_take" = some (some (.ref f__law_take)))
    (l__law_take : K.lookup f__law_take = some ⟨oc__law_take, od__law_take, .func (PySem.W.fnOf "_law_take" "_law_take" (defArgs s__law_take) (defBody s__law_take) (defScope s__law_take) .none kV__law_take dc__law_take pm__law_take an__law_take cd__law_take ct__law_take), sl__law_take⟩)
    (c__law_take : PySem.W.codeIn K cd__law_take "_law_take" = true)
    (k__law_take : PySem.W.keepIn K (.ref f__law_take) = true)
    (a__law_text : PySem.W.nsIn K mainGlobals "_law_text" = some (some (.ref f__law_text)))
    (l__law_text : K.lookup f__law_text = some ⟨oc__law_text, od__law_text, .func (PySem.W.fnOf "_law_text" "_law_text" (defArgs s__law_text) (defBody s__law_text) (defScope s__law_text) .none kV__law_text dc__law_text pm__law_text an__law_text cd__law_text ct__law_text), sl__law_text⟩)
    (c__law_text : PySem.W.codeIn K cd__law_text "_law_text" = true)
    (k__law_text : PySem.W.keepIn K (.ref f__law_text) = true)
    (a__law_goods : PySem.W.nsIn K mainGlobals "_law_goods" = some (some (.ref f__law_goods)))
    (l__law_goods : K.lookup f__law_goods = some ⟨oc__law_goods, od__law_goods, .func (PySem.W.fnOf "_law_goods" "_law_goods" (defArgs s__law_goods) (defBody s__law_goods) (defScope s__law_goods) .none kV__law_goods dc__law_goods pm__law_goods an__law_goods cd__law_goods ct__law_goods), sl__law_goods⟩)
    (c__law_goods : PySem.W.codeIn K cd__law_goods "_law_goods" = true)
    (k__law_goods : PySem.W.keepIn K (.ref f__law_goods) = true)
    (a__law_clash : PySem.W.nsIn K mainGlobals "_law_clash" = some (some (.ref f__law_clash)))
    (l__law_clash : K.lookup f__law_clash = some ⟨oc__law_clash, od__law_clash, .func (PySem.W.fnOf "_law_clash" "_law_clash" (defArgs s__law_clash) (defBody s__law_clash) (defScope s__law_clash) .none kV__law_clash dc__law_clash pm__law_clash an__law_clash cd__law_clash ct__law_clash), sl__law_clash⟩)
    (c__law_clash : PySem.W.codeIn K cd__law_clash "_law_clash" = true)
    (k__law_clash : PySem.W.keepIn K (.ref f__law_clash) = true)
    (a__law_goods_clash : PySem.W.nsIn K mainGlobals "_law_goods_clash" = some (some (.ref f__law_goods_clash)))
    (l__law_goods_clash : K.lookup f__law_goods_clash = some ⟨oc__law_goods_clash, od__law_goods_clash, .func (PySem.W.fnOf "_law_goods_clash" "_law_goods_clash" (defArgs s__law_goods_clash) (defBody s__law_goods_clash) (defScope s__law_goods_clash) .none kV__law_goods_clash dc__law_goods_clash pm__law_goods_clash an__law_goods_clash cd__law_goods_clash ct__law_goods_clash), sl__law_goods_clash⟩)
    (c__law_goods_clash : PySem.W.codeIn K cd__law_goods_clash "_law_goods_clash" = true)
    (k__law_goods_clash : PySem.W.keepIn K (.ref f__law_goods_clash) = true)
    (a__law_upload : PySem.W.nsIn K mainGlobals "_law_upload" = some (some (.ref f__law_upload)))
    (l__law_upload : K.lookup f__law_upload = some ⟨oc__law_upload, od__law_upload, .func (PySem.W.fnOf "_law_upload" "_law_upload" (defArgs s__law_upload) (defBody s__law_upload) (defScope s__law_upload) .none kV__law_upload dc__law_upload pm__law_upload an__law_upload cd__law_upload ct__law_upload), sl__law_upload⟩)
    (c__law_upload : PySem.W.codeIn K cd__law_upload "_law_upload" = true)
    (k__law_upload : PySem.W.keepIn K (.ref f__law_upload) = true)
    (a__law_request : PySem.W.nsIn K mainGlobals "_law_request" = some (some (.ref f__law_request)))
    (l__law_request : K.lookup f__law_request = some ⟨oc__law_request, od__law_request, .func (PySem.W.fnOf "_law_request" "_law_request" (defArgs s__law_request) (defBody s__law_request) (defScope s__law_request) .none kV__law_request dc__law_request pm__law_request an__law_request cd__law_request ct__law_request), sl__law_request⟩)
    (c__law_request : PySem.W.codeIn K cd__law_request "_law_request" = true)
    (k__law_request : PySem.W.keepIn K (.ref f__law_request) = true)
    (a__law_below : PySem.W.nsIn K mainGlobals "_law_below" = some (some (.ref f__law_below)))
    (l__law_below : K.lookup f__law_below = some ⟨oc__law_below, od__law_below, .func (PySem.W.fnOf "_law_below" "_law_below" (defArgs s__law_below) (defBody s__law_below) (defScope s__law_below) .none kV__law_below dc__law_below pm__law_below an__law_below cd__law_below ct__law_below), sl__law_below⟩)
    (c__law_below : PySem.W.codeIn K cd__law_below "_law_below" = true)
    (k__law_below : PySem.W.keepIn K (.ref f__law_below) = true)
    (a__law_whole : PySem.W.nsIn K mainGlobals "_law_whole" = some (some (.ref f__law_whole)))
    (l__law_whole : K.lookup f__law_whole = some ⟨oc__law_whole, od__law_whole, .func (PySem.W.fnOf "_law_whole" "_law_whole" (defArgs s__law_whole) (defBody s__law_whole) (defScope s__law_whole) .none kV__law_whole dc__law_whole pm__law_whole an__law_whole cd__law_whole ct__law_whole), sl__law_whole⟩)
    (c__law_whole : PySem.W.codeIn K cd__law_whole "_law_whole" = true)
    (k__law_whole : PySem.W.keepIn K (.ref f__law_whole) = true)
    (a__law_sound : PySem.W.nsIn K mainGlobals "_law_sound" = some (some (.ref f__law_sound)))
    (l__law_sound : K.lookup f__law_sound = some ⟨oc__law_sound, od__law_sound, .func (PySem.W.fnOf "_law_sound" "_law_sound" (defArgs s__law_sound) (defBody s__law_sound) (defScope s__law_sound) .none kV__law_sound dc__law_sound pm__law_sound an__law_sound cd__law_sound ct__law_sound), sl__law_sound⟩)
    (c__law_sound : PySem.W.codeIn K cd__law_sound "_law_sound" = true)
    (k__law_sound : PySem.W.keepIn K (.ref f__law_sound) = true)
    (a_law : PySem.W.nsIn K mainGlobals "law" = some (some (.ref f_law)))
    (l_law : K.lookup f_law = some ⟨oc_law, od_law, .func (PySem.W.fnOf "law" "law" (defArgs s_law) (defBody s_law) (defScope s_law) .none kV_law dc_law pm_law an_law cd_law ct_law), sl_law⟩)
    (c_law : PySem.W.codeIn K cd_law "law" = true)
    (k_law : PySem.W.keepIn K (.ref f_law) = true)
    (z_abs : PySem.W.nsIn K mainGlobals "abs" = some none)
    (z_int : PySem.W.nsIn K mainGlobals "int" = some none)
    (z_len : PySem.W.nsIn K mainGlobals "len" = some none)
    (z_list : PySem.W.nsIn K mainGlobals "list" = some none)
    (z_ord : PySem.W.nsIn K mainGlobals "ord" = some none)
    (z_range : PySem.W.nsIn K mainGlobals "range" = some none)
    (z_sorted : PySem.W.nsIn K mainGlobals "sorted" = some none)
    (v_DIGITS : PySem.W.nsIn K mainGlobals "DIGITS" = some (some (Value.str "0123456789abcdef" t_DIGITS)))
    (v_LETTERS : PySem.W.nsIn K mainGlobals "LETTERS" = some (some (Value.str "abcdefghijklmnopqrstuvwxyz" t_LETTERS)))
    (v_MAX_LINES : PySem.W.nsIn K mainGlobals "MAX_LINES" = some (some (Value.int 50 t_MAX_LINES)))
    (v_PRIME : PySem.W.nsIn K mainGlobals "PRIME" = some (some (Value.int 2305843009213693951 t_PRIME)))
    (v_KINDS : PySem.W.nsIn K mainGlobals "KINDS" = some (some (.ref a_KINDS)))
    (at_KINDS : K.lookup a_KINDS = some ⟨.type "tuple", none, .seq its_KINDS n_KINDS, sl_KINDS⟩)
    (vl_KINDS : Vals (kinds3.map V.str) its_KINDS.toList)
    (sz_KINDS : its_KINDS.size ≤ sizeLine)
    (v_BELOW : PySem.W.nsIn K mainGlobals "BELOW" = some (some (.ref a_BELOW)))
    (at_BELOW : K.lookup a_BELOW = some ⟨.type "dict", none, .dict es_BELOW n_BELOW, #[]⟩)
    (p_below1 : PySem.W.nsIn K a_BELOW "image" = some (some (.str "layer" t_below1)))
    (p_below2 : PySem.W.nsIn K a_BELOW "bundle" = some (some (.str "image" t_below2)))
    (lit_BELOW : PySem.W.KeysLit w.params es_BELOW.toList)
    (v_CLAIMED : PySem.W.nsIn K mainGlobals "CLAIMED" = some (some (.ref a_CLAIMED)))
    (at_CLAIMED : K.lookup a_CLAIMED = some ⟨.type "tuple", none, .seq its_CLAIMED n_CLAIMED, sl_CLAIMED⟩)
    (vl_CLAIMED : Vals (claimed4.map V.str) its_CLAIMED.toList)
    (sz_CLAIMED : its_CLAIMED.size ≤ sizeLine)
    : ∃ fd : FuncData, (∀ (s : Shared) (v : Value), BindsTo s fd ⟨[v], []⟩ [("_law_script", v)]) ∧ ∀ base : Heap, K.In base → base.Ns mainGlobals mg → FnOk l.prog w K mg base CX0 16 fa fd ["_law_script"] (spLaw K) := by
  have e := hfa.symm.trans (PySem.W.mg_of X G a_law)
  cases e
  have F_Claims___init__ := fun_mk (st := s_Claims___init__) l_Claims___init__ c_Claims___init__ k_Claims___init__
  have b_Claims___init__ := F_Claims___init__.binds (ps := ["self"]) fun _ _ _ _ _ _ us hl => match us, hl with | [_], _ => rfl
  have F_Claims_begin := fun_mk (st := s_Claims_begin) l_Claims_begin c_Claims_begin k_Claims_begin
  have b_Claims_begin := F_Claims_begin.binds (ps := ["self"]) fun _ _ _ _ _ _ us hl => match us, hl with | [_], _ => rfl
  have F_Claims_is_open := fun_mk (st := s_Claims_is_open) l_Claims_is_open c_Claims_is_open k_Claims_is_open
  have b_Claims_is_open := F_Claims_is_open.binds (ps := ["self", "claim"]) fun _ _ _ _ _ _ us hl => match us, hl with | [_, _], _ => rfl
  have F_Claims_pin := fun_mk (st := s_Claims_pin) l_Claims_pin c_Claims_pin k_Claims_pin
  have b_Claims_pin := F_Claims_pin.binds (ps := ["self", "claim", "address"]) fun _ _ _ _ _ _ us hl => match us, hl with | [_, _, _], _ => rfl
  have F_Claims_end := fun_mk (st := s_Claims_end) l_Claims_end c_Claims_end k_Claims_end
  have b_Claims_end := F_Claims_end.binds (ps := ["self", "claim"]) fun _ _ _ _ _ _ us hl => match us, hl with | [_, _], _ => rfl
  have F_Claims_numbers := fun_mk (st := s_Claims_numbers) l_Claims_numbers c_Claims_numbers k_Claims_numbers
  have b_Claims_numbers := F_Claims_numbers.binds (ps := ["self"]) fun _ _ _ _ _ _ us hl => match us, hl with | [_], _ => rfl
  have F_Claims_pinned := fun_mk (st := s_Claims_pinned) l_Claims_pinned c_Claims_pinned k_Claims_pinned
  have b_Claims_pinned := F_Claims_pinned.binds (ps := ["self"]) fun _ _ _ _ _ _ us hl => match us, hl with | [_], _ => rfl
  have F_Collector___init__ := fun_mk (st := s_Collector___init__) l_Collector___init__ c_Collector___init__ k_Collector___init__
  have b_Collector___init__ := F_Collector___init__.binds (ps := ["self", "store"]) fun _ _ _ _ _ _ us hl => match us, hl with | [_, _], _ => rfl
  have F_Collector_stop := fun_mk (st := s_Collector_stop) l_Collector_stop c_Collector_stop k_Collector_stop
  have b_Collector_stop := F_Collector_stop.binds (ps := ["self"]) fun _ _ _ _ _ _ us hl => match us, hl with | [_], _ => rfl
  have F_Collector_shade := fun_mk (st := s_Collector_shade) l_Collector_shade c_Collector_shade k_Collector_shade
  have b_Collector_shade := F_Collector_shade.binds (ps := ["self", "address"]) fun _ _ _ _ _ _ us hl => match us, hl with | [_, _], _ => rfl
  have F_Collector_step := fun_mk (st := s_Collector_step) l_Collector_step c_Collector_step k_Collector_step
  have b_Collector_step := F_Collector_step.binds (ps := ["self", "roots"]) fun _ _ _ _ _ _ us hl => match us, hl with | [_, _], _ => rfl
  have F_Collector_mark_one := fun_mk (st := s_Collector_mark_one) l_Collector_mark_one c_Collector_mark_one k_Collector_mark_one
  have b_Collector_mark_one := F_Collector_mark_one.binds (ps := ["self"]) fun _ _ _ _ _ _ us hl => match us, hl with | [_], _ => rfl
  have F_Collector_sweep_one := fun_mk (st := s_Collector_sweep_one) l_Collector_sweep_one c_Collector_sweep_one k_Collector_sweep_one
  have b_Collector_sweep_one := F_Collector_sweep_one.binds (ps := ["self"]) fun _ _ _ _ _ _ us hl => match us, hl with | [_], _ => rfl
  have F_Store___init__ := fun_mk (st := s_Store___init__) l_Store___init__ c_Store___init__ k_Store___init__
  have b_Store___init__ := F_Store___init__.binds (ps := ["self"]) fun _ _ _ _ _ _ us hl => match us, hl with | [_], _ => rfl
  have F_Store_keep := fun_mk (st := s_Store_keep) l_Store_keep c_Store_keep k_Store_keep
  have b_Store_keep := F_Store_keep.binds (ps := ["self", "kind", "text"]) fun _ _ _ _ _ _ us hl => match us, hl with | [_, _, _], _ => rfl
  have F_Store_blob := fun_mk (st := s_Store_blob) l_Store_blob c_Store_blob k_Store_blob
  have b_Store_blob := F_Store_blob.binds (ps := ["self", "address"]) fun _ _ _ _ _ _ us hl => match us, hl with | [_, _], _ => rfl
  have F_Store_remove_blob := fun_mk (st := s_Store_remove_blob) l_Store_remove_blob c_Store_remove_blob k_Store_remove_blob
  have b_Store_remove_blob := F_Store_remove_blob.binds (ps := ["self", "address"]) fun _ _ _ _ _ _ us hl => match us, hl with | [_, _], _ => rfl
  have F_Store_addresses := fun_mk (st := s_Store_addresses) l_Store_addresses c_Store_addresses k_Store_addresses
  have b_Store_addresses := F_Store_addresses.binds (ps := ["self"]) fun _ _ _ _ _ _ us hl => match us, hl with | [_], _ => rfl
  have F_Store_below := fun_mk (st := s_Store_below) l_Store_below c_Store_below k_Store_below
  have b_Store_below := F_Store_below.binds (ps := ["self", "address"]) fun _ _ _ _ _ _ us hl => match us, hl with | [_, _], _ => rfl
  have F_Store_is_whole := fun_mk (st := s_Store_is_whole) l_Store_is_whole c_Store_is_whole k_Store_is_whole
  have b_Store_is_whole := F_Store_is_whole.binds (ps := ["self", "address"]) fun _ _ _ _ _ _ us hl => match us, hl with | [_, _], _ => rfl
  have F_Store_closure := fun_mk (st := s_Store_closure) l_Store_closure c_Store_closure k_Store_closure
  have b_Store_closure := F_Store_closure.binds (ps := ["self", "address"]) fun _ _ _ _ _ _ us hl => match us, hl with | [_, _], _ => rfl
  have F_Uploads___init__ := fun_mk (st := s_Uploads___init__) l_Uploads___init__ c_Uploads___init__ k_Uploads___init__
  have b_Uploads___init__ := F_Uploads___init__.binds (ps := ["self"]) fun _ _ _ _ _ _ us hl => match us, hl with | [_], _ => rfl
  have F_Uploads_begin := fun_mk (st := s_Uploads_begin) l_Uploads_begin c_Uploads_begin k_Uploads_begin
  have b_Uploads_begin := F_Uploads_begin.binds (ps := ["self"]) fun _ _ _ _ _ _ us hl => match us, hl with | [_], _ => rfl
  have F_Uploads_add_part := fun_mk (st := s_Uploads_add_part) l_Uploads_add_part c_Uploads_add_part k_Uploads_add_part
  have b_Uploads_add_part := F_Uploads_add_part.binds (ps := ["self", "upload", "at", "part"]) fun _ _ _ _ _ _ us hl => match us, hl with | [_, _, _, _], _ => rfl
  have F_Uploads_finish := fun_mk (st := s_Uploads_finish) l_Uploads_finish c_Uploads_finish k_Uploads_finish
  have b_Uploads_finish := F_Uploads_finish.binds (ps := ["self", "upload"]) fun _ _ _ _ _ _ us hl => match us, hl with | [_, _], _ => rfl
  have F_Uploads_forget := fun_mk (st := s_Uploads_forget) l_Uploads_forget c_Uploads_forget k_Uploads_forget
  have b_Uploads_forget := F_Uploads_forget.binds (ps := ["self"]) fun _ _ _ _ _ _ us hl => match us, hl with | [_], _ => rfl
  have F_Registry___init__ := fun_mk (st := s_Registry___init__) l_Registry___init__ c_Registry___init__ k_Registry___init__
  have b_Registry___init__ := F_Registry___init__.binds (ps := ["self"]) fun _ _ _ _ _ _ us hl => match us, hl with | [_], _ => rfl
  have F_Registry_answer := fun_mk (st := s_Registry_answer) l_Registry_answer c_Registry_answer k_Registry_answer
  have b_Registry_answer := F_Registry_answer.binds (ps := ["self", "request"]) fun _ _ _ _ _ _ us hl => match us, hl with | [_, _], _ => rfl
  have F_Registry_answer_plain := fun_mk (st := s_Registry_answer_plain) l_Registry_answer_plain c_Registry_answer_plain k_Registry_answer_plain
  have b_Registry_answer_plain := F_Registry_answer_plain.binds (ps := ["self", "request"]) fun _ _ _ _ _ _ us hl => match us, hl with | [_, _], _ => rfl
  have F_Registry_kept := fun_mk (st := s_Registry_kept) l_Registry_kept c_Registry_kept k_Registry_kept
  have b_Registry_kept := F_Registry_kept.binds (ps := ["self", "claim", "address"]) fun _ _ _ _ _ _ us hl => match us, hl with | [_, _, _], _ => rfl
  have F_Registry_answer_has := fun_mk (st := s_Registry_answer_has) l_Registry_answer_has c_Registry_answer_has k_Registry_answer_has
  have b_Registry_answer_has := F_Registry_answer_has.binds (ps := ["self", "claim", "address"]) fun _ _ _ _ _ _ us hl => match us, hl with | [_, _, _], _ => rfl
  have F_Registry_answer_part := fun_mk (st := s_Registry_answer_part) l_Registry_answer_part c_Registry_answer_part k_Registry_answer_part
  have b_Registry_answer_part := F_Registry_answer_part.binds (ps := ["self", "upload", "at", "part"]) fun _ _ _ _ _ _ us hl => match us, hl with | [_, _, _, _], _ => rfl
  have F_Registry_answer_finish := fun_mk (st := s_Registry_answer_finish) l_Registry_answer_finish c_Registry_answer_finish k_Registry_answer_finish
  have b_Registry_answer_finish := F_Registry_answer_finish.binds (ps := ["self", "upload", "claim", "address"]) fun _ _ _ _ _ _ us hl => match us, hl with | [_, _, _, _], _ => rfl
  have F_Registry_answer_put := fun_mk (st := s_Registry_answer_put) l_Registry_answer_put c_Registry_answer_put k_Registry_answer_put
  have b_Registry_answer_put := F_Registry_answer_put.binds (ps := ["self", "claim", "kind", "text"]) fun _ _ _ _ _ _ us hl => match us, hl with | [_, _, _, _], _ => rfl
  have F_Registry_answer_name := fun_mk (st := s_Registry_answer_name) l_Registry_answer_name c_Registry_answer_name k_Registry_answer_name
  have b_Registry_answer_name := F_Registry_answer_name.binds (ps := ["self", "claim", "name", "address"]) fun _ _ _ _ _ _ us hl => match us, hl with | [_, _, _, _], _ => rfl
  have F_Registry_answer_get := fun_mk (st := s_Registry_answer_get) l_Registry_answer_get c_Registry_answer_get k_Registry_answer_get
  have b_Registry_answer_get := F_Registry_answer_get.binds (ps := ["self", "address", "at", "count"]) fun _ _ _ _ _ _ us hl => match us, hl with | [_, _, _, _], _ => rfl
  have F_Registry_drop_name := fun_mk (st := s_Registry_drop_name) l_Registry_drop_name c_Registry_drop_name k_Registry_drop_name
  have b_Registry_drop_name := F_Registry_drop_name.binds (ps := ["self", "name"]) fun _ _ _ _ _ _ us hl => match us, hl with | [_, _], _ => rfl
  have F_Registry_lapse := fun_mk (st := s_Registry_lapse) l_Registry_lapse c_Registry_lapse k_Registry_lapse
  have b_Registry_lapse := F_Registry_lapse.binds (ps := ["self", "claim"]) fun _ _ _ _ _ _ us hl => match us, hl with | [_, _], _ => rfl
  have F_Registry_fall := fun_mk (st := s_Registry_fall) l_Registry_fall c_Registry_fall k_Registry_fall
  have b_Registry_fall := F_Registry_fall.binds (ps := ["self"]) fun _ _ _ _ _ _ us hl => match us, hl with | [_], _ => rfl
  have F_Registry_roots := fun_mk (st := s_Registry_roots) l_Registry_roots c_Registry_roots k_Registry_roots
  have b_Registry_roots := F_Registry_roots.binds (ps := ["self"]) fun _ _ _ _ _ _ us hl => match us, hl with | [_], _ => rfl
  have F_Registry_collect := fun_mk (st := s_Registry_collect) l_Registry_collect c_Registry_collect k_Registry_collect
  have b_Registry_collect := F_Registry_collect.binds (ps := ["self"]) fun _ _ _ _ _ _ us hl => match us, hl with | [_], _ => rfl
  have F_Malformed___init__ := fun_mk (st := s_Malformed___init__) l_Malformed___init__ c_Malformed___init__ k_Malformed___init__
  have b_Malformed___init__ := F_Malformed___init__.binds (ps := ["self", "line"]) fun _ _ _ _ _ _ us hl => match us, hl with | [_, _], _ => rfl
  have F_address_of := fun_mk (st := s_address_of) l_address_of c_address_of k_address_of
  have b_address_of := F_address_of.binds (ps := ["kind", "text"]) fun _ _ _ _ _ _ us hl => match us, hl with | [_, _], _ => rfl
  have F_is_address := fun_mk (st := s_is_address) l_is_address c_is_address k_is_address
  have b_is_address := F_is_address.binds (ps := ["text"]) fun _ _ _ _ _ _ us hl => match us, hl with | [_], _ => rfl
  have F_image_text := fun_mk (st := s_image_text) l_image_text c_image_text k_image_text
  have b_image_text := F_image_text.binds (ps := ["layers"]) fun _ _ _ _ _ _ us hl => match us, hl with | [_], _ => rfl
  have F_bundle_text := fun_mk (st := s_bundle_text) l_bundle_text c_bundle_text k_bundle_text
  have b_bundle_text := F_bundle_text.binds (ps := ["entries"]) fun _ _ _ _ _ _ us hl => match us, hl with | [_], _ => rfl
  have F_lines_of := fun_mk (st := s_lines_of) l_lines_of c_lines_of k_lines_of
  have b_lines_of := F_lines_of.binds (ps := ["text", "head"]) fun _ _ _ _ _ _ us hl => match us, hl with | [_, _], _ => rfl
  have F_read_image := fun_mk (st := s_read_image) l_read_image c_read_image k_read_image
  have b_read_image := F_read_image.binds (ps := ["text"]) fun _ _ _ _ _ _ us hl => match us, hl with | [_], _ => rfl
  have F_is_platform := fun_mk (st := s_is_platform) l_is_platform c_is_platform k_is_platform
  have b_is_platform := F_is_platform.binds (ps := ["word"]) fun _ _ _ _ _ _ us hl => match us, hl with | [_], _ => rfl
  have F_read_bundle := fun_mk (st := s_read_bundle) l_read_bundle c_read_bundle k_read_bundle
  have b_read_bundle := F_read_bundle.binds (ps := ["text"]) fun _ _ _ _ _ _ us hl => match us, hl with | [_], _ => rfl
  have F_references := fun_mk (st := s_references) l_references c_references k_references
  have b_references := F_references.binds (ps := ["kind", "text"]) fun _ _ _ _ _ _ us hl => match us, hl with | [_, _], _ => rfl
  have F__law_state := fun_mk (st := s__law_state) l__law_state c__law_state k__law_state
  have b__law_state := F__law_state.binds (ps := ["_law_script"]) fun _ _ _ _ _ _ us hl => match us, hl with | [_], _ => rfl
  have F__law_take := fun_mk (st := s__law_take) l__law_take c__law_take k__law_take
  have b__law_take := F__law_take.binds (ps := ["_law_state_here", "_law_most"]) fun _ _ _ _ _ _ us hl => match us, hl with | [_, _], _ => rfl
  have F__law_text := fun_mk (st := s__law_text) l__law_text c__law_text k__law_text
  have b__law_text := F__law_text.binds (ps := ["_law_state_here", "_law_most"]) fun _ _ _ _ _ _ us hl => match us, hl with | [_, _], _ => rfl
  have F__law_goods := fun_mk (st := s__law_goods) l__law_goods c__law_goods k__law_goods
  have b__law_goods := F__law_goods.binds (ps := ["_law_state_here"]) fun _ _ _ _ _ _ us hl => match us, hl with | [_], _ => rfl
  have F__law_clash := fun_mk (st := s__law_clash) l__law_clash c__law_clash k__law_clash
  have b__law_clash := F__law_clash.binds (ps := ["_law_blobs"]) fun _ _ _ _ _ _ us hl => match us, hl with | [_], _ => rfl
  have F__law_goods_clash := fun_mk (st := s__law_goods_clash) l__law_goods_clash c__law_goods_clash k__law_goods_clash
  have b__law_goods_clash := F__law_goods_clash.binds (ps := ["_law_goods_here"]) fun _ _ _ _ _ _ us hl => match us, hl with | [_], _ => rfl
  have F__law_upload := fun_mk (st := s__law_upload) l__law_upload c__law_upload k__law_upload
  have b__law_upload := F__law_upload.binds (ps := ["_law_registry", "_law_claim", "_law_text_here"]) fun _ _ _ _ _ _ us hl => match us, hl with | [_, _, _], _ => rfl
  have F__law_request := fun_mk (st := s__law_request) l__law_request c__law_request k__law_request
  have b__law_request := F__law_request.binds (ps := ["_law_state_here", "_law_registry", "_law_goods_here", "_law_claim"]) fun _ _ _ _ _ _ us hl => match us, hl with | [_, _, _, _], _ => rfl
  have F__law_below := fun_mk (st := s__law_below) l__law_below c__law_below k__law_below
  have b__law_below := F__law_below.binds (ps := ["_law_store", "_law_address"]) fun _ _ _ _ _ _ us hl => match us, hl with | [_, _], _ => rfl
  have F__law_whole := fun_mk (st := s__law_whole) l__law_whole c__law_whole k__law_whole
  have b__law_whole := F__law_whole.binds (ps := ["_law_store", "_law_address"]) fun _ _ _ _ _ _ us hl => match us, hl with | [_, _], _ => rfl
  have F__law_sound := fun_mk (st := s__law_sound) l__law_sound c__law_sound k__law_sound
  have b__law_sound := F__law_sound.binds (ps := ["_law_registry", "_law_kept"]) fun _ _ _ _ _ _ us hl => match us, hl with | [_, _], _ => rfl
  have F_law := fun_mk (st := s_law) l_law c_law k_law
  have T : Txt w K mg C_Claims C_Collector C_Store C_Uploads C_Registry C_Refused C_Malformed a_KINDS a_BELOW a_CLAIMED := ⟨⟨pg_Claims, hd_Claims, po_Claims, sa_Claims⟩,
    na_Claims_last,
    na_Claims_pins,
    ⟨_, _, F_Claims___init__, ⟨mk_Claims, a_Claims___init__, i_Claims___init__, kc_Claims⟩, PySem.W.mg_of X G a_Claims, b_Claims___init__⟩,
    ⟨_, _, F_Claims_begin, ⟨a_Claims_begin, i_Claims_begin, k_Claims_begin⟩, b_Claims_begin⟩,
    ⟨_, _, F_Claims_is_open, ⟨a_Claims_is_open, i_Claims_is_open, k_Claims_is_open⟩, b_Claims_is_open⟩,
    ⟨_, _, F_Claims_pin, ⟨a_Claims_pin, i_Claims_pin, k_Claims_pin⟩, b_Claims_pin⟩,
    ⟨_, _, F_Claims_end, ⟨a_Claims_end, i_Claims_end, k_Claims_end⟩, b_Claims_end⟩,
    ⟨_, _, F_Claims_numbers, ⟨a_Claims_numbers, i_Claims_numbers, k_Claims_numbers⟩, b_Claims_numbers⟩,
    ⟨_, _, F_Claims_pinned, ⟨a_Claims_pinned, i_Claims_pinned, k_Claims_pinned⟩, b_Claims_pinned⟩,
    ⟨pg_Collector, hd_Collector, po_Collector, sa_Collector⟩,
    na_Collector_store,
    na_Collector_phase,
    na_Collector_marked,
    na_Collector_todo,
    na_Collector_doomed,
    ⟨_, _, F_Collector___init__, ⟨mk_Collector, a_Collector___init__, i_Collector___init__, kc_Collector⟩, PySem.W.mg_of X G a_Collector, b_Collector___init__⟩,
    ⟨_, _, F_Collector_stop, ⟨a_Collector_stop, i_Collector_stop, k_Collector_stop⟩, b_Collector_stop⟩,
    ⟨_, _, F_Collector_shade, ⟨a_Collector_shade, i_Collector_shade, k_Collector_shade⟩, b_Collector_shade⟩,
    ⟨_, _, F_Collector_step, ⟨a_Collector_step, i_Collector_step, k_Collector_step⟩, b_Collector_step⟩,
    ⟨_, _, F_Collector_mark_one, ⟨a_Collector_mark_one, i_Collector_mark_one, k_Collector_mark_one⟩, b_Collector_mark_one⟩,
    ⟨_, _, F_Collector_sweep_one, ⟨a_Collector_sweep_one, i_Collector_sweep_one, k_Collector_sweep_one⟩, b_Collector_sweep_one⟩,
    ⟨pg_Store, hd_Store, po_Store, sa_Store⟩,
    na_Store_blobs,
    ⟨_, _, F_Store___init__, ⟨mk_Store, a_Store___init__, i_Store___init__, kc_Store⟩, PySem.W.mg_of X G a_Store, b_Store___init__⟩,
    ⟨_, _, F_Store_keep, ⟨a_Store_keep, i_Store_keep, k_Store_keep⟩, b_Store_keep⟩,
    ⟨_, _, F_Store_blob, ⟨a_Store_blob, i_Store_blob, k_Store_blob⟩, b_Store_blob⟩,
    ⟨_, _, F_Store_remove_blob, ⟨a_Store_remove_blob, i_Store_remove_blob, k_Store_remove_blob⟩, b_Store_remove_blob⟩,
    ⟨_, _, F_Store_addresses, ⟨a_Store_addresses, i_Store_addresses, k_Store_addresses⟩, b_Store_addresses⟩,
    ⟨_, _, F_Store_below, ⟨a_Store_below, i_Store_below, k_Store_below⟩, b_Store_below⟩,
    ⟨_, _, F_Store_is_whole, ⟨a_Store_is_whole, i_Store_is_whole, k_Store_is_whole⟩, b_Store_is_whole⟩,
    ⟨_, _, F_Store_closure, ⟨a_Store_closure, i_Store_closure, k_Store_closure⟩, b_Store_closure⟩,
    ⟨pg_Uploads, hd_Uploads, po_Uploads, sa_Uploads⟩,
    na_Uploads_last,
    na_Uploads_texts,
    ⟨_, _, F_Uploads___init__, ⟨mk_Uploads, a_Uploads___init__, i_Uploads___init__, kc_Uploads⟩, PySem.W.mg_of X G a_Uploads, b_Uploads___init__⟩,
    ⟨_, _, F_Uploads_begin, ⟨a_Uploads_begin, i_Uploads_begin, k_Uploads_begin⟩, b_Uploads_begin⟩,
    ⟨_, _, F_Uploads_add_part, ⟨a_Uploads_add_part, i_Uploads_add_part, k_Uploads_add_part⟩, b_Uploads_add_part⟩,
    ⟨_, _, F_Uploads_finish, ⟨a_Uploads_finish, i_Uploads_finish, k_Uploads_finish⟩, b_Uploads_finish⟩,
    ⟨_, _, F_Uploads_forget, ⟨a_Uploads_forget, i_Uploads_forget, k_Uploads_forget⟩, b_Uploads_forget⟩,
    ⟨pg_Registry, hd_Registry, po_Registry, sa_Registry⟩,
    na_Registry_store,
    na_Registry_names,
    na_Registry_claims,
    na_Registry_uploads,
    na_Registry_collector,
    ⟨_, _, F_Registry___init__, ⟨mk_Registry, a_Registry___init__, i_Registry___init__, kc_Registry⟩, PySem.W.mg_of X G a_Registry, b_Registry___init__⟩,
    ⟨_, _, F_Registry_answer, ⟨a_Registry_answer, i_Registry_answer, k_Registry_answer⟩, b_Registry_answer⟩,
    ⟨_, _, F_Registry_answer_plain, ⟨a_Registry_answer_plain, i_Registry_answer_plain, k_Registry_answer_plain⟩, b_Registry_answer_plain⟩,
    ⟨_, _, F_Registry_kept, ⟨a_Registry_kept, i_Registry_kept, k_Registry_kept⟩, b_Registry_kept⟩,
    ⟨_, _, F_Registry_answer_has, ⟨a_Registry_answer_has, i_Registry_answer_has, k_Registry_answer_has⟩, b_Registry_answer_has⟩,
    ⟨_, _, F_Registry_answer_part, ⟨a_Registry_answer_part, i_Registry_answer_part, k_Registry_answer_part⟩, b_Registry_answer_part⟩,
    ⟨_, _, F_Registry_answer_finish, ⟨a_Registry_answer_finish, i_Registry_answer_finish, k_Registry_answer_finish⟩, b_Registry_answer_finish⟩,
    ⟨_, _, F_Registry_answer_put, ⟨a_Registry_answer_put, i_Registry_answer_put, k_Registry_answer_put⟩, b_Registry_answer_put⟩,
    ⟨_, _, F_Registry_answer_name, ⟨a_Registry_answer_name, i_Registry_answer_name, k_Registry_answer_name⟩, b_Registry_answer_name⟩,
    ⟨_, _, F_Registry_answer_get, ⟨a_Registry_answer_get, i_Registry_answer_get, k_Registry_answer_get⟩, b_Registry_answer_get⟩,
    ⟨_, _, F_Registry_drop_name, ⟨a_Registry_drop_name, i_Registry_drop_name, k_Registry_drop_name⟩, b_Registry_drop_name⟩,
    ⟨_, _, F_Registry_lapse, ⟨a_Registry_lapse, i_Registry_lapse, k_Registry_lapse⟩, b_Registry_lapse⟩,
    ⟨_, _, F_Registry_fall, ⟨a_Registry_fall, i_Registry_fall, k_Registry_fall⟩, b_Registry_fall⟩,
    ⟨_, _, F_Registry_roots, ⟨a_Registry_roots, i_Registry_roots, k_Registry_roots⟩, b_Registry_roots⟩,
    ⟨_, _, F_Registry_collect, ⟨a_Registry_collect, i_Registry_collect, k_Registry_collect⟩, b_Registry_collect⟩,
    PySem.W.mg_of X G a_Refused,
    PySem.W.mg_of X G a_Malformed,
    ⟨⟨_, _, _, _, _, _, _, _, _, _, _, _, _, _, _, xL_Malformed, by first | decide +kernel | rfl | (unfold PySem.HandSPX.refsVE; decide +kernel) | (simp only [PySem.HandSPX.refsVE]; decide +kernel)⟩, sa_Malformed, eC_Malformed, tC_Malformed, kC_Malformed⟩,
    ⟨ga_Malformed, gg_Malformed, eC_Malformed, hC_Malformed⟩,
    ⟨iC_Malformed, ga_Malformed, gg_Malformed, eC_Malformed, hk_Malformed, hn_obj, ht_obj, hm_Malformed⟩,
    exm_self eC_Malformed iC_Malformed tC_Malformed sC_Malformed,
    na_Malformed_line,
    ⟨_, _, F_Malformed___init__, a_Malformed___init__, t_Malformed___init__, PySem.W.mg_of X G a_Malformed, b_Malformed___init__⟩,
    ⟨_, _, F_address_of, PySem.W.mg_of X G a_address_of, b_address_of⟩,
    ⟨_, _, F_is_address, PySem.W.mg_of X G a_is_address, b_is_address⟩,
    ⟨_, _, F_image_text, PySem.W.mg_of X G a_image_text, b_image_text⟩,
    ⟨_, _, F_bundle_text, PySem.W.mg_of X G a_bundle_text, b_bundle_text⟩,
    ⟨_, _, F_lines_of, PySem.W.mg_of X G a_lines_of, b_lines_of⟩,
    ⟨_, _, F_read_image, PySem.W.mg_of X G a_read_image, b_read_image⟩,
    ⟨_, _, F_is_platform, PySem.W.mg_of X G a_is_platform, b_is_platform⟩,
    ⟨_, _, F_read_bundle, PySem.W.mg_of X G a_read_bundle, b_read_bundle⟩,
    ⟨_, _, F_references, PySem.W.mg_of X G a_references, b_references⟩,
    ⟨_, _, F__law_state, PySem.W.mg_of X G a__law_state, b__law_state⟩,
    ⟨_, _, F__law_take, PySem.W.mg_of X G a__law_take, b__law_take⟩,
    ⟨_, _, F__law_text, PySem.W.mg_of X G a__law_text, b__law_text⟩,
    ⟨_, _, F__law_goods, PySem.W.mg_of X G a__law_goods, b__law_goods⟩,
    ⟨_, _, F__law_clash, PySem.W.mg_of X G a__law_clash, b__law_clash⟩,
    ⟨_, _, F__law_goods_clash, PySem.W.mg_of X G a__law_goods_clash, b__law_goods_clash⟩,
    ⟨_, _, F__law_upload, PySem.W.mg_of X G a__law_upload, b__law_upload⟩,
    ⟨_, _, F__law_request, PySem.W.mg_of X G a__law_request, b__law_request⟩,
    ⟨_, _, F__law_below, PySem.W.mg_of X G a__law_below, b__law_below⟩,
    ⟨_, _, F__law_whole, PySem.W.mg_of X G a__law_whole, b__law_whole⟩,
    ⟨_, _, F__law_sound, PySem.W.mg_of X G a__law_sound, b__law_sound⟩,
    PySem.W.mg_none_of X G z_abs,
    PySem.W.mg_none_of X G z_int,
    PySem.W.mg_none_of X G z_len,
    PySem.W.mg_none_of X G z_list,
    PySem.W.mg_none_of X G z_ord,
    PySem.W.mg_none_of X G z_range,
    PySem.W.mg_none_of X G z_sorted,
    ⟨_, PySem.W.mg_of X G v_DIGITS, ⟨_, rfl⟩⟩,
    ⟨_, PySem.W.mg_of X G v_LETTERS, ⟨_, rfl⟩⟩,
    ⟨_, PySem.W.mg_of X G v_MAX_LINES, ⟨_, rfl⟩⟩,
    ⟨_, PySem.W.mg_of X G v_PRIME, ⟨_, rfl⟩⟩,
    ⟨_, PySem.W.mg_of X G v_KINDS, rfl⟩,
    ⟨_, _, _, at_KINDS, rfl, rfl, rfl, sz_KINDS, vl_KINDS⟩,
    ⟨_, PySem.W.mg_of X G v_BELOW, rfl⟩,
    ⟨_, _, _, at_BELOW, lit_BELOW, p_below1, ⟨_, rfl⟩⟩,
    ⟨_, _, _, at_BELOW, lit_BELOW, p_below2, ⟨_, rfl⟩⟩,
    ⟨_, PySem.W.mg_of X G v_CLAIMED, rfl⟩,
    ⟨_, _, _, at_CLAIMED, rfl, rfl, rfl, sz_CLAIMED, vl_CLAIMED⟩⟩
  exact ⟨PySem.W.fnOf "law" "law" (defArgs s_law) (defBody s_law) (defScope s_law) .none kV_law dc_law pm_law an_law cd_law ct_law, fun s v => .of_eq rfl, fun base _ _ => ok_law T F_law⟩
theorem walk {l : PySem.W.OpenLaw} {q : Program} {loose : List Str} {XP : (Str → Option Value) → Heap → Prop} {YP : World → Heap → Prop} {d : DefRec} {K : Params → PySem.W.Frag} (hn : l.most = some 63) (hdf : d.params.defaults = [])
    (hY : ∀ (w : World) (h : Heap), YP w h → (K w.params).In h)
    (F : ∀ (w : World) (mg : Str → Option Value) (fa : Addr) (h : Heap), (K w.params).In h → h.Ns mainGlobals mg → mg d.name = some (.ref fa) →
      ∃ fd : FuncData, (∀ (s : Shared) (u : Value), BindsTo s fd ⟨[u], []⟩ [("_law_script", u)]) ∧ ∀ base : Heap, (K w.params).In base → base.Ns mainGlobals mg → FnOk l.prog w (K w.params) mg base CX0 16 fa fd ["_law_script"] (spLaw (K w.params))) :
    PySem.W.WalkO q loose XP YP l.row.toRowW d [] (fun f vs => PySem.call f vs) :=
  L2.walk_of (n := 63) (k := 16) (x := "_law_script") (CX := fun _ => CX0) (sp := fun w => spLaw (K w.params)) hn (by decide) hdf ⟨rfl, by decide, by decide⟩ hY F (fun _ _ a ns hl _ hS => ⟨a, ns, rfl, hS, hl, fun _ => rfl⟩) fun _ _ _ _ _ z => z
end Lw
open PySem PySem.W PyProof.Rows
set_option maxRecDepth 100000 in
set_option maxHeartbeats 0 in
theorem PySem.Challenge.cw_layerwharf_k07_roots_stay_whole_holds : PySem.Challenge.rw_layerwharf_k07_roots_stay_whole.Holds := by
  w_on; o_law; k_head; (case hw => w_witness2)
  k_fill
  refine Lw.walk (l := PySem.Challenge.rw_layerwharf_k07_roots_stay_whole) rfl rfl (fun w h Y => PySem.W.kIn_of Y) ?F
  case F =>
    intro w mg fa h KX G hmg
    refine' Lw.all_mk KX G hmg ?a_Claims ?pg_Claims ?hd_Claims ?po_Claims ?sa_Claims ?mk_Claims ?kc_Claims ?na_Claims_last ?na_Claims_pins ?a_Claims___init__ ?i_Claims___init__ ?l_Claims___init__ ?c_Claims___init__ ?k_Claims___init__ ?a_Claims_begin ?i_Claims_begin ?l_Claims_begin ?c_Claims_begin ?k_Claims_begin ?a_Claims_is_open ?i_Claims_is_open ?l_Claims_is_open ?c_Claims_is_open ?k_Claims_is_open ?a_Claims_pin ?i_Claims_pin ?l_Claims_pin ?c_Claims_pin ?k_Claims_pin ?a_Claims_end ?i_Claims_end ?l_Claims_end ?c_Claims_end ?k_Claims_end ?a_Claims_numbers ?i_Claims_numbers ?l_Claims_numbers ?c_Claims_numbers ?k_Claims_numbers ?a_Claims_pinned ?i_Claims_pinned ?l_Claims_pinned ?c_Claims_pinned ?k_Claims_pinned ?a_Collector ?pg_Collector ?hd_Collector ?po_Collector ?sa_Collector ?mk_Collector ?kc_Collector ?na_Collector_store ?na_Collector_phase ?na_Collector_marked ?na_Collector_todo ?na_Collector_doomed ?a_Collector___init__ ?i_Collector___init__ ?l_Collector___init__ ?c_Collector___init__ ?k_Collector___init__ ?a_Collector_stop ?i_Collector_stop ?l_Collector_stop ?c_Collector_stop ?k_Collector_stop ?a_Collector_shade ?i_Collector_shade ?l_Collector_shade ?c_Collector_shade ?k_Collector_shade ?a_Collector_step ?i_Collector_step ?l_Collector_step ?c_Collector_step ?k_Collector_step ?a_Collector_mark_one ?i_Collector_mark_one ?l_Collector_mark_one ?c_Collector_mark_one ?k_Collector_mark_one ?a_Collector_sweep_one ?i_Collector_sweep_one ?l_Collector_sweep_one ?c_Collector_sweep_one ?k_Collector_sweep_one ?a_Store ?pg_Store ?hd_Store ?po_Store ?sa_Store ?mk_Store ?kc_Store ?na_Store_blobs ?a_Store___init__ ?i_Store___init__ ?l_Store___init__ ?c_Store___init__ ?k_Store___init__ ?a_Store_keep ?i_Store_keep ?l_Store_keep ?c_Store_keep ?k_Store_keep ?a_Store_blob ?i_Store_blob ?l_Store_blob ?c_Store_blob ?k_Store_blob ?a_Store_remove_blob ?i_Store_remove_blob ?l_Store_remove_blob ?c_Store_remove_blob ?k_Store_remove_blob ?a_Store_addresses ?i_Store_addresses ?l_Store_addresses ?c_Store_addresses ?k_Store_addresses ?a_Store_below ?i_Store_below ?l_Store_below ?c_Store_below ?k_Store_below ?a_Store_is_whole ?i_Store_is_whole ?l_Store_is_whole ?c_Store_is_whole ?k_Store_is_whole ?a_Store_closure ?i_Store_closure ?l_Store_closure ?c_Store_closure ?k_Store_closure ?a_Uploads ?pg_Uploads ?hd_Uploads ?po_Uploads ?sa_Uploads ?mk_Uploads ?kc_Uploads ?na_Uploads_last ?na_Uploads_texts ?a_Uploads___init__ ?i_Uploads___init__ ?l_Uploads___init__ ?c_Uploads___init__ ?k_Uploads___init__ ?a_Uploads_begin ?i_Uploads_begin ?l_Uploads_begin ?c_Uploads_begin ?k_Uploads_begin ?a_Uploads_add_part ?i_Uploads_add_part ?l_Uploads_add_part ?c_Uploads_add_part ?k_Uploads_add_part ?a_Uploads_finish ?i_Uploads_finish ?l_Uploads_finish ?c_Uploads_finish ?k_Uploads_finish ?a_Uploads_forget ?i_Uploads_forget ?l_Uploads_forget ?c_Uploads_forget ?k_Uploads_forget ?a_Registry ?pg_Registry ?hd_Registry ?po_Registry ?sa_Registry ?mk_Registry ?kc_Registry ?na_Registry_store ?na_Registry_names ?na_Registry_claims ?na_Registry_uploads ?na_Registry_collector ?a_Registry___init__ ?i_Registry___init__ ?l_Registry___init__ ?c_Registry___init__ ?k_Registry___init__ ?a_Registry_answer ?i_Registry_answer ?l_Registry_answer ?c_Registry_answer ?k_Registry_answer ?a_Registry_answer_plain ?i_Registry_answer_plain ?l_Registry_answer_plain ?c_Registry_answer_plain ?k_Registry_answer_plain ?a_Registry_kept ?i_Registry_kept ?l_Registry_kept ?c_Registry_kept ?k_Registry_kept ?a_Registry_answer_has ?i_Registry_answer_has ?l_Registry_answer_has ?c_Registry_answer_has ?k_Registry_answer_has ?a_Registry_answer_part ?i_Registry_answer_part ?l_Registry_answer_part ?c_Registry_answer_part ?k_Registry_answer_part ?a_Registry_answer_finish ?i_Registry_answer_finish ?l_Registry_answer_finish ?c_Registry_answer_finish ?k_Registry_answer_finish ?a_Registry_answer_put ?i_Registry_answer_put ?l_Registry_answer_put ?c_Registry_answer_put ?k_Registry_answer_put ?a_Registry_answer_name ?i_Registry_answer_name ?l_Registry_answer_name ?c_Registry_answer_name ?k_Registry_answer_name ?a_Registry_answer_get ?i_Registry_answer_get ?l_Registry_answer_get ?c_Registry_answer_get ?k_Registry_answer_get ?a_Registry_drop_name ?i_Registry_drop_name ?l_Registry_drop_name ?c_Registry_drop_name ?k_Registry_drop_name ?a_Registry_lapse ?i_Registry_lapse ?l_Registry_lapse ?c_Registry_lapse ?k_Registry_lapse ?a_Registry_fall ?i_Registry_fall ?l_Registry_fall ?c_Registry_fall ?k_Registry_fall ?a_Registry_roots ?i_Registry_roots ?l_Registry_roots ?c_Registry_roots ?k_Registry_roots ?a_Registry_collect ?i_Registry_collect ?l_Registry_collect ?c_Registry_collect ?k_Registry_collect ?a_Refused ?a_Malformed ?xL_Malformed ?sa_Malformed ?ga_Malformed ?gg_Malformed ?kC_Malformed ?eC_Malformed ?tC_Malformed ?hC_Malformed ?iC_Malformed ?sC_Malformed ?hk_Malformed ?hm_Malformed ?na_Malformed_line ?a_Malformed___init__ ?t_Malformed___init__ ?l_Malformed___init__ ?c_Malformed___init__ ?k_Malformed___init__ ?hn_obj ?ht_obj ?a_address_of ?l_address_of ?c_address_of ?k_address_of ?a_is_address ?l_is_address ?c_is_address ?k_is_address ?a_image_text ?l_image_text ?c_image_text ?k_image_text ?a_bundle_text ?l_bundle_text ?c_bundle_text ?k_bundle_text ?a_lines_of ?l_lines_of ?c_lines_of ?k_lines_of ?a_read_image ?l_read_image ?c_read_image ?k_read_image ?a_is_platform ?l_is_platform ?c_is_platform ?k_is_platform ?a_read_bundle ?l_read_bundle ?c_read_bundle ?k_read_bundle ?a_references ?l_references ?c_references ?k_references ?a__law_state ?l__law_state ?c__law_state ?k__law_state ?a__law_take ?l__law_take ?c__law_take ?k__law_take ?a__law_text ?l__law_text ?c__law_text ?k__law_text ?a__law_goods ?l__law_goods ?c__law_goods ?k__law_goods ?a__law_clash ?l__law_clash ?c__law_clash ?k__law_clash ?a__law_goods_clash ?l__law_goods_clash ?c__law_goods_clash ?k__law_goods_clash ?a__law_upload ?l__law_upload ?c__law_upload ?k__law_upload ?a__law_request ?l__law_request ?c__law_request ?k__law_request ?a__law_below ?l__law_below ?c__law_below ?k__law_below ?a__law_whole ?l__law_whole ?c__law_whole ?k__law_whole ?a__law_sound ?l__law_sound ?c__law_sound ?k__law_sound ?a_law ?l_law ?c_law ?k_law ?z_abs ?z_int ?z_len ?z_list ?z_ord ?z_range ?z_sorted ?v_DIGITS ?v_LETTERS ?v_MAX_LINES ?v_PRIME ?v_KINDS ?at_KINDS ?vl_KINDS ?sz_KINDS ?v_BELOW ?at_BELOW ?p_below1 ?p_below2 ?lit_BELOW ?v_CLAIMED ?at_CLAIMED ?vl_CLAIMED ?sz_CLAIMED
    (case a_Claims => k_is)
    (case pg_Claims => k_is)
    (case hd_Claims => k_is)
    (case po_Claims => k_is)
    (case sa_Claims => k_is)
    (case mk_Claims => k_is)
    (case kc_Claims => k_is)
    (case na_Claims_last => k_is)
    (case na_Claims_pins => k_is)
    (case a_Claims___init__ => k_is)
    (case i_Claims___init__ => k_is)
    (case l_Claims___init__ => k_is)
    (case c_Claims___init__ => k_is)
    (case k_Claims___init__ => k_is)
    (case a_Claims_begin => k_is)
    (case i_Claims_begin => k_is)
    (case l_Claims_begin => k_is)
    (case c_Claims_begin => k_is)
    (case k_Claims_begin => k_is)
    (case a_Claims_is_open => k_is)
    (case i_Claims_is_open => k_is)
    (case l_Claims_is_open => k_is)
    (case c_Claims_is_open => k_is)
    (case k_Claims_is_open => k_is)
    (case a_Claims_pin => k_is)
    (case i_Claims_pin => k_is)
    (case l_Claims_pin => k_is)
    (case c_Claims_pin => k_is)
    (case k_Claims_pin => k_is)
    (case a_Claims_end => k_is)
    (case i_Claims_end => k_is)
    (case l_Claims_end => k_is)
    (case c_Claims_end => k_is)
    (case k_Claims_end => k_is)
    (case a_Claims_numbers => k_is)
    (case i_Claims_numbers => k_is)
    (case l_Claims_numbers => k_is)
    (case c_Claims_numbers => k_is)
    (case k_Claims_numbers => k_is)
    (case a_Claims_pinned => k_is)
    (case i_Claims_pinned => k_is)
    (case l_Claims_pinned => k_is)
    (case c_Claims_pinned => k_is)
    (case k_Claims_pinned => k_is)
    (case a_Collector => k_is)
    (case pg_Collector => k_is)
    (case hd_Collector => k_is)
    (case po_Collector => k_is)
    (case sa_Collector => k_is)
    (case mk_Collector => k_is)
    (case kc_Collector => k_is)
    (case na_Collector_store => k_is)
    (case na_Collector_phase => k_is)
    (case na_Collector_marked => k_is)
    (case na_Collector_todo => k_is)
    (case na_Collector_doomed => k_is)
    (case a_Collector___init__ => k_is)
    (case i_Collector___init__ => k_is)
    (case l_Collector___init__ => k_is)
    (case c_Collector___init__ => k_is)
    (case k_Collector___init__ => k_is)
    (case a_Collector_stop => k_is)
    (case i_Collector_stop => k_is)
    (case l_Collector_stop => k_is)
    (case c_Collector_stop => k_is)
    (case k_Collector_stop => k_is)
    (case a_Collector_shade => k_is)
    (case i_Collector_shade => k_is)
    (case l_Collector_shade => k_is)
    (case c_Collector_shade => k_is)
    (case k_Collector_shade => k_is)
    (case a_Collector_step => k_is)
    (case i_Collector_step => k_is)
    (case l_Collector_step => k_is)
    (case c_Collector_step => k_is)
    (case k_Collector_step => k_is)
    (case a_Collector_mark_one => k_is)
    (case i_Collector_mark_one => k_is)
    (case l_Collector_mark_one => k_is)
    (case c_Collector_mark_one => k_is)
    (case k_Collector_mark_one => k_is)
    (case a_Collector_sweep_one => k_is)
    (case i_Collector_sweep_one => k_is)
    (case l_Collector_sweep_one => k_is)
    (case c_Collector_sweep_one => k_is)
    (case k_Collector_sweep_one => k_is)
    (case a_Store => k_is)
    (case pg_Store => k_is)
    (case hd_Store => k_is)
    (case po_Store => k_is)
    (case sa_Store => k_is)
    (case mk_Store => k_is)
    (case kc_Store => k_is)
    (case na_Store_blobs => k_is)
    (case a_Store___init__ => k_is)
    (case i_Store___init__ => k_is)
    (case l_Store___init__ => k_is)
    (case c_Store___init__ => k_is)
    (case k_Store___init__ => k_is)
    (case a_Store_keep => k_is)
    (case i_Store_keep => k_is)
    (case l_Store_keep => k_is)
    (case c_Store_keep => k_is)
    (case k_Store_keep => k_is)
    (case a_Store_blob => k_is)
    (case i_Store_blob => k_is)
    (case l_Store_blob => k_is)
    (case c_Store_blob => k_is)
    (case k_Store_blob => k_is)
    (case a_Store_remove_blob => k_is)
    (case i_Store_remove_blob => k_is)
    (case l_Store_remove_blob => k_is)
    (case c_Store_remove_blob => k_is)
    (case k_Store_remove_blob => k_is)
    (case a_Store_addresses => k_is)
    (case i_Store_addresses => k_is)
    (case l_Store_addresses => k_is)
    (case c_Store_addresses => k_is)
    (case k_Store_addresses => k_is)
    (case a_Store_below => k_is)
    (case i_Store_below => k_is)
    (case l_Store_below => k_is)
    (case c_Store_below => k_is)
    (case k_Store_below => k_is)
    (case a_Store_is_whole => k_is)
    (case i_Store_is_whole => k_is)
    (case l_Store_is_whole => k_is)
    (case c_Store_is_whole => k_is)
    (case k_Store_is_whole => k_is)
    (case a_Store_closure => k_is)
    (case i_Store_closure => k_is)
    (case l_Store_closure => k_is)
    (case c_Store_closure => k_is)
    (case k_Store_closure => k_is)
    (case a_Uploads => k_is)
    (case pg_Uploads => k_is)
    (case hd_Uploads => k_is)
    (case po_Uploads => k_is)
    (case sa_Uploads => k_is)
    (case mk_Uploads => k_is)
    (case kc_Uploads => k_is)
    (case na_Uploads_last => k_is)
    (case na_Uploads_texts => k_is)
    (case a_Uploads___init__ => k_is)
    (case i_Uploads___init__ => k_is)
    (case l_Uploads___init__ => k_is)
    (case c_Uploads___init__ => k_is)
    (case k_Uploads___init__ => k_is)
    (case a_Uploads_begin => k_is)
    (case i_Uploads_begin => k_is)
    (case l_Uploads_begin => k_is)
    (case c_Uploads_begin => k_is)
    (case k_Uploads_begin => k_is)
    (case a_Uploads_add_part => k_is)
    (case i_Uploads_add_part => k_is)
    (case l_Uploads_add_part => k_is)
    (case c_Uploads_add_part => k_is)
    (case k_Uploads_add_part => k_is)
    (case a_Uploads_finish => k_is)
    (case i_Uploads_finish => k_is)
    (case l_Uploads_finish => k_is)
    (case c_Uploads_finish => k_is)
    (case k_Uploads_finish => k_is)
    (case a_Uploads_forget => k_is)
    (case i_Uploads_forget => k_is)
    (case l_Uploads_forget => k_is)
    (case c_Uploads_forget => k_is)
    (case k_Uploads_forget => k_is)
    (case a_Registry => k_is)
    (case pg_Registry => k_is)
    (case hd_Registry => k_is)
    (case po_Registry => k_is)
    (case sa_Registry => k_is)
    (case mk_Registry => k_is)
    (case kc_Registry => k_is)
    (case na_Registry_store => k_is)
    (case na_Registry_names => k_is)
    (case na_Registry_claims => k_is)
    (case na_Registry_uploads => k_is)
    (case na_Registry_collector => k_is)
    (case a_Registry___init__ => k_is)
    (case i_Registry___init__ => k_is)
    (case l_Registry___init__ => k_is)
    (case c_Registry___init__ => k_is)
    (case k_Registry___init__ => k_is)
    (case a_Registry_answer => k_is)
    (case i_Registry_answer => k_is)
    (case l_Registry_answer => k_is)
    (case c_Registry_answer => k_is)
    (case k_Registry_answer => k_is)
    (case a_Registry_answer_plain => k_is)
    (case i_Registry_answer_plain => k_is)
    (case l_Registry_answer_plain => k_is)
    (case c_Registry_answer_plain => k_is)
    (case k_Registry_answer_plain => k_is)
    (case a_Registry_kept => k_is)
    (case i_Registry_kept => k_is)
    (case l_Registry_kept => k_is)
    (case c_Registry_kept => k_is)
    (case k_Registry_kept => k_is)
    (case a_Registry_answer_has => k_is)
    (case i_Registry_answer_has => k_is)
    (case l_Registry_answer_has => k_is)
    (case c_Registry_answer_has => k_is)
    (case k_Registry_answer_has => k_is)
    (case a_Registry_answer_part => k_is)
    (case i_Registry_answer_part => k_is)
    (case l_Registry_answer_part => k_is)
    (case c_Registry_answer_part => k_is)
    (case k_Registry_answer_part => k_is)
    (case a_Registry_answer_finish => k_is)
    (case i_Registry_answer_finish => k_is)
    (case l_Registry_answer_finish => k_is)
    (case c_Registry_answer_finish => k_is)
    (case k_Registry_answer_finish => k_is)
    (case a_Registry_answer_put => k_is)
    (case i_Registry_answer_put => k_is)
    (case l_Registry_answer_put => k_is)
    (case c_Registry_answer_put => k_is)
    (case k_Registry_answer_put => k_is)
    (case a_Registry_answer_name => k_is)
    (case i_Registry_answer_name => k_is)
    (case l_Registry_answer_name => k_is)
    (case c_Registry_answer_name => k_is)
    (case k_Registry_answer_name => k_is)
    (case a_Registry_answer_get => k_is)
    (case i_Registry_answer_get => k_is)
    (case l_Registry_answer_get => k_is)
    (case c_Registry_answer_get => k_is)
    (case k_Registry_answer_get => k_is)
    (case a_Registry_drop_name => k_is)
    (case i_Registry_drop_name => k_is)
    (case l_Registry_drop_name => k_is)
    (case c_Registry_drop_name => k_is)
    (case k_Registry_drop_name => k_is)
    (case a_Registry_lapse => k_is)
    (case i_Registry_lapse => k_is)
    (case l_Registry_lapse => k_is)
    (case c_Registry_lapse => k_is)
    (case k_Registry_lapse => k_is)
    (case a_Registry_fall => k_is)
    (case i_Registry_fall => k_is)
    (case l_Registry_fall => k_is)
    (case c_Registry_fall => k_is)
    (case k_Registry_fall => k_is)
    (case a_Registry_roots => k_is)
    (case i_Registry_roots => k_is)
    (case l_Registry_roots => k_is)
    (case c_Registry_roots => k_is)
    (case k_Registry_roots => k_is)
    (case a_Registry_collect => k_is)
    (case i_Registry_collect => k_is)
    (case l_Registry_collect => k_is)
    (case c_Registry_collect => k_is)
    (case k_Registry_collect => k_is)
    (case a_Refused => k_is)
    (case a_Malformed => k_is)
    (case xL_Malformed => k_is)
    (case sa_Malformed => k_is)
    (case ga_Malformed => k_is)
    (case gg_Malformed => k_is)
    (case kC_Malformed => k_is)
    (case eC_Malformed => k_is)
    (case tC_Malformed => k_is)
    (case hC_Malformed => k_is)
    (case iC_Malformed => k_is)
    (case sC_Malformed => first | rfl | k_is)
    (case hk_Malformed => k_is)
    (case hm_Malformed => k_is)
    (case na_Malformed_line => k_is)
    (case a_Malformed___init__ => k_is)
    (case t_Malformed___init__ => k_is)
    (case l_Malformed___init__ => k_is)
    (case c_Malformed___init__ => k_is)
    (case k_Malformed___init__ => k_is)
    (case hn_obj => k_is)
    (case ht_obj => k_is)
    (case a_address_of => k_is)
    (case l_address_of => k_is)
    (case c_address_of => k_is)
    (case k_address_of => k_is)
    (case a_is_address => k_is)
    (case l_is_address => k_is)
    (case c_is_address => k_is)
    (case k_is_address => k_is)
    (case a_image_text => k_is)
    (case l_image_text => k_is)
    (case c_image_text => k_is)
    (case k_image_text => k_is)
    (case a_bundle_text => k_is)
    (case l_bundle_text => k_is)
    (case c_bundle_text => k_is)
    (case k_bundle_text => k_is)
    (case a_lines_of => k_is)
    (case l_lines_of => k_is)
    (case c_lines_of => k_is)
    (case k_lines_of => k_is)
    (case a_read_image => k_is)
    (case l_read_image => k_is)
    (case c_read_image => k_is)
    (case k_read_image => k_is)
    (case a_is_platform => k_is)
    (case l_is_platform => k_is)
    (case c_is_platform => k_is)
    (case k_is_platform => k_is)
    (case a_read_bundle => k_is)
    (case l_read_bundle => k_is)
    (case c_read_bundle => k_is)
    (case k_read_bundle => k_is)
    (case a_references => k_is)
    (case l_references => k_is)
    (case c_references => k_is)
    (case k_references => k_is)
    (case a__law_state => k_is)
    (case l__law_state => k_is)
    (case c__law_state => k_is)
    (case k__law_state => k_is)
    (case a__law_take => k_is)
    (case l__law_take => k_is)
    (case c__law_take => k_is)
    (case k__law_take => k_is)
    (case a__law_text => k_is)
    (case l__law_text => k_is)
    (case c__law_text => k_is)
    (case k__law_text => k_is)
    (case a__law_goods => k_is)
    (case l__law_goods => k_is)
    (case c__law_goods => k_is)
    (case k__law_goods => k_is)
    (case a__law_clash => k_is)
    (case l__law_clash => k_is)
    (case c__law_clash => k_is)
    (case k__law_clash => k_is)
    (case a__law_goods_clash => k_is)
    (case l__law_goods_clash => k_is)
    (case c__law_goods_clash => k_is)
    (case k__law_goods_clash => k_is)
    (case a__law_upload => k_is)
    (case l__law_upload => k_is)
    (case c__law_upload => k_is)
    (case k__law_upload => k_is)
    (case a__law_request => k_is)
    (case l__law_request => k_is)
    (case c__law_request => k_is)
    (case k__law_request => k_is)
    (case a__law_below => k_is)
    (case l__law_below => k_is)
    (case c__law_below => k_is)
    (case k__law_below => k_is)
    (case a__law_whole => k_is)
    (case l__law_whole => k_is)
    (case c__law_whole => k_is)
    (case k__law_whole => k_is)
    (case a__law_sound => k_is)
    (case l__law_sound => k_is)
    (case c__law_sound => k_is)
    (case k__law_sound => k_is)
    (case a_law => k_is)
    (case l_law => k_is)
    (case c_law => k_is)
    (case k_law => k_is)
    (case z_abs => k_is)
    (case z_int => k_is)
    (case z_len => k_is)
    (case z_list => k_is)
    (case z_ord => k_is)
    (case z_range => k_is)
    (case z_sorted => k_is)
    (case v_DIGITS => k_is)
    (case v_LETTERS => k_is)
    (case v_MAX_LINES => k_is)
    (case v_PRIME => k_is)
    (case v_KINDS => k_is)
    (case at_KINDS => k_is)
    (case vl_KINDS => exact .cons ⟨_, rfl⟩ (.cons ⟨_, rfl⟩ (.cons ⟨_, rfl⟩ .nil)))
    (case sz_KINDS => (show 3 ≤ sizeLine); decide)
    (case v_BELOW => k_is)
    (case at_BELOW => k_is)
    (case p_below1 => k_is)
    (case p_below2 => k_is)
    (case lit_BELOW => exact ⟨⟨_, _, rfl, rfl⟩, ⟨_, _, rfl, rfl⟩, trivial⟩)
    (case v_CLAIMED => k_is)
    (case at_CLAIMED => k_is)
    (case vl_CLAIMED => exact .cons ⟨_, rfl⟩ (.cons ⟨_, rfl⟩ (.cons ⟨_, rfl⟩ (.cons ⟨_, rfl⟩ .nil))))
    (case sz_CLAIMED => (show 4 ≤ sizeLine); decide)
