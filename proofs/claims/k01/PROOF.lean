import PyProof.Rows.All
import Wide.All
import OpenK.AllK
import Wide.FinOn
import HandS.ForMost
import HandS.TupAny
import HandS.More
import HandS.Style
import HandS.Conv
import HandS.Codes
import HandS.FStr
import HandS.IsInst
import HandS.Strs
import HandS.Replace
import PyProof.Rows.StrIntSpec
import HandS.Walk
import PySem.Challenge.RW_layerwharf_k01_addresses
set_option Elab.async false
set_option maxRecDepth 100000
set_option maxHeartbeats 4000000
set_option linter.all false
/-! ## words of our own, for every law -/
namespace Lw
open PySem L2
open PyProof.Rows (envOfC)

/-! ### what calls what -/
structure Cal (P : Program) (w : World) (K : PySem.W.Frag) (mg : Str → Option Value) (base : Heap) (k : Nat) (x : Str) (sp : Sp) : Prop where
  ex : ∃ (f : Addr) (fd : FuncData) (ps : List Str), FnOk P w K mg base CX0 k f fd ps sp ∧ mg x = some (.ref f) ∧ PySem.W.keepIn K (.ref f) = true ∧ Binds K fd ps []
structure Met (P : Program) (w : World) (K : PySem.W.Frag) (mg : Str → Option Value) (base : Heap) (k : Nat) (C : Addr) (m : Str) (sp : Sp) : Prop where
  ex : ∃ (f : Addr) (fd : FuncData) (ps : List Str), Cls K C ∧ Meth K C m f ∧ FnOk P w K mg base CX0 k f fd ps sp ∧ Binds K fd ps []
structure Mak (P : Program) (w : World) (K : PySem.W.Frag) (mg : Str → Option Value) (base : Heap) (k : Nat) (x : Str) (C : Addr) (sp : Sp) : Prop where
  ex : ∃ (f : Addr) (fd : FuncData) (ps : List Str), Mk K C f ∧ FnOk P w K mg base CX0 k f fd ps sp ∧ mg x = some (.ref C) ∧ Binds K fd ps []
/-- a def of the module -/
structure DefAt (K : PySem.W.Frag) (mg : Str → Option Value) (x : Str) (st : Stmt) (ps : List Str) : Prop where
  ex : ∃ (f : Addr) (fd : FuncData), Fun K x x st f fd ∧ mg x = some (.ref f) ∧ Binds K fd ps []
/-- a method of a class -/
structure MetAt (K : PySem.W.Frag) (C : Addr) (m qual : Str) (st : Stmt) (ps : List Str) : Prop where
  ex : ∃ (f : Addr) (fd : FuncData), Fun K m qual st f fd ∧ Meth K C m f ∧ Binds K fd ps []
/-- a class's __init__ -/
structure IniAt (K : PySem.W.Frag) (mg : Str → Option Value) (x : Str) (C : Addr) (qual : Str) (st : Stmt) (ps : List Str) : Prop where
  ex : ∃ (f : Addr) (fd : FuncData), Fun K "__init__" qual st f fd ∧ Mk K C f ∧ mg x = some (.ref C) ∧ Binds K fd ps []
section
variable {P : Program} {w : World} {K : PySem.W.Frag} {mg : Str → Option Value} {base : Heap}
theorem cal_mk {x : Str} {st : Stmt} {N ps : List Str} {k : Nat} {sp : Sp} (D : DefAt K mg x st ps) (S : FnScope N ps (defScope st)) (len : ∀ vs H Q E, sp vs H Q E → vs.length = ps.length)
    (hbody : ∀ (f : Addr) (cdv : Value) (A : Around) (outer : List Env) (s : Shared) (H : Hp) (vs : List V) (Q : VK) (E : XK), Room k (A.deeper (envOfC x (defScope st) s.heap.objs.size f cdv)) → sp vs H Q E →
      ∃ t, PSs (cxOf CX0 P w K mg base N x (defScope st) f cdv A outer s H E).nox (defBody st) t ∧ t { nx := fun _ H' => Q .non H', rt := Q } (start N vs) H) : Cal P w K mg base (k + 1) x sp := by
  obtain ⟨f, fd, F, hm, hb⟩ := D.ex
  exact ⟨f, fd, ps, F.ok S len fun cdv A outer s H vs Q E hr h => hbody f cdv A outer s H vs Q E hr h, hm, F.kp, hb⟩
theorem met_mk {m qual : Str} {C : Addr} {st : Stmt} {N ps : List Str} {k : Nat} {sp : Sp} (c : Cls K C) (D : MetAt K C m qual st ps) (S : FnScope N ps (defScope st)) (len : ∀ vs H Q E, sp vs H Q E → vs.length = ps.length)
    (hbody : ∀ (f : Addr) (cdv : Value) (A : Around) (outer : List Env) (s : Shared) (H : Hp) (vs : List V) (Q : VK) (E : XK), Room k (A.deeper (envOfC qual (defScope st) s.heap.objs.size f cdv)) → sp vs H Q E →
      ∃ t, PSs (cxOf CX0 P w K mg base N qual (defScope st) f cdv A outer s H E).nox (defBody st) t ∧ t { nx := fun _ H' => Q .non H', rt := Q } (start N vs) H) : Met P w K mg base (k + 1) C m sp := by
  obtain ⟨f, fd, F, hm, hb⟩ := D.ex
  exact ⟨f, fd, ps, c, hm, F.ok S len fun cdv A outer s H vs Q E hr h => hbody f cdv A outer s H vs Q E hr h, hb⟩
theorem mak_mk {x qual : Str} {C : Addr} {st : Stmt} {N ps : List Str} {k : Nat} {sp : Sp} (D : IniAt K mg x C qual st ps) (S : FnScope N ps (defScope st)) (len : ∀ vs H Q E, sp vs H Q E → vs.length = ps.length)
    (hbody : ∀ (f : Addr) (cdv : Value) (A : Around) (outer : List Env) (s : Shared) (H : Hp) (vs : List V) (Q : VK) (E : XK), Room k (A.deeper (envOfC qual (defScope st) s.heap.objs.size f cdv)) → sp vs H Q E →
      ∃ t, PSs (cxOf CX0 P w K mg base N qual (defScope st) f cdv A outer s H E).nox (defBody st) t ∧ t { nx := fun _ H' => Q .non H', rt := Q } (start N vs) H) : Mak P w K mg base (k + 1) x C sp := by
  obtain ⟨f, fd, F, M, hm, hb⟩ := D.ex
  exact ⟨f, fd, ps, M, F.ok S len fun cdv A outer s H vs Q E hr h => hbody f cdv A outer s H vs Q E hr h, hm, hb⟩
end
section
variable {X : Cx} {x m : Str} {C : Addr} {sp : Sp} {k j : Nat} {e o : Expr} {es : List Expr} {p pos apos : Pos} {ta : TE} {t : TA}
theorem pe_c (c : Cal X.prog X.w X.K X.mg X.base k x sp) (hr : Room j X.A) (hk : k ≤ j) (hg : Gl X x) (ha : PA X (e :: es) t)
    (hdb : (x == ("__debug__" : Str)) = false := by decide) (he : starEach (e :: es) X.env = (false, eval e X.env) :: starEach es X.env := by rfl) (hpl : (backTo pos (starEach es X.env)).any (·.1) = false := by rfl) :
    PE X (.Call (.Name x p) (e :: es) [] pos) (tCall sp [] E0 t) := by
  obtain ⟨f, fd, ps, F, hm, kp, b⟩ := c.ex
  exact pe_call F (hr.mono hk) hg hm kp b .nil pass0 ha hdb he hpl
theorem pe_mk (c : Mak X.prog X.w X.K X.mg X.base k x C sp) (hr : Room j X.A) (hk : k + 1 ≤ j) (hg : Gl X x) (ha : PA X (e :: es) t)
    (hdb : (x == ("__debug__" : Str)) = false := by decide) (he : starEach (e :: es) X.env = (false, eval e X.env) :: starEach es X.env := by rfl) (hpl : (backTo pos (starEach es X.env)).any (·.1) = false := by rfl) :
    PE X (.Call (.Name x p) (e :: es) [] pos) (tMake C sp [] E0 t) := by
  obtain ⟨f, fd, ps, M, F, hm, b⟩ := c.ex
  exact pe_make M F (hr.mono hk) hg hm b .nil pass0 ha hdb he hpl
theorem pe_mk0 (c : Mak X.prog X.w X.K X.mg X.base k x C sp) (hr : Room j X.A) (hk : k + 1 ≤ j) (hg : Gl X x) (hdb : (x == ("__debug__" : Str)) = false := by decide) :
    PE X (.Call (.Name x p) [] [] pos) (tMake C sp [] E0 tNil) := by
  obtain ⟨f, fd, ps, M, F, hm, b⟩ := c.ex
  exact pe_make0 M F (hr.mono hk) hg hm b .nil pass0 hdb
theorem pe_mt {pl : Sem Bool} (c : Met X.prog X.w X.K X.mg X.base k C m sp) (hr : Room j X.A) (hk : k ≤ j) (he : PE X o ta) (ha : PA X (e :: es) t)
    (hst : starEach (e :: es) X.env = (false, eval e X.env) :: starEach es X.env := by rfl) (hpl : (backTo pos (starEach es X.env)).any (·.1) = false := by rfl)
    (ht : eval (.Call (.Attribute o m apos) (e :: es) [] pos) X.env = (do
      let ov ← eval o X.env
      standAt apos.atName
      let (f, first) ← holding [ov] (getMethod ov m pl)
      callWith pos f first (backTo pos (starEach (e :: es) X.env)) (backToKw pos (keywordEach [] X.env))) := by rfl) :
    PE X (.Call (.Attribute o m apos) (e :: es) [] pos) (tMeth C m sp [] E0 ta t) := by
  obtain ⟨f, fd, ps, hc, hm, F, b⟩ := c.ex
  exact pe_meth (pl := pl) he hc hm F (hr.mono hk) b .nil pass0 ha hst hpl ht
theorem pe_mt0 {pl : Sem Bool} (c : Met X.prog X.w X.K X.mg X.base k C m sp) (hr : Room j X.A) (hk : k ≤ j) (he : PE X o ta)
    (ht : eval (.Call (.Attribute o m apos) [] [] pos) X.env = (do
      let ov ← eval o X.env
      standAt apos.atName
      let (f, first) ← holding [ov] (getMethod ov m pl)
      callWith pos f first (backTo pos (starEach [] X.env)) (backToKw pos (keywordEach [] X.env))) := by rfl) :
    PE X (.Call (.Attribute o m apos) [] [] pos) (tMeth C m sp [] E0 ta tNil) := by
  obtain ⟨f, fd, ps, hc, hm, F, b⟩ := c.ex
  exact pe_meth0 (pl := pl) he hc hm F (hr.mono hk) b .nil pass0 ht
theorem pe_gc {v : V} (hg : Gl X x) (h : ∃ u, X.mg x = some u ∧ RelV v u) (hd : (x == ("__debug__" : Str)) = false := by decide) : PE X (.Name x pos) (tC v) := by
  obtain ⟨u, hm, r⟩ := h
  exact pe_glob hg hm r hd
end

theorem _root_.L2.Same.new {H : Hp} {p : Addr} {o : HO} (h : H p = none) : Same H (upd H p o) := fun b u e => by rw [upd_ne (ne_of_none e h)]; exact e
theorem _root_.L2.Same.seqT {K : PySem.W.Frag} {H H' : Hp} {a : Addr} {xs : List V} (e : Same H H') (h : SqT K H a xs) : SqT K H' a xs := by
  rcases h with (h | ⟨o, h⟩) | h
  · exact .inl (.inl (e _ _ h))
  · exact .inl (.inr ⟨o, e _ _ h⟩)
  · exact .inr h
theorem _root_.L2.Same.thenNew {H H' : Hp} {p : Addr} {o : HO} (s : Same H H') (h : H' p = none) : Same H (upd H' p o) := s.trans (Same.new h)
/-- a list that a def made for itself grows -/
theorem _root_.L2.Same.grow {H H' : Hp} {p : Addr} {o : HO} (s : Same H H') (h : H p = none) : Same H (upd H' p o) := fun b u e => by
  rw [upd_ne (ne_of_none e h)]
  exact s b u e

/-! ### steps through a reading -/
def rStr (x : V) (A : Prop) : Prop := (∃ a, x = .str a) ∧ A
def rCatS : R2 := fun x y H Q => ∃ i j, x = .str i ∧ y = .str j ∧ i.length + j.length ≤ sizeLine ∧ Q (.str (i ++ j)) H
theorem op_cat_str {X : Cx} : OpR X (binaryOp .Add) rCatS := op_add_str
def rInt1 : List V → Hp → VK → Prop := fun xs H Q => (∃ i, xs = [.int i] ∧ Q (.int i) H) ∨ ∃ k, xs = [.bl k] ∧ Q (.int (if k then 1 else 0)) H
theorem call_int1' {X : Cx} : CallR X (.type "int") rInt1 := call_int1
def rLenQ (K : PySem.W.Frag) : List V → Hp → VK → Prop := fun xs H Q => ∃ p ys, xs = [.ref p] ∧ (SqL K H p ys ∨ SqT K H p ys) ∧ Q (.int ys.length) H
theorem call_len_seq' {X : Cx} : CallR X (.builtin "len") (rLenQ X.K) := call_len_seq
def rLenT : List V → Hp → VK → Prop := fun xs H Q => ∃ z, xs = [.str z] ∧ z.length ≤ sizeLine ∧ Q (.int z.length) H
theorem call_len_str' {X : Cx} : CallR X (.builtin "len") rLenT := call_len_str
def rLenD : List V → Hp → VK → Prop := fun xs H Q => ∃ a kvs, xs = [V.ref a] ∧ H a = some (.dK kvs) ∧ Q (.int kvs.length) H
theorem call_lenD' {X : Cx} : CallR X (.builtin "len") rLenD := call_lenD
def rReprB : List V → Hp → VK → Prop := fun xs H Q => ∃ b, xs = [.bl b] ∧ Q (.str (if b then "True" else "False")) H
theorem call_repr_bool {X : Cx} : CallR X (.builtin "repr") rReprB := by
  intro pins s σ H xs us Q I r h
  obtain ⟨b, rfl, q⟩ := h
  obtain ⟨u, rfl, rx⟩ := vals1 r
  cases rx
  exact PySem.P.repr_of_bool ⟨.str _, H, I.tok _, ⟨_, rfl⟩, q⟩
def rInSg : R2 := fun x y H Q => ∃ (c : Nat) (z : Str), x = .str (SX.S [c]) ∧ y = .str z ∧ Q (.bl (decide (c ∈ z.cps.toList))) H
def rNotInSg : R2 := fun x y H Q => ∃ (c : Nat) (z : Str), x = .str (SX.S [c]) ∧ y = .str z ∧ Q (.bl (!decide (c ∈ z.cps.toList))) H
theorem op_inSg {X : Cx} : OpR X (compareOp .In) rInSg := op_in_sign
theorem op_notInSg {X : Cx} : OpR X (compareOp .NotIn) rNotInSg := op_notIn_sign
def rOrd : List V → Hp → VK → Prop := fun xs H Q => ∃ x, xs = [.str x] ∧ x.length = 1 ∧ Q (.int (x.cps.getD 0 0 : Nat)) H
theorem call_ord' {X : Cx} : CallR X (.builtin "ord") rOrd := call_ord
def rIsN : R2 := fun x y H Q => y = .non ∧ Q (.bl (decide (x = .non))) H
def rNotN : R2 := fun x y H Q => y = .non ∧ Q (.bl (!decide (x = .non))) H
theorem op_isN' {X : Cx} : OpR X (compareOp .Is) rIsN := op_isN
theorem op_notN' {X : Cx} : OpR X (compareOp .IsNot) rNotN := op_notN
section
variable {σ : St} {H : Hp} {Q : VK} {K : PySem.W.Frag} {D : Ends} {ta tb te : TE} {tl : TA} {t u : TS} {c d : TT} {i : Nat} {v : V} {g : TG} {r : R2} {b : Bool}
theorem g_var (h : σ[i]? = some (some v)) (k : Q v H) : tVar i σ H Q := ⟨v, h, k⟩
theorem g_c (k : Q v H) : tC v σ H Q := k
theorem g_op (k : ta σ H fun x H1 => tb σ H1 fun y H2 => r x y H2 Q) : tOp r ta tb σ H Q := k
theorem g_I0 {f : Int → Int → V} {a b : Int} (k : Q (f a b) H) : rI0 f (.int a) (.int b) H Q := ⟨a, b, rfl, rfl, k⟩
theorem g_I {C : Int → Int → Prop} {f : Int → Int → V} {a b : Int} (h : C a b) (k : Q (f a b) H) : rI C f (.int a) (.int b) H Q := ⟨a, b, rfl, rfl, h, k⟩
theorem g_eq {x y : V} (h : scal x y = true) (k : Q (.bl (decide (x = y))) H) : rEq x y H Q := ⟨h, k⟩
theorem g_ne {x y : V} (h : scal x y = true) (k : Q (.bl (!decide (x = y))) H) : rNe x y H Q := ⟨h, k⟩
theorem g_nil {Q : List V → Hp → Prop} (k : Q [] H) : tNil σ H Q := k
theorem g_cons {Q : List V → Hp → Prop} (k : ta σ H fun x H1 => tl σ H1 fun xs H2 => Q (x :: xs) H2) : tCons ta tl σ H Q := k
theorem g_cb {r : List V → Hp → VK → Prop} (k : tl σ H fun vs H1 => r vs H1 Q) : tCB r tl σ H Q := k
theorem g_call {sp : Sp} {dvs : List V} {E : XK} (k : tl σ H fun vs H1 => sp (vs ++ dvs) H1 Q E) : tCall sp dvs E tl σ H Q := k
theorem g_test {Q : Bool → Hp → Prop} (k : te σ H fun x H1 => ∃ z, x = .bl z ∧ Q z H1) : tTest te σ H Q := k
theorem g_B {Q : Bool → Hp → Prop} (k : te σ H fun x H1 => ∃ z, x = .bl z ∧ Q z H1) : tB te σ H Q := k
theorem g_exb {Q : Bool → Prop} (k : Q b) : ∃ z, V.bl b = .bl z ∧ Q z := ⟨b, rfl, k⟩
theorem g_not {Q : Bool → Hp → Prop} (k : c σ H fun b H1 => Q (!b) H1) : tNot c σ H Q := k
theorem g_and {Q : Bool → Hp → Prop} (k : c σ H fun b H1 => if b = true then d σ H1 Q else Q false H1) : tAnd c d σ H Q := k
theorem g_or {Q : Bool → Hp → Prop} (k : c σ H fun b H1 => if b = true then Q true H1 else d σ H1 Q) : tOr c d σ H Q := k
/-- what follows holds of any new place with o -/
def New (o : HO) (H : Hp) (Q : Addr → Hp → Prop) : Prop := ∀ p H', H p = none → Same H H' → H' p = some o → Q p H'
theorem New.to {o : HO} {Q : Addr → Hp → Prop} (k : New o H Q) : ∀ p, H p = none → Q p (upd H p o) := fun p hp => k p _ hp (fun b u e => by rw [upd_ne (ne_of_none e hp)]; exact e) upd_same
theorem small100 {n : Nat} (h : n ≤ 100) : n ≤ sizeLine := Nat.le_trans h (by decide)
def kTup (Q : VK) (xs : List V) (H1 : Hp) : Prop := xs.length ≤ sizeLine ∧ ∀ p, H1 p = none → Q (.ref p) (upd H1 p (.tup xs))
def kLst (Q : VK) (xs : List V) (H1 : Hp) : Prop := xs.length ≤ sizeLine ∧ ∀ p, H1 p = none → Q (.ref p) (upd H1 p (.lst xs))
theorem g_tup (k : tl σ H (kTup Q)) : tTup tl σ H Q := k
theorem g_lst (k : tl σ H (kLst Q)) : tLst tl σ H Q := k
/-- behind the items of a display -/
theorem g_ktup {xs : List V} (h : xs.length ≤ 100) (k : ∀ p H', H p = none → Same H H' → H' p = some (.tup xs) → Q (.ref p) H') : kTup Q xs H := ⟨small100 h, New.to (Q := fun p H' => Q (.ref p) H') k⟩
theorem g_klst {xs : List V} (h : xs.length ≤ 100) (k : ∀ p H', H p = none → Same H H' → H' p = some (.lst xs) → Q (.ref p) H') : kLst Q xs H := ⟨small100 h, New.to (Q := fun p H' => Q (.ref p) H') k⟩
theorem g_catA {a b : Addr} {xs ys : List V} (ha : H a = some (.tup xs)) (hb : H b = some (.tup ys)) (h0 : xs ≠ []) (hl : xs.length + ys.length ≤ 100) (k : ∀ p H', Same H H' → H' p = some (.tup (xs ++ ys)) → Q (.ref p) H') : rCatA K (.ref a) (.ref b) H Q :=
  ⟨a, b, xs, ys, rfl, rfl, SqT.of ha, SqT.of hb, small100 hl, fun z => absurd z h0, fun _ z => k a H (Same.refl H) (by subst z; rw [List.append_nil]; exact ha), fun _ _ p hp => k p _ (fun b u e => by rw [upd_ne (ne_of_none e hp)]; exact e) upd_same⟩
theorem g_slA {a : Addr} {xs : List V} {lo hi : Option Int} (ha : H a = some (.tup xs)) (k : ∀ p H', Same H H' → H' p = some (.tup (cutV xs lo hi)) → Q (.ref p) H') : rSlA K (.ref a) lo hi H Q := by
  refine ⟨a, xs, rfl, SqT.of ha, fun z => k a H (Same.refl H) ?_, fun _ p hp => k p _ (fun b u e => by rw [upd_ne (ne_of_none e hp)]; exact e) upd_same⟩
  have e : cutV xs lo hi = xs := by
    unfold cutV
    rw [z.1, z.2, List.drop_zero, Nat.sub_zero, List.take_length]
  rw [e]; exact ha
theorem g_rslS {x : Str} {lo hi : Option Int} (h : x.length ≤ sizeLine) (k : Q (.str (Txt.slice x lo hi)) H) : C8.rSlX (.str x) lo hi H Q := ⟨x, rfl, h, k⟩
theorem g_ifx (k : c σ H fun b H1 => if b = true then ta σ H1 Q else tb σ H1 Q) : tIf c ta tb σ H Q := k
/-- a field read -/
def rFld (K : PySem.W.Frag) (f : Str) (x : V) (H : Hp) (Q : VK) : Prop := ∃ a C dx fs v, x = .ref a ∧ H a = some (.ins C dx fs) ∧ Cls K C ∧ NoAttr K C f ∧ fs.lookup f = some v ∧ Q v H
theorem g_fld {f : Str} (k : ta σ H fun x H1 => rFld K f x H1 Q) : tFld K ta f σ H Q := k
theorem g_rfld {f : Str} {a C dx : Addr} {fs : List (Str × V)} (h : H a = some (.ins C dx fs)) (hc : Cls K C) (hn : NoAttr K C f) (hl : fs.lookup f = some v) (k : Q v H) : rFld K f (.ref a) H Q := ⟨a, C, dx, fs, v, rfl, h, hc, hn, hl, k⟩
/-- a method called -/
def rMeth (C : Addr) (m : Str) (sp : Sp) (x : V) (tl : TA) (σ : St) (H : Hp) (Q : VK) : Prop := ∃ a dx fs, x = .ref a ∧ H a = some (.ins C dx fs) ∧ fs.lookup m = none ∧ tl σ H fun vs H2 => sp (x :: (vs ++ [])) H2 Q E0
def rSFld (K : PySem.W.Frag) (f : Str) (y x : V) (H : Hp) (Q : Hp → Prop) : Prop := ∃ a C dx fs, x = .ref a ∧ H a = some (.ins C dx fs) ∧ Cls K C ∧ NoAttr K C f ∧ fs.length < 1000 ∧ Q (upd H a (.ins C dx (putF f y fs)))
theorem g_sfld {f : Str} (k : tb σ H fun y H1 => ta σ H1 fun x H2 => rSFld K f y x H2 fun H3 => D.nx σ H3) : sFld K ta tb f D σ H := k
theorem g_rsfld {f : Str} {y : V} {a C dx : Addr} {fs : List (Str × V)} {Q : Hp → Prop} (h : H a = some (.ins C dx fs)) (hc : Cls K C) (hn : NoAttr K C f) (hl : fs.length < 1000) (k : ∀ H', H' a = some (.ins C dx (putF f y fs)) → (∀ b, b ≠ a → H' b = H b) → Q H') : rSFld K f y (.ref a) H Q :=
  ⟨a, C, dx, fs, rfl, h, hc, hn, hl, k _ upd_same fun b hb => upd_ne hb⟩
theorem g_meth {C : Addr} {m : Str} {sp : Sp} (k : ta σ H fun x H1 => rMeth C m sp x tl σ H1 Q) : tMeth C m sp [] E0 ta tl σ H Q := k
theorem g_rmeth {C a dx : Addr} {m : Str} {sp : Sp} {fs : List (Str × V)} (h : H a = some (.ins C dx fs)) (hl : fs.lookup m = none) (k : tl σ H fun vs H2 => sp (.ref a :: (vs ++ [])) H2 Q E0) : rMeth C m sp (.ref a) tl σ H Q := ⟨a, dx, fs, rfl, h, hl, k⟩
def rMake (C : Addr) (sp : Sp) (vs : List V) (H1 : Hp) (Q : VK) : Prop := ∀ x dx, H1 x = none → H1 dx = none → dx ≠ x → sp (.ref x :: (vs ++ [])) (upd (upd H1 dx (.own x)) x (.ins C dx [])) (fun v H2 => v = .non ∧ Q (.ref x) H2) E0
theorem g_make {C : Addr} {sp : Sp} (k : tl σ H fun vs H1 => rMake C sp vs H1 Q) : tMake C sp [] E0 tl σ H Q := k
/-- a list that is changed in its place -/
theorem g_append {l : Addr} {xs : List V} {y : V} (h : H l = some (.lst xs)) (hz : xs.length < 100000) (k : ∀ H', H' l = some (.lst (xs ++ [y])) → (∀ b, b ≠ l → H' b = H b) → Q .non H') : rAppend (.ref l) [y] H Q :=
  ⟨l, xs, y, rfl, rfl, h, Nat.lt_of_lt_of_le hz (by decide), k _ upd_same fun b hb => upd_ne hb⟩
theorem g_tyL {p : Addr} {xs : List V} {A : Prop} (h : H p = some (.lst xs)) (k : A) : tyV K "list" (.ref p) H ∧ A := ⟨.inl ⟨rfl, _, SqL.of h⟩, k⟩
theorem g_tyS {x : Str} {A : Prop} (k : A) : tyV K "str" (.str x) H ∧ A := ⟨rfl, k⟩
theorem g_tyA {p : Addr} {o : Obj} {A : Prop} (h : K.lookup p = some o) (h1 : o.cls = .type "tuple") (h2 : o.dict = none) (k : A) : tyV K "tuple" (.ref p) H ∧ A := ⟨Or.inr (Or.inl ⟨rfl, o, h, h1, h2⟩), k⟩
theorem g_popAt {l : Addr} {xs : List V} {i : Nat} {y : V} (h : H l = some (.lst xs)) (hi : xs[i]? = some y) (hz : xs.length < 100000) (k : ∀ H', H' l = some (.lst (xs.eraseIdx i)) → (∀ b, b ≠ l → H' b = H b) → Q y H') : rPopAt (.ref l) [.int (i : Int)] H Q := by
  have hl := (List.getElem?_eq_some_iff.mp hi).1
  refine ⟨l, xs, (i : Int), i, y, rfl, rfl, h, by omega, by omega, ?_, hi, k _ upd_same fun b hb => upd_ne hb⟩
  exact (ixN_seq (n := xs.length) (i := (i : Int)) (j := i) (by unfold ixN; rw [if_pos (by omega), if_pos (by omega), Int.toNat_natCast])).1
theorem g_rix {p : Addr} {xs : List V} {j : Int} (h : SqL K H p xs) (ha : atI xs j = some v) (k : Q v H) : rIxL K (.ref p) (.int j) H Q := ⟨p, xs, j, v, rfl, rfl, h, ha, k⟩
theorem g_rixT {p : Addr} {xs : List V} {j : Int} (h : SqT K H p xs) (ha : atI xs j = some v) (k : Q v H) : rIxT K (.ref p) (.int j) H Q := ⟨p, xs, j, v, rfl, rfl, h, ha, k⟩
theorem g_sl {r : V → Option Int → Option Int → Hp → VK → Prop} {tl th : TO} (k : te σ H fun x H1 => tl σ H1 fun l H2 => th σ H2 fun u H3 => r x l u H3 Q) : tSl r te tl th σ H Q := k
theorem g_nopart {Q : Option Int → Hp → Prop} (k : Q none H) : tNoPart σ H Q := k
def rPart (x : V) (H : Hp) (Q : Option Int → Hp → Prop) : Prop := ∃ i, x = .int i ∧ Q (some i) H
theorem g_part {Q : Option Int → Hp → Prop} (k : te σ H fun x H1 => rPart x H1 Q) : tPart te σ H Q := k
theorem g_rpart {Q : Option Int → Hp → Prop} {a : Int} (k : Q (some a) H) : rPart (.int a) H Q := ⟨a, rfl, k⟩
theorem g_m1 {r : V → List V → Hp → VK → Prop} {to : TE} (k : to σ H fun x H1 => rStr x (te σ H1 fun y H2 => r x [y] H2 Q)) : tM1 r to te σ H Q := k
theorem g_m0 {r : V → List V → Hp → VK → Prop} {to : TE} (k : to σ H fun x H1 => rStr x (r x [] H1 Q)) : tM0 r to σ H Q := k
theorem g_rstr {x : Str} {A : Prop} (k : A) : rStr (.str x) A := ⟨⟨x, rfl⟩, k⟩
theorem g_bm0 {T : String} {r : V → List V → Hp → VK → Prop} {to : TE} (k : to σ H fun x H1 => tyV K T x H1 ∧ r x [] H1 Q) : tBM0 K T r to σ H Q := k
theorem g_bm {T : String} {r : V → List V → Hp → VK → Prop} {to : TE} {t : TA} (k : to σ H fun x H1 => tyV K T x H1 ∧ t σ H1 fun xs H2 => r x xs H2 Q) : tBM K T r to t σ H Q := k
theorem g_isN {x : V} (k : Q (.bl (decide (x = .non))) H) : rIsN x .non H Q := ⟨rfl, k⟩
theorem g_notN {x : V} (k : Q (.bl (!decide (x = .non))) H) : rNotN x .non H Q := ⟨rfl, k⟩
theorem g_cat_str {a b : Str} (h : a.length + b.length ≤ sizeLine) (k : Q (.str (a ++ b)) H) : rCatS (.str a) (.str b) H Q := ⟨a, b, rfl, rfl, h, k⟩
theorem g_int1 {a : Int} (k : Q (.int a) H) : rInt1 [.int a] H Q := .inl ⟨a, rfl, k⟩
theorem g_int1b {b : Bool} (k : Q (.int (if b then 1 else 0)) H) : rInt1 [.bl b] H Q := .inr ⟨b, rfl, k⟩
theorem g_reprB {b : Bool} (k : Q (.str (if b then "True" else "False")) H) : rReprB [.bl b] H Q := ⟨b, rfl, k⟩
theorem g_cat {a b : Addr} {xs ys : List V} (ha : H a = some (.lst xs)) (hb : H b = some (.lst ys)) (hl : xs.length + ys.length ≤ 100000) (k : ∀ p H', H p = none → Same H H' → H' p = some (.lst (xs ++ ys)) → Q (.ref p) H') : rCat (.ref a) (.ref b) H Q :=
  ⟨a, b, xs, ys, rfl, rfl, ha, hb, Nat.le_trans hl (by decide), New.to (Q := fun p H' => Q (.ref p) H') k⟩
theorem g_slL {a : Addr} {xs : List V} {lo hi : Option Int} (h : SqL K H a xs) (k : ∀ p H', H p = none → Same H H' → H' p = some (.lst (cutV xs lo hi)) → Q (.ref p) H') : rSlL K (.ref a) lo hi H Q :=
  ⟨a, xs, rfl, h, New.to (Q := fun p H' => Q (.ref p) H') k⟩
theorem g_inSg {ch : Nat} {z : Str} (k : Q (.bl (decide (ch ∈ z.cps.toList))) H) : rInSg (.str (SX.S [ch])) (.str z) H Q := ⟨ch, z, rfl, rfl, k⟩
theorem g_notInSg {ch : Nat} {z : Str} (k : Q (.bl (!decide (ch ∈ z.cps.toList))) H) : rNotInSg (.str (SX.S [ch])) (.str z) H Q := ⟨ch, z, rfl, rfl, k⟩
theorem g_ord {ch : Nat} (k : Q (.int (ch : Int)) H) : rOrd [.str (SX.S [ch])] H Q := ⟨_, rfl, rfl, k⟩
theorem g_lenL {p : Addr} {ys : List V} (h : SqL K H p ys) (k : Q (.int ys.length) H) : rLenQ K [.ref p] H Q := ⟨p, ys, rfl, .inl h, k⟩
theorem g_lenU {p : Addr} {ys : List V} (h : SqT K H p ys) (k : Q (.int ys.length) H) : rLenQ K [.ref p] H Q := ⟨p, ys, rfl, .inr h, k⟩
theorem g_lenT {z : Str} (h : z.length ≤ sizeLine) (k : Q (.int z.length) H) : rLenT [.str z] H Q := ⟨z, rfl, h, k⟩
theorem g_lenD {a : Addr} {kvs : List (Key × V)} (h : H a = some (.dK kvs)) (k : Q (.int kvs.length) H) : rLenD [.ref a] H Q := ⟨a, kvs, rfl, h, k⟩
theorem g_setL {p : Addr} {xs : List V} {j : Int} {n : Nat} {Q : Hp → Prop} (h : H p = some (.lst xs)) (hj : ixN xs.length j = some n) (k : Q (upd H p (.lst (xs.set n v)))) : rSetL (.ref p) (.int j) v H Q := ⟨p, xs, j, n, rfl, rfl, h, hj, k⟩
theorem g_sub {ti : TE} {t : TSet} {Q : St → Hp → Prop} (k : te σ H fun o H1 => ti σ H1 fun i H2 => t o i v H2 fun H3 => Q σ H3) : gSub te ti t v σ H Q := k
theorem g_dget2 {tx : TE} (k : ta σ H fun x H1 => ∃ a, x = .ref a ∧ IsD H1 a ∧ tb σ H1 fun y H2 => tx σ H2 fun z H3 => ∃ o, DGet H3 a y o ∧ Q (o.getD z) H3) : tDGet2 ta tb tx σ H Q := k
theorem g_orD {b1 b2 : Bool} {Q : Bool → Hp → Prop} (h1 : ∀ Q : Bool → Hp → Prop, Q b1 H → c σ H Q) (h2 : ∀ Q : Bool → Hp → Prop, Q b2 H → d σ H Q) (k : Q (b1 || b2) H) : tOr c d σ H Q := by
  refine h1 _ ?_
  cases b1
  · exact h2 _ k
  · exact k
theorem g_andD {b1 b2 : Bool} {Q : Bool → Hp → Prop} (h1 : ∀ Q : Bool → Hp → Prop, Q b1 H → c σ H Q) (h2 : ∀ Q : Bool → Hp → Prop, Q b2 H → d σ H Q) (k : Q (b1 && b2) H) : tAnd c d σ H Q := by
  refine h1 _ ?_
  cases b1
  · exact k
  · exact h2 _ k
theorem g_rixS {x : Str} {j : Int} {ch : Nat} (h : x.length ≤ sizeLine) (ha : atI x.cps.toList j = some ch) (k : Q (.str (SX.S [ch])) H) : rIxS (.str x) (.int j) H Q := ⟨x, j, ch, rfl, rfl, h, ha, k⟩
/-- for .. in range(r) -/
def kFor1 (g : TG) (tb : TS) (D : Ends) (σ : St) (vs : List V) (H : Hp) : Prop := ∃ j : Int, vs = [.int j] ∧ -(2 ^ 62) ≤ j ∧ j < 2 ^ 62 ∧ ∃ W : Nat → Nat → St → Hp → Prop, (∃ m, W 0 m σ H) ∧ ∀ i m σ H, W i m σ H →
  ((Itr 0 j.toNat).stop i H ∧ D.nx σ H) ∨ ((Itr 0 j.toNat).go i H ∧ ∃ N : St → Hp → Prop, (∀ σ' H', N σ' H' → ∃ m', m' < m ∧ W (i + 1) m' σ' H') ∧ ∀ x H', (Itr 0 j.toNat).yld i H x H' → g x σ H' fun σ2 H2 => tb { D with nx := N, ct := N, bk := D.nx } σ2 H2)
theorem g_forR {tb : TS} (k : tl σ H (kFor1 g tb D σ)) : tFor (iRng1 tl) g tb D σ H := k
theorem g_for1 {tb : TS} {r : Int} (h0 : 0 ≤ r) (h1 : r ≤ 100000) (Pv : Nat → St → Hp → Prop) (hi : Pv 0 σ H) (hs : ∀ (i : Nat) σ H, i < r.toNat → Pv i σ H → g (.int (i : Int)) σ H fun σ2 H2 => tb { D with nx := Pv (i + 1), ct := Pv (i + 1), bk := D.nx } σ2 H2)
    (hd : ∀ σ H, Pv r.toNat σ H → D.nx σ H) : kFor1 g tb D σ [.int r] H :=
  ⟨r, rfl, by omega, by omega, for_range (lo := 0) (n := r.toNat) Pv hi (fun i σ H hi h => by rw [Int.zero_add]; exact hs i σ H hi h) hd⟩
/-! walks -/
def kFor (g : TG) (tb : TS) (D : Ends) (σ : St) (J : It) (H : Hp) : Prop := ∃ W : Nat → Nat → St → Hp → Prop, (∃ m, W 0 m σ H) ∧ ∀ i m σ H, W i m σ H →
  (J.stop i H ∧ D.nx σ H) ∨ (J.go i H ∧ ∃ N : St → Hp → Prop, (∀ σ' H', N σ' H' → ∃ m', m' < m ∧ W (i + 1) m' σ' H') ∧ ∀ x H', J.yld i H x H' → g x σ H' fun σ2 H2 => tb { D with nx := N, ct := N, bk := D.nx } σ2 H2)
theorem g_for {wi : TI} {tb : TS} (k : wi σ H (kFor g tb D σ)) : tFor wi g tb D σ H := k
def rItS (v : V) (H : Hp) (R : It → Hp → Prop) : Prop := ∃ x, v = .str x ∧ R (Its x) H
theorem g_iStr {R : It → Hp → Prop} (k : te σ H fun v H1 => rItS v H1 R) : iStr te σ H R := k
theorem g_ritS {x : Str} {R : It → Hp → Prop} (k : R (Its x) H) : rItS (.str x) H R := ⟨x, rfl, k⟩
def rItL (K : PySem.W.Frag) (v : V) (H : Hp) (R : It → Hp → Prop) : Prop := ∃ a, v = .ref a ∧ (∃ xs, SqL K H a xs) ∧ R (Itl K a) H
theorem g_iList {R : It → Hp → Prop} (k : te σ H fun v H1 => rItL K v H1 R) : iList K te σ H R := k
theorem g_ritL {a : Addr} {xs : List V} {R : It → Hp → Prop} (h : SqL K H a xs) (k : R (Itl K a) H) : rItL K (.ref a) H R := ⟨a, rfl, ⟨xs, h⟩, k⟩
def rItU (K : PySem.W.Frag) (v : V) (H : Hp) (R : It → Hp → Prop) : Prop := ∃ a, v = .ref a ∧ (∃ xs, SqT K H a xs) ∧ R (Itt K a) H
theorem g_iTup {R : It → Hp → Prop} (k : te σ H fun v H1 => rItU K v H1 R) : iTup K te σ H R := k
theorem g_ritU {a : Addr} {xs : List V} {R : It → Hp → Prop} (h : SqT K H a xs) (k : R (Itt K a) H) : rItU K (.ref a) H R := ⟨a, rfl, ⟨xs, h⟩, k⟩
def rItR (vs : List V) (H : Hp) (R : It → Hp → Prop) : Prop := ∃ j : Int, vs = [.int j] ∧ -(2 ^ 62) ≤ j ∧ j < 2 ^ 62 ∧ R (Itr 0 j.toNat) H
theorem g_iRng {R : It → Hp → Prop} (k : tl σ H fun vs H1 => rItR vs H1 R) : iRng1 tl σ H R := k
theorem g_ritR {r : Int} {R : It → Hp → Prop} (h0 : 0 ≤ r) (h1 : r ≤ 100000) (k : R (Itr 0 r.toNat) H) : rItR [.int r] H R := ⟨r, rfl, by omega, by omega, k⟩
/-- the signs of a text, each a text -/
def sgs (l : List Nat) : List V := l.map fun c => V.str (SX.S [c])
theorem walk_sgs {l : List Nat} : Walk (Its (SX.S l)) (sgs l).length (fun _ => True) (YAt (sgs l)) := by
  have e : (sgs l).length = (SX.S l).cps.size := by unfold sgs; simp
  rw [e]
  refine walk_str.mono (fun _ h => h) fun i H x H' hi _ h => ?_
  obtain ⟨h1, c, h2, h3⟩ := h
  refine ⟨h1, ?_⟩
  have h4 : l[i]? = some c := by simpa using h2
  unfold sgs
  rw [List.getElem?_map, h4, h3]
  rfl
theorem sgs_at {l : List Nat} {i : Nat} {x : V} (h : (sgs l)[i]? = some x) : ∃ c, l[i]? = some c ∧ V.str (SX.S [c]) = x := by
  unfold sgs at h
  rw [List.getElem?_map] at h
  cases e : l[i]? with
  | none => rw [e] at h; cases h
  | some c => rw [e] at h; exact ⟨c, rfl, Option.some.inj h⟩
theorem map_at {α : Type} {F : α → V} {l : List α} {i : Nat} {x : V} (h : (l.map F)[i]? = some x) : ∃ c, l[i]? = some c ∧ F c = x := by
  rw [List.getElem?_map] at h
  cases e : l[i]? with
  | none => rw [e] at h; cases h
  | some c => rw [e] at h; exact ⟨c, rfl, Option.some.inj h⟩
theorem sgs_len {l : List Nat} : (sgs l).length = l.length := by unfold sgs; rw [List.length_map]
theorem walk_rng {n : Nat} : Walk (Itr 0 n) ((List.range n).map fun (i : Nat) => V.int (i : Int)).length (fun _ => True) (YAt ((List.range n).map fun (i : Nat) => V.int (i : Int))) := by
  rw [List.length_map, List.length_range]
  refine walk_range.mono (fun _ h => h) fun i H x H' hi _ h => ?_
  obtain ⟨h1, h2⟩ := h
  refine ⟨h1, ?_⟩
  rw [List.getElem?_map, List.getElem?_range hi, h2]
  show some (V.int (i : Int)) = some (V.int (0 + (i : Int)))
  rw [Int.zero_add]
/-- a for over xs -/
theorem for_at {J : It} {xs : List V} {G : Hp → Prop} {tb : TS} (w : Walk J xs.length G (YAt xs)) (Pv : Nat → St → Hp → Prop) (h0 : Pv 0 σ H) (hG : ∀ i σ H, Pv i σ H → G H)
    (hs : ∀ i x σ H, xs[i]? = some x → Pv i σ H → g x σ H fun σ2 H2 => tb { D with nx := Pv (i + 1), ct := Pv (i + 1), bk := D.nx } σ2 H2) (hd : ∀ σ H, Pv xs.length σ H → D.nx σ H) : kFor g tb D σ J H :=
  for_it w Pv h0 (fun i σ H _ h => hG i σ H h) (fun i x σ H H' _ h y => by obtain ⟨e, hx⟩ := y; subst e; exact hs i x σ H' hx h) hd
/-- a comprehension -/
def kLc (g : TG) (tt : TT) (te : TE) (vs : List Nat) (σ : St) (Q : VK) (J : It) (H1 : Hp) : Prop := ∀ D, H1 D = none → ∃ W : Nat → Nat → Hp → Prop, (∃ m, W 0 m (upd H1 D (.lst []))) ∧ ∀ i m H, W i m H →
  (J.stop i H ∧ Q (.ref D) H) ∨ (J.go i H ∧ ∃ Nx : Hp → Prop, (∀ H', Nx H' → ∃ m', m' < m ∧ W (i + 1) m' H') ∧ ∀ x H', J.yld i H x H' → g x (wipe σ vs) H' fun σ2 H2 => wipe σ2 vs = wipe σ vs ∧ tt σ2 H2 fun b H3 =>
    if b = true then te σ2 H3 fun y H4 => ∃ acc, H4 D = some (.lst acc) ∧ acc.length < sizeLine ∧ Nx (upd H4 D (.lst (acc ++ [y]))) else Nx H3)
theorem g_lc {wi : TI} {tt : TT} {vs : List Nat} (k : wi σ H (kLc g tt te vs σ Q)) : tLc wi g tt te vs σ H Q := k
theorem take_ok {α : Type} {xs : List α} {i : Nat} {x : α} (h : xs[i]? = some x) : xs.take (i + 1) = xs.take i ++ [x] := by
  rw [List.take_add_one, h]
  rfl
/-- .. whose items hang on the item alone: xs filtered and mapped; the heap may grow meanwhile -/
theorem lc_map {J : It} {xs : List V} {G : Hp → Prop} {tt : TT} {vs : List Nat} (w : Walk J xs.length G (YAt xs)) (hG : ∀ H', Same H H' → G H') (hz : xs.length ≤ 100000) (p : V → Bool) (f : V → V)
    (hg : ∀ x ∈ xs, ∀ H' (R : St → Hp → Prop), Same H H' → (∀ σ2, wipe σ2 vs = wipe σ vs → (∀ H'' (R : Bool → Hp → Prop), Same H H'' → R (p x) H'' → tt σ2 H'' R) →
      (p x = true → ∀ H'' (R : VK), Same H H'' → (∀ H3, Same H'' H3 → R (f x) H3) → te σ2 H'' R) → R σ2 H') → g x (wipe σ vs) H' R)
    (k : ∀ q H', H q = none → Same H H' → H' q = some (.lst ((xs.filter p).map f)) → Q (.ref q) H') : kLc g tt te vs σ Q J H := by
  intro D hD
  refine lc_it w (fun i H2 => Same H H2 ∧ H2 D = some (.lst (((xs.take i).filter p).map f))) ⟨Same.new hD, upd_same⟩ (fun i H2 _ h => hG H2 h.1) (fun i x H2 H2' hi h y => ?_) (fun H2 h => ?_)
  · obtain ⟨e, hx⟩ := y
    subst e
    refine hg x (List.mem_of_getElem? hx) _ _ h.1 fun σ2 hw ht he => ⟨hw, ?_⟩
    refine ht _ _ h.1 ?_
    have hl : (((xs.take i).filter p).map f).length < sizeLine := by
      rw [List.length_map]
      have h1 := List.length_filter_le p (xs.take i)
      have h2 := List.length_take_le i xs
      exact Nat.lt_of_lt_of_le (show _ < 200000 by omega) (by decide)
    cases hp : p x with
    | true =>
      refine iteT ?_
      refine he hp _ _ h.1 fun H3 s3 => ⟨_, s3 _ _ h.2, hl, (h.1.trans s3).grow hD, ?_⟩
      rw [upd_same, take_ok hx, List.filter_append, List.map_append]
      simp [hp]
    | false =>
      refine iteF ?_
      refine ⟨h.1, ?_⟩
      rw [take_ok hx, List.filter_append]
      simpa [hp] using h.2
  · rw [List.take_length] at h
    exact k D H2 hD h.1 h.2
theorem g_cut {t u : TS} (Mid : St → Hp → Prop) (h1 : t { D with nx := Mid } σ H) (h2 : ∀ σ' H', Mid σ' H' → u D σ' H') : C8.tCut t u D σ H := ⟨Mid, h1, h2⟩
/-! statements -/
theorem g_seq (k : t { D with nx := u D } σ H) : tSeq t u D σ H := k
theorem g_asg (k : te σ H fun x H1 => g x σ H1 D.nx) : tAsg te g D σ H := k
theorem g_name {Q : St → Hp → Prop} (k : Q (σ.set i (some v)) H) : gName i v σ H Q := k
theorem g_ret (k : te σ H D.rt) : tRet te D σ H := k
theorem g_drop (k : te σ H fun _ H1 => D.nx σ H1) : tDrop te D σ H := k
theorem g_next (k : D.nx σ H) : tNext D σ H := k
theorem g_ifs (k : c σ H fun b H1 => if b = true then t D σ H1 else u D σ H1) : tIfS c t u D σ H := k
theorem g_pnx {nx bk ct : St → Hp → Prop} {rt : VK} (k : nx σ H) : Ends.nx ⟨nx, rt, bk, ct⟩ σ H := k
theorem g_prt {nx bk ct : St → Hp → Prop} {rt : VK} (k : rt v H) : Ends.rt ⟨nx, rt, bk, ct⟩ v H := k
theorem g_pbk {nx bk ct : St → Hp → Prop} {rt : VK} (k : bk σ H) : Ends.bk ⟨nx, rt, bk, ct⟩ σ H := k
theorem g_pct {nx bk ct : St → Hp → Prop} {rt : VK} (k : ct σ H) : Ends.ct ⟨nx, rt, bk, ct⟩ σ H := k
/-! ways -/
theorem ifp {p A B : Prop} [Decidable p] (h : p) (k : A) : if decide p = true then A else B := by rw [if_pos (decide_eq_true h)]; exact k
theorem ifn {p A B : Prop} [Decidable p] (h : ¬ p) (k : B) : if decide p = true then A else B := by rw [if_neg (by simp [h])]; exact k
theorem if2 {p A B : Prop} [Decidable p] (h1 : p → A) (h2 : ¬ p → B) : if decide p = true then A else B := by
  by_cases h : p
  · exact ifp h (h1 h)
  · exact ifn h (h2 h)
theorem ifnp {p A B : Prop} [Decidable p] (h : p) (k : B) : if (!decide p) = true then A else B := by rw [if_neg (by simp [h])]; exact k
theorem ifnn {p A B : Prop} [Decidable p] (h : ¬ p) (k : A) : if (!decide p) = true then A else B := by rw [if_pos (by simp [h])]; exact k
theorem ifn2 {p A B : Prop} [Decidable p] (h1 : p → B) (h2 : ¬ p → A) : if (!decide p) = true then A else B := by
  by_cases h : p
  · exact ifnp h (h1 h)
  · exact ifnn h (h2 h)
theorem ifb {b : Bool} {A B : Prop} (h1 : b = true → A) (h2 : b = false → B) : if b = true then A else B := by
  cases b
  · exact iteF (h2 rfl)
  · exact iteT (h1 rfl)
theorem int_eq {a b : Int} : (V.int a = V.int b) ↔ a = b := ⟨fun h => V.int.inj h, fun h => by rw [h]⟩
theorem str_eq {a b : Str} : (V.str a = V.str b) ↔ a = b := ⟨fun h => V.str.inj h, fun h => by rw [h]⟩
theorem bl_eq {a b : Bool} : (V.bl a = V.bl b) ↔ a = b := ⟨fun h => V.bl.inj h, fun h => by rw [h]⟩
end
/-! one step of a reading: the keys are ours -/

/-! ### steps of the heap: whose objects changed (c tells each object's owner) -/
structure Stp (I : Nat → Prop) (c c' : Addr → Nat) (H H' : Hp) : Prop where
  keep : ∀ b o, H b = some o → ¬ I (c b) → H' b = some o
  col : ∀ b o, H b = some o → c' b = c b
  tup : ∀ b xs, H b = some (.tup xs) → H' b = some (.tup xs)
  fre : ∀ b, H' b = none → H b = none
namespace Stp
variable {I J : Nat → Prop} {c c' c'' : Addr → Nat} {H H' H'' : Hp}
theorem refl : Stp I c c H H := ⟨fun _ _ h _ => h, fun _ _ _ => rfl, fun _ _ h => h, fun _ h => h⟩
theorem some' (s : Stp I c c' H H') {b : Addr} {o : HO} (h : H b = some o) : ∃ o', H' b = some o' := by
  cases e : H' b with
  | none => rw [s.fre b e] at h; cases h
  | some o' => exact ⟨o', rfl⟩
theorem trans (a : Stp I c c' H H') (b : Stp I c' c'' H' H'') : Stp I c c'' H H'' := by
  refine ⟨fun x o h n => b.keep x o (a.keep x o h n) (by rw [a.col x o h]; exact n), fun x o h => ?_, fun x xs h => b.tup x xs (a.tup x xs h), fun x h => a.fre x (b.fre x h)⟩
  obtain ⟨o', h'⟩ := a.some' h
  rw [b.col x o' h', a.col x o h]
theorem mono (a : Stp I c c' H H') (h : ∀ i, I i → J i) : Stp J c c' H H' := ⟨fun x o e n => a.keep x o e fun z => n (h _ z), a.col, a.tup, a.fre⟩
theorem same (h : Same H H') : Stp I c c H H' := ⟨fun x o e _ => h x o e, fun _ _ _ => rfl, fun x xs e => h x _ e, fun _ e => h.free e⟩
theorem own {b : Addr} {o o' : HO} (h : H b = some o) (hi : I (c b)) (ht : ∀ xs, o ≠ .tup xs) : Stp I c c H (upd H b o') := by
  refine ⟨fun x u e n => ?_, fun _ _ _ => rfl, fun x xs e => ?_, fun x e => ?_⟩
  · rw [upd_ne (fun z => n (by rw [z]; exact hi))]; exact e
  · rw [upd_ne (fun z => ht xs (by subst z; rw [h] at e; exact Option.some.inj e))]; exact e
  · by_cases z : x = b
    · subst z; rw [upd_same] at e; cases e
    · rw [upd_ne z] at e; exact e
/-- one own object changed -/
theorem ch {b : Addr} {o o' : HO} (h : H b = some o) (hi : I (c b)) (ht : ∀ xs, o ≠ .tup xs) (h' : H' b = some o') (k : ∀ x, x ≠ b → H' x = H x) : Stp I c c H H' := by
  refine ⟨fun x u e n => ?_, fun _ _ _ => rfl, fun x xs e => ?_, fun x e => ?_⟩
  · rw [k x (fun z => n (by rw [z]; exact hi))]; exact e
  · rw [k x (fun z => ht xs (by subst z; rw [h] at e; exact Option.some.inj e))]; exact e
  · by_cases z : x = b
    · subst z; rw [h'] at e; cases e
    · rw [k x z] at e; exact e
theorem sameC (h : Same H H') (hc : ∀ b o, H b = some o → c' b = c b) : Stp I c c' H H' := ⟨fun x o e _ => h x o e, hc, fun x xs e => h x _ e, fun _ e => h.free e⟩
theorem new {p : Addr} {o : HO} (h : H p = none) : Stp I c c H (upd H p o) := same fun b u e => by rw [upd_ne (ne_of_none e h)]; exact e
/-- a new object gets its owner -/
def paint (c : Addr → Nat) (p : Addr) (i : Nat) : Addr → Nat := fun b => if b = p then i else c b
theorem paint_same {p : Addr} {i : Nat} : paint c p i p = i := by unfold paint; rw [if_pos rfl]
theorem paint_ne {p b : Addr} {i : Nat} (h : b ≠ p) : paint c p i b = c b := by unfold paint; rw [if_neg h]
theorem newc {p : Addr} {o : HO} {i : Nat} (h : H p = none) : Stp I c (paint c p i) H (upd H p o) :=
  ⟨fun b u e _ => by rw [upd_ne (ne_of_none e h)]; exact e, fun b u e => paint_ne (ne_of_none e h), fun b xs e => by rw [upd_ne (ne_of_none e h)]; exact e, fun b e => by
    by_cases z : b = p
    · subst z; rw [upd_same] at e; cases e
    · rw [upd_ne z] at e; exact e⟩
end Stp
end Lw
namespace Lw
open PySem L2
open PyProof.Rows (envOfC)
theorem lk_eq {k : Str} {v : V} {l : List (Str × V)} : List.lookup k ((k, v) :: l) = some v := by simp [List.lookup]
theorem lk_ne {k k' : Str} {v : V} {l : List (Str × V)} (h : (k == k') = false) : List.lookup k ((k', v) :: l) = l.lookup k := by simp [List.lookup, h]
theorem lk_no {m : Str} : ∀ {l : List (Str × V)}, (l.map (·.1)).all (fun f => !(m == f)) = true → l.lookup m = none
  | [], _ => rfl
  | (k, v) :: l, h => by
    have h : (!(m == k) && (l.map (·.1)).all (fun f => !(m == f))) = true := h
    rw [Bool.and_eq_true, Bool.not_eq_true'] at h
    rw [lk_ne h.1]
    exact lk_no h.2
theorem pf_eq {k : Str} {y v : V} {l : List (Str × V)} : putF k y ((k, v) :: l) = (k, y) :: l := by
  show (if k = k then _ else _) = _
  rw [if_pos rfl]
theorem pf_ne {k k' : Str} {y v : V} {l : List (Str × V)} (h : ¬ k' = k) : putF k y ((k', v) :: l) = (k', v) :: putF k y l := by
  show (if k' = k then _ else _) = _
  rw [if_neg h]
theorem empty_S : ("" : Str) = SX.S [] := by decide +kernel
theorem join_empty (l : List Nat) : Txt.join ("" : Str) (l.map fun c => SX.S [c]) = SX.S l := by
  have e : (l.map fun c => SX.S [c]) = (l.map fun c => [c]).map SX.S := by rw [List.map_map]; rfl
  rw [empty_S, e, SX.join_S]
  have h : ∀ l : List Nat, TL.joinL [] (l.map fun c => [c]) = l := by
    intro l
    induction l with
    | nil => rfl
    | cons a r ih =>
      cases r with
      | nil => rfl
      | cons b r => 
        show [a] ++ ([] ++ TL.joinL [] ((b :: r).map fun c => [c])) = a :: b :: r
        rw [ih]
        rfl
  rw [h]
theorem sum_ones (l : List Nat) : ((l.map fun c => SX.S [c]).map (·.length)).sum = l.length := by
  induction l with
  | nil => rfl
  | cons a r ih =>
    rw [List.map_cons, List.map_cons, List.sum_cons, ih, SX.S_len, List.length_cons]
    simp only [List.length_cons, List.length_nil]
    omega
theorem L2x_sameN {I : Nat → Prop} {c : Addr → Nat} {H H' : Hp} {p : Addr} {i : Nat} (s : Same H H') (n : H p = none) : Stp I c (Stp.paint c p i) H H' := Stp.sameC s fun b o e => Stp.paint_ne (ne_of_none e n)
end Lw
local macro_rules | `(tactic| walk_at "lw side") => `(tactic| first | assumption | decide | omega | exact Or.inr ⟨by decide, by decide⟩ | exact Or.inl ⟨by decide, by decide⟩ | exact ⟨by decide, by decide⟩ | exact ⟨by omega, by omega⟩)
local macro_rules | `(tactic| walk_at "lw ne") => `(tactic| first | assumption | exact Ne.symm (by assumption) | exact L2.ne_of_none (by assumption) (by assumption) | exact Ne.symm (L2.ne_of_none (by assumption) (by assumption)))
local macro_rules | `(tactic| walk_at "lw hp") => `(tactic| first | assumption | exact L2.upd_same | (refine Eq.trans (L2.upd_ne (by walk_at "lw ne")) ?_; walk_at "lw hp"))
local macro_rules | `(tactic| walk_at "lw sq") => `(tactic| first | assumption | exact L2.SqL.of (by walk_at "lw hp") | exact L2.SqT.of (by walk_at "lw hp"))
local macro_rules | `(tactic| walk_at "lw go") => `(tactic| first
  | (with_reducible refine Lw.g_seq ?_)
  | ((with_reducible refine' Lw.g_var ?h1 ?k1); (case h1 => rfl))
  | (with_reducible refine Lw.g_c ?_)
  | (with_reducible refine Lw.g_op ?_)
  | (with_reducible refine Lw.g_I0 ?_)
  | ((with_reducible refine' Lw.g_I ?h1 ?k1); (case h1 => walk_at "lw side"))
  | ((with_reducible refine' Lw.g_eq ?h1 ?k1); (case h1 => rfl))
  | ((with_reducible refine' Lw.g_ne ?h1 ?k1); (case h1 => rfl))
  | (with_reducible refine Lw.g_nil ?_)
  | (with_reducible refine Lw.g_cons ?_)
  | (with_reducible refine Lw.g_cb ?_)
  | (with_reducible refine Lw.g_call ?_)
  | (with_reducible refine Lw.g_test ?_)
  | (with_reducible refine Lw.g_B ?_)
  | (with_reducible refine Lw.g_exb ?_)
  | (with_reducible refine Lw.g_not ?_)
  | (with_reducible refine Lw.g_and ?_)
  | (with_reducible refine Lw.g_or ?_)
  | (with_reducible refine Lw.g_tup ?_)
  | (with_reducible refine Lw.g_lst ?_)
  | (with_reducible refine Lw.g_ifx ?_)
  | (with_reducible refine Lw.g_fld ?_)
  | (with_reducible refine Lw.g_asg ?_)
  | (with_reducible refine Lw.g_name ?_)
  | (with_reducible refine Lw.g_ret ?_)
  | (with_reducible refine Lw.g_drop ?_)
  | (with_reducible refine Lw.g_next ?_)
  | (with_reducible refine Lw.g_ifs ?_)
  | (with_reducible refine Lw.g_pnx ?_)
  | (with_reducible refine Lw.g_prt ?_)
  | (with_reducible refine Lw.g_pbk ?_)
  | (with_reducible refine Lw.g_pct ?_)
  | (with_reducible refine Lw.g_sl ?_)
  | (with_reducible refine Lw.g_nopart ?_)
  | (with_reducible refine Lw.g_part ?_)
  | (with_reducible refine Lw.g_rpart ?_)
  | (with_reducible refine Lw.g_m1 ?_)
  | (with_reducible refine Lw.g_m0 ?_)
  | (with_reducible refine Lw.g_rstr ?_)
  | (with_reducible refine Lw.g_bm0 ?_)
  | (with_reducible refine Lw.g_bm ?_)
  | (with_reducible refine Lw.g_isN ?_)
  | (with_reducible refine Lw.g_notN ?_)
  | (with_reducible refine L2.iteT ?_)
  | (with_reducible refine L2.iteF ?_)
  | (with_reducible refine Lw.g_int1 ?_)
  | (with_reducible refine Lw.g_int1b ?_)
  | (with_reducible refine Lw.g_sub ?_)
  | (with_reducible refine Lw.g_forR ?_)
  | (with_reducible refine Lw.g_for ?_)
  | (with_reducible refine Lw.g_lc ?_)
  | (with_reducible refine Lw.g_iStr ?_)
  | (with_reducible refine Lw.g_ritS ?_)
  | (with_reducible refine Lw.g_tyS ?_)
  | (with_reducible refine Lw.g_iList ?_)
  | (with_reducible refine Lw.g_iTup ?_)
  | (with_reducible refine Lw.g_iRng ?_)
  | (with_reducible refine Lw.g_inSg ?_)
  | (with_reducible refine Lw.g_notInSg ?_)
  | (with_reducible refine Lw.g_ord ?_)
  | (with_reducible refine Lw.g_reprB ?_)
  | (with_reducible refine Lw.g_sfld ?_)
  | (with_reducible refine Lw.g_meth ?_)
  | (with_reducible refine Lw.g_make ?_)
  | ((with_reducible refine' Lw.g_lenL ?h1 ?k1); (case h1 => walk_at "lw sq"))
  | ((with_reducible refine' Lw.g_lenD ?h1 ?k1); (case h1 => walk_at "lw hp")))
local macro_rules | `(tactic| walk_at "lw") => `(tactic| repeat walk_at "lw go")

/-! ## a number as sixteen hexadecimal signs -/
namespace Lw
open PySem L2
/-- the signs of n in the base 16, with zeros in front, sixteen at least -/
def hexT (n : Nat) : Str := ⟨(List.replicate (16 - ((Nat.toDigits 16 n).map Char.toNat).length) 48 ++ (Nat.toDigits 16 n).map Char.toNat).toArray⟩
def spec16 : Str := "016x"
def fs16 : Builtin.Float.FormatSpec := { fill := 48, align := 61, width := some 16, type := some 120 }
section
open Builtin Builtin.Float
theorem spec_reads : parseFormatSpec spec16.cps.toList "int" 62 = .ok fs16 := by
  first | rfl | decide +kernel | kernel_rfl
theorem digs_ne (n : Nat) : ((Nat.toDigits 16 n).map Char.toNat).isEmpty = false := by
  have h := PyProof.Rows.tDigits_len_ge 16 n
  cases e : Nat.toDigits 16 n with
  | nil => rw [e] at h; simp at h
  | cons a b => rfl
theorem field16 (n : Nat) : PyProof.Rows.intField' fs16 false [] ((Nat.toDigits 16 n).map Char.toNat) [] 4 = hexT n :=
  PyProof.Rows.intField'_zero_nonneg fs16 _ 4 rfl rfl (digs_ne n) rfl rfl
theorem hex_len {n : Nat} (h : n < 2 ^ 64) : (hexT n).length ≤ 100000 := by
  have h1 := PyProof.Rows.tDigits_len_le 16 n
  have h2 : (Nat.toDigits 16 n).length ≤ 16 := by
    have e := (Nat.length_toDigits_le_iff (b := 16) (n := n) (k := 16) (by decide) (by decide)).mpr (by simpa using h)
    exact e
  unfold hexT Str.length
  simp only [List.size_toArray, List.length_append, List.length_replicate, List.length_map]
  omega
section
variable {prog : Program} {w : World} {A : Around} {E : Value → Shared → Prop} {s : Shared}
set_option maxRecDepth 100000 in
theorem format_hex {n : Nat} {t : Tok} {Q : Value → Shared → Prop} (hn : n < 2 ^ 64) (h : Q (.str (hexT n) (s.toks + 1)) { s with toks := s.toks + 1 + 1 }) :
    wpAny (model prog w) A (formatField (.int (n : Int) t) spec16) Q E s := by
  show wpAny _ _ (holding [.int (n : Int) t] (pyFormat (.int (n : Int) t) spec16)) Q E s
  refine wpAny_holding ?_
  unfold pyFormat
  refine wpAny_bind (wpAny_mkStr ?_ (by decide +kernel))
  refine wpAny_bind (m := callSpecial? (.int (n : Int) t) (Str.ofString "__format__") [.str spec16 s.toks]) (wpAny_callSpecial?_slot (name := Str.ofString "__format__") (typeIs_int _ (n : Int) t) PyProof.Rows.slot_int_format ?_)
  refine wpAny_call (codeAny_call_builtin PyProof.Rows.slot_int_format.plain PyProof.Rows.entry_int_format (PyProof.Rows.slot_int_format.check _ _ _ _ _ _ _ _ (typeIs_int _ (n : Int) t) (PyProof.Rows.args_int_format _ _) ?_))
  have e1 : (spec16.length == 0) = false := by decide +kernel
  have e2 : ((spec16.cps.toList.drop 1).any (· ≥ 128) || (spec16.cps.getD 0 0 ≥ 128 && !([60, 62, 61, 94] : List Nat).contains (spec16.cps.getD 1 0))) = false := by decide +kernel
  unfold Builtin.«int.__format__»
  simp only [selfAndOne, noKeywords, Int.intOfSelf, asInt?, asStr?, List.isEmpty_nil, if_true, pure_bind, bind_pure, bind_assoc, e1, e2, Bool.false_eq_true, if_false,
    show (Value.str spec16 s.toks == Value.none) = false from rfl]
  refine wpAny_bind (wpAny_typeNameOf (T := "str") (typeIs_str _ _ _) (by decide) fun _ => ?_)
  refine wpAny_bind (PyProof.Rows.wpAny_typeNameOfCut_int ?_)
  simp only [spec_reads]
  rw [if_pos (by decide)]
  obtain ⟨f, hf, hty, hpr, hz, hal, hw, hgr, hsg⟩ : ∃ f, f = fs16 ∧ f.type = some 120 ∧ f.precision = none ∧ f.noNeg0 = false ∧ f.alt = false ∧ f.width.getD 0 ≤ 100000 ∧ f.grouping = none ∧ f.sign = none := ⟨fs16, rfl, rfl, rfl, rfl, rfl, by decide, rfl, rfl⟩
  have ef := field16 n
  have hl : (hexT n).length ≤ sizeLine := Nat.le_trans (hex_len hn) (by decide)
  rw [← hf] at ef ⊢
  simp only [hty, Option.getD_some]
  show wpAny _ _ (if _ then _ else _) _ _ _
  rw [if_neg (by simp [hpr])]
  show wpAny _ _ (if _ then _ else _) _ _ _
  rw [if_neg (by simp [hz])]
  show wpAny _ _ (if _ then _ else _) _ _ _
  rw [if_neg (by decide)]
  have hw' : ¬ (f.width.getD 0 > 100000) := by omega
  have eneg : decide ((n : Int) < 0) = false := decide_eq_false (by omega)
  simp only [show ((120 : Nat) == 98) = false from rfl, show ((120 : Nat) == 111) = false from rfl, show ((120 : Nat) == 120) = true from rfl, show ((120 : Nat) == 88) = false from rfl, show ((16 : Nat) == 10) = false from rfl, Bool.false_eq_true, if_false, if_true, hw', hal, eneg, Int.natAbs_natCast]
  show wpAny _ _ (retStr _) _ _ _
  unfold retStr
  rw [← ef] at hl h
  have em : (Nat.toDigits 16 n).map Char.toNat = (Nat.toDigits 16 n).map (fun c => c.toNat) := rfl
  rw [em] at hl h
  refine wpAny_bind (wpAny_mkStr (wpAny_pure ?_) ?hs2)
  case hs2 =>
    conv => lhs; arg 1; whnf
    simp only [PyProof.Rows.intField', hgr, hsg, Bool.false_eq_true, if_false] at hl ⊢
    exact hl
  dsimp only
  refine wpAny_bind (wpAny_isInstance (typeIs_str _ _ _) isSubtype_str_str (wpAny_pure ?_))
  conv => arg 1; arg 1; whnf
  simp only [PyProof.Rows.intField', hgr, hsg, Bool.false_eq_true, if_false] at h ⊢
  exact h
end
end
section
variable {X : Cx}
/-- {e:016x} -/
def rHex (x : V) (H : Hp) (Q : VK) : Prop := ∃ n : Nat, x = .int (n : Int) ∧ n < 2 ^ 64 ∧ Q (.str (hexT n)) H
def tHex (te : TE) : TE := fun σ H Q => te σ H fun x H1 => rHex x H1 Q
theorem g_hex {te : TE} {σ : L2.St} {H : Hp} {Q : VK} (k : te σ H fun x H1 => rHex x H1 Q) : tHex te σ H Q := k
theorem pe_hex {e spec : Expr} {te : TE} {pos : Pos} (he : PE X e te) (hs : PE X spec (tC (.str spec16))) : PE X (.FormattedValue e (-1) (some spec) pos) (tHex te) := by
  refine ⟨fun pins s σ H Q I h => ?_⟩
  refine wpAny_FormattedValue_spec (thn (he.run pins s σ H _ I h) fun v s1 hv => ?_)
  obtain ⟨x, H1, I1, r1, n, rfl, hn, q⟩ := hv
  obtain ⟨t, rfl⟩ := r1
  refine thn (hs.run pins s1 σ H1 (fun y H2 => y = .str spec16 ∧ Q (.str (hexT n)) H2) I1 ⟨rfl, q⟩) fun u s2 hu => ?_
  obtain ⟨y, H2, I2, r2, rfl, q2⟩ := hu
  obtain ⟨t2, rfl⟩ := r2
  exact ⟨spec16, t2, rfl, format_hex hn ⟨.str (hexT n), H2, I2.tok _, ⟨_, rfl⟩, q2⟩⟩
end
end Lw

namespace Lw
open PySem L2
def kinds3 : List Str := ["layer", "image", "bundle"]
end Lw
namespace Lw
open PySem L2
open PyProof.Rows (envOfC)
def top (i : Nat) : Stmt := PySem.Challenge.pw_layerwharf_k01_addresses.main.body.getD i (.Pass ⟨0, 0, 0, 0⟩)
abbrev s_address_of : Stmt := top 4
abbrev n_address_of : List Str := ["kind", "text", "value", "character"]
theorem sc_address_of : FnScope n_address_of ["kind", "text"] (defScope s_address_of) := ⟨rfl, rfl, rfl, by decide +kernel, rfl, by decide +kernel, by decide +kernel⟩
abbrev s_is_address : Stmt := top 5
abbrev n_is_address : List Str := ["text", "character"]
theorem sc_is_address : FnScope n_is_address ["text"] (defScope s_is_address) := ⟨rfl, rfl, rfl, by decide +kernel, rfl, by decide +kernel, by decide +kernel⟩
abbrev s__law_state : Stmt := top 7
abbrev n__law_state : List Str := ["_law_script", "_law_cells", "_law_cell"]
theorem sc__law_state : FnScope n__law_state ["_law_script"] (defScope s__law_state) := ⟨rfl, rfl, rfl, by decide +kernel, rfl, by decide +kernel, by decide +kernel⟩
abbrev s__law_take : Stmt := top 8
abbrev n__law_take : List Str := ["_law_state_here", "_law_most", "_law_cells", "_law_at", "_law_cell", "_law_mixed"]
theorem sc__law_take : FnScope n__law_take ["_law_state_here", "_law_most"] (defScope s__law_take) := ⟨rfl, rfl, rfl, by decide +kernel, rfl, by decide +kernel, by decide +kernel⟩
abbrev s__law_bits : Stmt := top 9
abbrev n__law_bits : List Str := ["_law_state_here", "_law_count", "_law_k"]
theorem sc__law_bits : FnScope n__law_bits ["_law_state_here", "_law_count"] (defScope s__law_bits) := ⟨rfl, rfl, rfl, by decide +kernel, rfl, by decide +kernel, by decide +kernel⟩
abbrev s__law_number : Stmt := top 10
abbrev n__law_number : List Str := ["_law_kind", "_law_codes", "_law_number_here", "_law_code"]
theorem sc__law_number : FnScope n__law_number ["_law_kind", "_law_codes"] (defScope s__law_number) := ⟨rfl, rfl, rfl, by decide +kernel, rfl, by decide +kernel, by decide +kernel⟩
abbrev s__law_read : Stmt := top 11
abbrev n__law_read : List Str := ["_law_text", "_law_number_here", "_law_character"]
theorem sc__law_read : FnScope n__law_read ["_law_text"] (defScope s__law_read) := ⟨rfl, rfl, rfl, by decide +kernel, rfl, by decide +kernel, by decide +kernel⟩
abbrev s__law_good : Stmt := top 12
abbrev n__law_good : List Str := ["_law_text", "_law_character"]
theorem sc__law_good : FnScope n__law_good ["_law_text"] (defScope s__law_good) := ⟨rfl, rfl, rfl, by decide +kernel, rfl, by decide +kernel, by decide +kernel⟩
abbrev s_law : Stmt := top 13
abbrev n_law : List Str := ["_law_script", "_law_state_here", "_law_kind", "_law_signs", "_law_places", "_law_codes", "_law_text", "_law_told", "_law_at", "_law_piece", "_law_other", "_law_k", "_law_place"]
theorem sc_law : FnScope n_law ["_law_script"] (defScope s_law) := ⟨rfl, rfl, rfl, by decide +kernel, rfl, by decide +kernel, by decide +kernel⟩

structure Txt (w : World) (K : PySem.W.Frag) (mg : Str → Option Value) (a_KINDS : Addr) : Prop where
  d_address_of : DefAt K mg "address_of" s_address_of ["kind", "text"]
  d_is_address : DefAt K mg "is_address" s_is_address ["text"]
  d__law_state : DefAt K mg "_law_state" s__law_state ["_law_script"]
  d__law_take : DefAt K mg "_law_take" s__law_take ["_law_state_here", "_law_most"]
  d__law_bits : DefAt K mg "_law_bits" s__law_bits ["_law_state_here", "_law_count"]
  d__law_number : DefAt K mg "_law_number" s__law_number ["_law_kind", "_law_codes"]
  d__law_read : DefAt K mg "_law_read" s__law_read ["_law_text"]
  d__law_good : DefAt K mg "_law_good" s__law_good ["_law_text"]
  n_abs : mg "abs" = none
  n_int : mg "int" = none
  n_isinstance : mg "isinstance" = none
  n_len : mg "len" = none
  n_ord : mg "ord" = none
  n_range : mg "range" = none
  n_repr : mg "repr" = none
  n_str : mg "str" = none
  n_tuple : mg "tuple" = none
  g_DIGITS : ∃ u, mg "DIGITS" = some u ∧ RelV (.str "0123456789abcdef") u
  g_PRIME : ∃ u, mg "PRIME" = some u ∧ RelV (.int 2305843009213693951) u
  g_KINDS : ∃ u, mg "KINDS" = some u ∧ RelV (.ref a_KINDS) u
  at_KINDS : ∃ o its n, K.lookup a_KINDS = some o ∧ o.cls = .type "tuple" ∧ o.dict = none ∧ o.data = .seq its n ∧ its.size ≤ sizeLine ∧ Vals (kinds3.map V.str) its.toList
end Lw
/-! ## the law's draws: any number below the bound may come -/
namespace Lw
open PySem L2
open PyProof.Rows (envOfC)
theorem at_in {α : Type} {xs : List α} {i : Int} (h0 : 0 ≤ i) (h1 : i < xs.length) : ∃ v, xs[i.toNat]? = some v ∧ atI xs i = some v := by
  have hl : i.toNat < xs.length := by omega
  refine ⟨xs[i.toNat], List.getElem?_eq_getElem hl, ?_⟩
  have := atI_nat (xs := xs) (j := i.toNat) (v := xs[i.toNat]) (List.getElem?_eq_getElem hl)
  rw [show ((i.toNat : Nat) : Int) = i by omega] at this
  exact this
theorem ix_in {n : Nat} {i : Int} (h0 : 0 ≤ i) (h1 : i < n) : ixN n i = some i.toNat := by
  unfold ixN
  rw [if_pos h0, if_pos h1]
theorem map_int_set (l : List Int) (j : Nat) (z : Int) : (l.map V.int).set j (.int z) = (l.set j z).map V.int := by rw [List.map_set]
/-- the state of the draws at S: its place, its cells at C -/
structure StateAt (c : Addr → Nat) (H : Hp) (S : Addr) : Prop where
  ex : ∃ (C : Addr) (pos : Int) (cells : List Int), c S = 0 ∧ c C = 0 ∧ S ≠ C ∧ H S = some (.lst [.int pos, .ref C]) ∧ H C = some (.lst (cells.map V.int)) ∧ cells ≠ [] ∧ (∀ x ∈ cells, 0 ≤ x) ∧ 0 ≤ pos
theorem StateAt.frame {I : Nat → Prop} {c c' : Addr → Nat} {H H' : Hp} {S : Addr} (h : StateAt c H S) (s : Stp I c c' H H') (hi : ¬ I 0 := by decide) : StateAt c' H' S := by
  obtain ⟨C, pos, cells, h1, h2, h3, h4, h5, h6⟩ := h.ex
  exact ⟨C, pos, cells, by rw [s.col _ _ h4, h1], by rw [s.col _ _ h5, h2], h3, s.keep _ _ h4 (by rw [h1]; exact hi), s.keep _ _ h5 (by rw [h2]; exact hi), h6⟩
def spState (K : PySem.W.Frag) : Sp := fun vs H Q _ => ∃ (a : Addr) (ns : List Int) (c : Addr → Nat), vs = [.ref a] ∧ SqL K H a (ns.map V.int) ∧ ns.length ≤ 63 ∧
  ∀ S c' H', StateAt c' H' S → Stp (fun _ => False) c c' H H' → Q (.ref S) H'
def spTake : Sp := fun vs H Q _ => ∃ (c : Addr → Nat) (S : Addr) (m : Int), vs = [.ref S, .int m] ∧ StateAt c H S ∧ 0 < m ∧ m < 1073741824 ∧
  ∀ (r : Int) c' H', 0 ≤ r → r < m → StateAt c' H' S → Stp (fun i => i = 0) c c' H H' → Q (.int r) H'
section
variable {P : Program} {w : World} {K : PySem.W.Frag} {mg : Str → Option Value} {base : Heap} {a_KINDS : Addr}
theorem ok__law_state (T : Txt w K mg a_KINDS) : Cal P w K mg base 1 "_law_state" (spState K) := by
  refine cal_mk T.d__law_state sc__law_state (fun vs H Q E h => ?_) (fun f cdv A outer s H vs Q E hr h => ?_)
  · obtain ⟨a, ns, c, rfl, _⟩ := h
    rfl
  · obtain ⟨a, ns, c, rfl, hS, hlen, k⟩ := h
    refine ⟨_, (pss_cons (ps_setLc (i := 1) (own := [("_law_cell", 2)]) (g := (gName 2)) (by rfl) sc__law_state.nd rfl rfl (sw_true rfl rfl rfl (by decide +kernel)) (pi_list (pe_slice sl_list (pv 0) po_none (po_some (pe_int)))) (blkOk_by (own := [("_law_cell", 2)]) (N := n__law_state) (sc := defScope s__law_state) (by decide +kernel)) (fun _ _ _ _ _ => (pg_name (i := 2) sc__law_state.nd rfl (by first | exact Or.inl rfl | exact Or.inr rfl))) (fun _ _ _ _ _ => pts_nil) (fun _ _ _ _ _ => (pe_callB call_abs (by rfl) T.n_abs (by decide +kernel) (pa_cons (pv 2) pa_nil))))
      (pss_cons (ps_if (pt_cmpR op_eq (pe_callB call_len_seq' (by rfl) T.n_len (by decide +kernel) (pa_cons (pv 1) pa_nil)) (pe_int) (nomark _)) (pss_one (ps_set (i := 1) sc__law_state.nd rfl (by first | exact Or.inl rfl | exact Or.inr rfl) (pe_lst (pa_cons (pe_int) pa_nil)))) pss_nil)
      (pss_one (ps_ret (pe_lst (pa_cons (pe_int) (pa_cons (pv 1) pa_nil))))))), ?_⟩
    refine ⟨_, rfl, 63, rfl, a, _, rfl, hS, fun p np => ?_⟩
    have e63 : (cutV (ns.map V.int) none (some 63)) = ns.map V.int := by
      unfold cutV
      rw [HT.sIx_none, show ((63 : Int)) = ((63 : Nat) : Int) from rfl, HT.sIx_nat, List.drop_zero, List.take_of_length_le (by rw [List.length_map]; omega)]
    rw [e63]
    refine ⟨p, rfl, ⟨_, SqL.of upd_same⟩, fun D hD => ?_⟩
    have hDp : D ≠ p := fun z => by subst z; rw [upd_same] at hD; cases hD
    have hD0 : H D = none := by rw [upd_ne hDp] at hD; exact hD
    refine lc_list (K := K) (a := p) (xs := ns.map V.int) (fun i H2 => ∃ l : List Int, l.length = i ∧ (∀ x ∈ l, 0 ≤ x) ∧ Same H H2 ∧ H2 p = some (.lst (ns.map V.int)) ∧ H2 D = some (.lst (l.map V.int)))
      ⟨[], rfl, by simp, (Same.new np).thenNew hD, by rw [upd_ne (Ne.symm hDp)]; exact upd_same, upd_same⟩
      (fun i H2 hi h => by obtain ⟨l, _, _, _, h2, _⟩ := h; exact SqL.of h2) (fun i x H2 hx h => ?_) (fun H2 h => ?_)
    · obtain ⟨l, h1, h2, h3, h4, h5⟩ := h
      obtain ⟨z, hz, rfl⟩ : ∃ z, ns[i]? = some z ∧ V.int z = x := by
        rw [List.getElem?_map] at hx
        cases e : ns[i]? with
        | none => rw [e] at hx; cases hx
        | some z => rw [e] at hx; exact ⟨z, rfl, Option.some.inj hx⟩
      refine ⟨rfl, ?_⟩
      refine ⟨_, rfl, z, rfl, l.map V.int, h5, ?_, l ++ [if z < 0 then -z else z], by simp [h1], ?_, h3.grow hD0, by rw [upd_ne (Ne.symm hDp)]; exact h4, by rw [upd_same]; simp⟩
      · have hi := (List.getElem?_eq_some_iff.mp hz).1
        rw [List.length_map, h1]
        exact small1000 (by omega)
      · intro x hx
        rcases List.mem_append.mp hx with q | q
        · exact h2 x q
        · rw [List.mem_singleton.mp q]
          split <;> omega
    · obtain ⟨l, h1, h2, h3, h4, h5⟩ := h
      rw [List.length_map] at h1
      refine ⟨_, rfl, D, l.map V.int, rfl, Or.inl (SqL.of h5), ?_⟩
      refine ⟨rfl, _, rfl, ?_⟩
      refine if2 (fun hz => ?_) (fun hz => ?_)
      · refine ⟨(by show 1 ≤ sizeLine; decide), fun q nq => ?_⟩
        refine ⟨_, rfl, (by show 2 ≤ sizeLine; decide), fun S nS => ?_⟩
        have hqS : q ≠ S := fun z => by subst z; rw [upd_same] at nS; cases nS
        refine k S (Stp.paint (Stp.paint c q 0) S 0) _ ⟨q, 0, [0], Stp.paint_same, by rw [Stp.paint_ne hqS]; exact Stp.paint_same, Ne.symm hqS, upd_same, by rw [upd_ne hqS]; exact upd_same, by simp, by simp, by decide⟩ ?_
        exact ((Stp.same h3).trans (Stp.newc nq)).trans (Stp.newc nS)
      · refine ⟨_, rfl, (by show 2 ≤ sizeLine; decide), fun S nS => ?_⟩
        have hDS : D ≠ S := ne_of_none h5 nS
        refine k S (Stp.paint (Stp.paint c D 0) S 0) _ ⟨D, 0, l, Stp.paint_same, by rw [Stp.paint_ne hDS]; exact Stp.paint_same, Ne.symm hDS, upd_same, by rw [upd_ne hDS]; exact h5, fun e => hz (by rw [int_eq, e]; rfl), h2, by decide⟩ ?_
        have s1 : Stp (fun _ => False) c (Stp.paint c D 0) H H2 := ⟨fun b o e _ => h3 b o e, fun b o e => Stp.paint_ne (ne_of_none e hD0), fun b xs e => h3 b _ e, fun b e => h3.free e⟩
        exact s1.trans (Stp.newc nS)
theorem ok__law_take (T : Txt w K mg a_KINDS) : Cal P w K mg base 1 "_law_take" spTake := by
  refine cal_mk T.d__law_take sc__law_take (fun vs H Q E h => ?_) (fun f cdv A outer s H vs Q E hr h => ?_)
  · obtain ⟨c, S, m, rfl, _⟩ := h
    rfl
  · obtain ⟨c, S, m, rfl, hS, hm0, hm1, k⟩ := h
    obtain ⟨C, pos, cells, c1, c2, ne, h1, h2, h3, h4, h5⟩ := hS.ex
    have hcl : 0 < cells.length := List.length_pos_iff.mpr h3
    refine ⟨_, (pss_cons (ps_set (i := 2) sc__law_take.nd rfl (by first | exact Or.inl rfl | exact Or.inr rfl) (pe_ix ix_list (pv 0) (pe_int) (fun _ _ => rfl)))
      (pss_cons (ps_set (i := 3) sc__law_take.nd rfl (by first | exact Or.inl rfl | exact Or.inr rfl) (pe_op op_mod (pe_ix ix_list (pv 0) (pe_int) (fun _ _ => rfl)) (pe_callB call_len_seq' (by rfl) T.n_len (by decide +kernel) (pa_cons (pv 2) pa_nil))))
      (pss_cons (ps_set (i := 4) sc__law_take.nd rfl (by first | exact Or.inl rfl | exact Or.inr rfl) (pe_ix ix_list (pv 2) (pv 3) (fun _ _ => rfl)))
      (pss_cons (ps_if (pt_cmpR op_ge (pv 4) (pe_int) (nomark _)) (pss_cons (ps_asg (pe_op op_fdiv (pv 4) (pv 1)) (pg_sub (pv 2) (pv 3) set_list))
      (pss_one (ps_ret (pe_op op_mod (pv 4) (pv 1))))) pss_nil)
      (pss_cons (ps_asg (pe_op op_add (pe_ix ix_list (pv 0) (pe_int) (fun _ _ => rfl)) (pe_int)) (pg_sub (pv 0) (pe_int) set_list))
      (pss_cons (ps_set (i := 5) sc__law_take.nd rfl (by first | exact Or.inl rfl | exact Or.inr rfl) (pe_op op_mod (pe_callTy call_int1' (by rfl) T.n_int (by decide +kernel) (pa_cons (pe_op op_add (pe_op op_mul (pv 4) (pe_int)) (pe_op op_mul (pe_ix ix_list (pv 0) (pe_int) (fun _ _ => rfl)) (pe_int))) pa_nil)) (pe_int)))
      (pss_cons (ps_set (i := 5) sc__law_take.nd rfl (by first | exact Or.inl rfl | exact Or.inr rfl) (pe_op op_mod (pe_callTy call_int1' (by rfl) T.n_int (by decide +kernel) (pa_cons (pe_op op_add (pe_op op_mul (pv 5) (pe_int)) (pe_op op_mul (pe_ix ix_list (pv 0) (pe_int) (fun _ _ => rfl)) (pe_int))) pa_nil)) (pe_int)))
      (pss_one (ps_ret (pe_op op_mod (pe_op op_fdiv (pv 5) (pe_int)) (pv 1))))))))))), ?_⟩
    refine ⟨_, rfl, S, _, 1, .ref C, rfl, rfl, SqL.of h1, atI_nat (j := 1) rfl, ?_⟩
    refine ⟨_, rfl, S, _, 0, .int pos, rfl, rfl, SqL.of h1, atI_nat (j := 0) rfl, ?_⟩
    have hpl : 0 ≤ pos % (cells.length : Int) ∧ pos % (cells.length : Int) < (cells.length : Int) := ⟨Int.emod_nonneg _ (by omega), Int.emod_lt_of_pos _ (by omega)⟩
    refine ⟨_, rfl, C, _, rfl, Or.inl (SqL.of h2), _, _, rfl, rfl, by show (0 : Int) < ((cells.map V.int).length : Int); rw [List.length_map]; omega, ?_⟩
    rw [List.length_map]
    obtain ⟨v, hv, hat⟩ := at_in (xs := cells.map V.int) (i := pos % (cells.length : Int)) hpl.1 (by rw [List.length_map]; exact hpl.2)
    obtain ⟨x, hx, rfl⟩ : ∃ x, x ∈ cells ∧ V.int x = v := by
      rw [List.getElem?_map] at hv
      cases e : cells[(pos % (cells.length : Int)).toNat]? with
      | none => rw [e] at hv; cases hv
      | some x => rw [e] at hv; exact ⟨x, List.mem_of_getElem? e, Option.some.inj hv⟩
    have hx0 := h4 x hx
    refine ⟨_, rfl, _, rfl, C, _, _, _, rfl, rfl, SqL.of h2, hat, ?_⟩
    refine ⟨_, rfl, _, _, rfl, rfl, _, rfl, ?_⟩
    refine if2 (fun hz => ?_) (fun hz => ?_)
    · refine ⟨_, rfl, _, rfl, _, _, rfl, rfl, ⟨hm0, hm1⟩, ?_⟩
      refine ⟨_, rfl, _, rfl, C, _, _, _, rfl, rfl, h2, by rw [List.length_map]; exact ix_in hpl.1 hpl.2, ?_⟩
      refine ⟨_, rfl, _, rfl, _, _, rfl, rfl, hm0, ?_⟩
      refine k _ c _ (Int.emod_nonneg _ (by omega)) (Int.emod_lt_of_pos _ hm0) ⟨C, pos, cells.set (pos % (cells.length : Int)).toNat (x / m), c1, c2, ne, by rw [upd_ne ne]; exact h1, by rw [upd_same, map_int_set], ?_, ?_, h5⟩ ?_
      · intro e
        have := congrArg List.length e
        rw [List.length_set, List.length_nil] at this
        omega
      · intro y hy
        rcases List.mem_or_eq_of_mem_set hy with q | q
        · exact h4 y q
        · rw [q]; exact Int.ediv_nonneg hx0 (by omega)
      · exact Stp.own h2 c2 (fun xs z => by cases z)
    · refine ⟨_, rfl, S, _, 0, .int pos, rfl, rfl, SqL.of h1, atI_nat (j := 0) rfl, _, _, rfl, rfl, ?_⟩
      refine ⟨_, rfl, S, _, _, 0, rfl, rfl, h1, rfl, ?_⟩
      have h1' : (upd H S (.lst [.int (pos + 1), .ref C])) S = some (.lst [.int (pos + 1), .ref C]) := upd_same
      refine ⟨_, rfl, _, _, rfl, rfl, .inr ⟨by decide, by decide⟩, ?_⟩
      refine ⟨_, rfl, S, _, 0, .int (pos + 1), rfl, rfl, SqL.of h1', atI_nat (j := 0) rfl, _, _, rfl, rfl, .inr ⟨by decide, by decide⟩, _, _, rfl, rfl, ?_⟩
      refine Or.inl ⟨_, rfl, _, _, rfl, rfl, (by show (0 : Int) < 2147483647; decide), ?_⟩
      refine ⟨_, rfl, _, _, rfl, rfl, .inr ⟨by decide, by decide⟩, ?_⟩
      refine ⟨_, rfl, S, _, 0, .int (pos + 1), rfl, rfl, SqL.of h1', atI_nat (j := 0) rfl, _, _, rfl, rfl, .inr ⟨by decide, by decide⟩, _, _, rfl, rfl, ?_⟩
      refine Or.inl ⟨_, rfl, _, _, rfl, rfl, (by show (0 : Int) < 1000000007; decide), ?_⟩
      refine ⟨_, rfl, _, _, rfl, rfl, ⟨by decide, by decide⟩, ?_⟩
      refine ⟨_, rfl, _, _, rfl, rfl, hm0, ?_⟩
      refine k _ c _ (Int.emod_nonneg _ (by omega)) (Int.emod_lt_of_pos _ hm0) ⟨C, pos + 1, cells, c1, c2, ne, h1', by rw [upd_ne ne.symm]; exact h2, h3, h4, by omega⟩ ?_
      exact Stp.own h1 c1 (fun xs z => by cases z)
end
end Lw
namespace Lw
open PySem L2
/-- a comprehension whose items are drawn -/
theorem lc_draw {α : Type} {J : It} {xs : List V} {vs : List Nat} {σ : L2.St} {te : TE} {j : Nat} {Q : VK} {c : Addr → Nat} {H : Hp} {S : Addr} (w : Walk J xs.length (fun _ => True) (YAt xs)) (hz : xs.length ≤ 100000) (F : α → V) (G : α → Prop) (hS : StateAt c H S)
    (hw : ∀ x, wipe ((wipe σ vs).set j (some x)) vs = wipe σ vs)
    (he : ∀ x c1 H1 (R : VK), StateAt c1 H1 S → Stp (fun i => i = 0) c c1 H H1 → (∀ a c2 H2, G a → StateAt c2 H2 S → Stp (fun i => i = 0) c1 c2 H1 H2 → R (F a) H2) → te ((wipe σ vs).set j (some x)) H1 R)
    (k : ∀ q (l : List α) c' H', H q = none → l.length = xs.length → (∀ a ∈ l, G a) → StateAt c' H' S → Stp (fun i => i = 0) c c' H H' → H' q = some (.lst (l.map F)) → c' q = 9 → Q (.ref q) H') : kLc (gName j) tYes te vs σ Q J H := by
  intro D hD
  refine lc_it w (fun i H2 => ∃ (l : List α) (c2 : Addr → Nat), l.length = i ∧ (∀ a ∈ l, G a) ∧ StateAt c2 H2 S ∧ Stp (fun i => i = 0) c c2 H H2 ∧ c2 D = 9 ∧ H2 D = some (.lst (l.map F)))
    ⟨[], Stp.paint c D 9, rfl, by simp, hS.frame (I := fun _ => False) (Stp.newc hD) (by decide), Stp.newc hD, Stp.paint_same, upd_same⟩ (fun _ _ _ _ => trivial) (fun i x H2 H2' hi h y => ?_) (fun H2 h => ?_)
  · obtain ⟨e, hx⟩ := y
    subst e
    obtain ⟨l, c2, h1, h2, S2, st2, cD, hl⟩ := h
    refine ⟨hw x, ?_⟩
    show te _ H2' _
    refine he x c2 H2' _ S2 st2 fun a c3 H3 ga S3 st3 => ?_
    have hD3 := st3.keep _ _ hl (by rw [cD]; decide)
    refine ⟨_, hD3, ?_, l ++ [a], c3, by rw [List.length_append, h1]; rfl, fun b hb => ?_, S3.frame (I := fun i => i = 9) (Stp.own hD3 (by rw [st3.col _ _ hl, cD]) (fun xs z => by cases z)) (by decide), ?_, by rw [st3.col _ _ hl, cD], by rw [upd_same, List.map_append]; rfl⟩
    · rw [List.length_map, h1]
      exact Nat.lt_of_lt_of_le (show i < 200000 by omega) (by decide)
    · rcases List.mem_append.mp hb with z | z
      · exact h2 b z
      · rw [List.mem_singleton.mp z]; exact ga
    · have st4 := st2.trans st3
      exact ⟨fun b o e n => by rw [upd_ne (ne_of_none e hD)]; exact st4.keep b o e n, st4.col, fun b xs e => by rw [upd_ne (ne_of_none e hD)]; exact st4.tup b xs e, fun b e => by
        by_cases z : b = D
        · subst z; rw [upd_same] at e; cases e
        · rw [upd_ne z] at e; exact st4.fre b e⟩
  · obtain ⟨l, c2, h1, h2, S2, st2, cD, hl⟩ := h
    exact k D l c2 H2 hD h1 h2 S2 st2 hl cD
end Lw

/-! ## addresses, as the program reckons them -/
namespace Lw
open PySem L2
open PyProof.Rows (envOfC)
def P61 : Nat := 2305843009213693951
def hN (s : Nat) (t : List Nat) : Nat := t.foldl (fun v c => (v * 257 + c + 1) % P61) s
theorem hN_snoc (s : Nat) (t : List Nat) (c : Nat) : hN s (t ++ [c]) = (hN s t * 257 + c + 1) % P61 := by
  unfold hN
  rw [List.foldl_append]
  rfl
theorem hN_lt {s : Nat} (h : s < P61) : ∀ t : List Nat, hN s t < P61 := by
  intro t
  unfold hN
  induction t generalizing s with
  | nil => exact h
  | cons c t ih => exact ih (Nat.mod_lt _ (by decide))
/-- the number of a kind, from 1 -/
def kn (k : Str) : Nat := if k = "layer" then 1 else if k = "image" then 2 else 3
theorem kn_lt (k : Str) : kn k < 4 := by
  unfold kn
  split
  · decide
  · split <;> decide
def adrN (k : Str) (t : List Nat) : Nat := hN (kn k) t
theorem adrN_lt (k : Str) (t : List Nat) : adrN k t < P61 := hN_lt (Nat.lt_trans (kn_lt k) (by decide)) t
/-- the address of a text of a kind -/
def adr (k : Str) (t : List Nat) : Str := hexT (adrN k t)
def hexS : List Nat := [48, 49, 50, 51, 52, 53, 54, 55, 56, 57, 97, 98, 99, 100, 101, 102]
theorem hexS_eq : ("0123456789abcdef" : Str) = SX.S hexS := by decide +kernel
/-- sixteen hexadecimal signs -/
def isAdr (l : List Nat) : Bool := l.length == 16 && l.all fun c => decide (c ∈ hexS)
/-- the signs of an address -/
def adrL (k : Str) (t : List Nat) : List Nat := List.replicate (16 - ((Nat.toDigits 16 (adrN k t)).map Char.toNat).length) 48 ++ (Nat.toDigits 16 (adrN k t)).map Char.toNat
theorem adr_S (k : Str) (t : List Nat) : adr k t = SX.S (adrL k t) := rfl
theorem adrL_len (k : Str) (t : List Nat) : (adrL k t).length = 16 := by
  have h := adrN_lt k t
  have h2 : (Nat.toDigits 16 (adrN k t)).length ≤ 16 := (Nat.length_toDigits_le_iff (b := 16) (n := adrN k t) (k := 16) (by decide) (by decide)).mpr (Nat.lt_trans h (by decide))
  unfold adrL
  rw [List.length_append, List.length_replicate, List.length_map]
  omega
theorem digit_hex {c : Nat} (h : c < 16) : (Nat.digitChar c).toNat ∈ hexS := by
  have : ∀ c : Nat, c < 16 → (Nat.digitChar c).toNat ∈ hexS := by decide
  exact this c h
theorem digs_hex : ∀ (n : Nat), ∀ c ∈ Nat.toDigits 16 n, c.toNat ∈ hexS := by
  intro n
  induction n using Nat.strongRecOn with
  | _ n ih =>
    intro c hc
    by_cases h : n < 16
    · rw [Nat.toDigits_of_lt_base h] at hc
      rw [List.mem_singleton.mp hc]
      exact digit_hex h
    · rw [Nat.toDigits_of_base_le (by decide) (by omega)] at hc
      rcases List.mem_append.mp hc with z | z
      · exact ih (n / 16) (by omega) c z
      · rw [List.mem_singleton.mp z]
        exact digit_hex (Nat.mod_lt _ (by decide))
theorem adrL_hex (k : Str) (t : List Nat) : ∀ c ∈ adrL k t, c ∈ hexS := by
  intro c hc
  unfold adrL at hc
  rcases List.mem_append.mp hc with z | z
  · rw [List.eq_of_mem_replicate z]
    decide
  · obtain ⟨d, h1, rfl⟩ := List.mem_map.mp z
    exact digs_hex _ d h1
theorem adr_is (k : Str) (t : List Nat) : isAdr (adrL k t) = true := by
  unfold isAdr
  rw [adrL_len, Bool.and_eq_true]
  exact ⟨rfl, List.all_eq_true.mpr fun c hc => decide_eq_true (adrL_hex k t c hc)⟩
def spAddr : Sp := fun vs H Q _ => ∃ (k : Str) (t : List Nat), vs = [.str k, .str (SX.S t)] ∧ k ∈ kinds3 ∧ Q (.str (adr k t)) H
def spIsAdr : Sp := fun vs H Q _ => ∃ (l : List Nat), vs = [.str (SX.S l)] ∧ l.length ≤ 100000 ∧ Q (.bl (isAdr l)) H
theorem kinds_at : ∀ k ∈ kinds3, kinds3[kn k - 1]? = some k ∧ 0 < kn k ∧ ∀ m, m < kn k - 1 → kinds3[m]? ≠ some k := by
  intro k hk
  simp only [kinds3, List.mem_cons, List.not_mem_nil, or_false] at hk
  have e2 : kn "image" = 2 := by decide +kernel
  have e3 : kn "bundle" = 3 := by decide +kernel
  rcases hk with rfl | rfl | rfl
  · refine ⟨by decide +kernel, by decide +kernel, fun m hm => ?_⟩
    exact absurd hm (by rw [show kn "layer" = 1 by decide +kernel]; omega)
  · rw [e2]
    refine ⟨rfl, by decide, fun m hm => ?_⟩
    have : m = 0 := by omega
    subst this
    decide +kernel
  · rw [e3]
    refine ⟨rfl, by decide, fun m hm => ?_⟩
    have : m = 0 ∨ m = 1 := by omega
    rcases this with rfl | rfl <;> decide +kernel
section
variable {P : Program} {w : World} {K : PySem.W.Frag} {mg : Str → Option Value} {base : Heap} {a_KINDS : Addr}
theorem ok_address_of (T : Txt w K mg a_KINDS) : Cal P w K mg base 1 "address_of" spAddr := by
  refine cal_mk T.d_address_of sc_address_of (fun vs H Q E h => ?_) (fun f cdv A outer s H vs Q E hr h => ?_)
  · obtain ⟨k, t, rfl, _⟩ := h
    rfl
  · obtain ⟨k, t, rfl, hk, q⟩ := h
    obtain ⟨o, its, n, k1, k2, k3, k4, k5, k6⟩ := T.at_KINDS
    obtain ⟨a1, a2, a3⟩ := kinds_at k hk
    refine ⟨_, (pss_cons (ps_set (i := 2) sc_address_of.nd rfl (by first | exact Or.inl rfl | exact Or.inr rfl) (pe_op op_add (pe_bm PySem.F.plainAttrs_tuple PySem.F.slot_tuple_index PySem.F.type_tuple_index mt_tup_index (pe_gc rfl T.g_KINDS) (pa_cons (pv 0) pa_nil)) (pe_int)))
      (pss_cons (ps_for PassesOwn.never rfl (pi_str (pv 1)) (pg_name (i := 3) sc_address_of.nd rfl (by first | exact Or.inl rfl | exact Or.inr rfl)) (pss_one (ps_set (i := 2) sc_address_of.nd rfl (by first | exact Or.inl rfl | exact Or.inr rfl) (pe_op op_mod (pe_op op_add (pe_op op_add (pe_op op_mul (pv 2) (pe_int)) (pe_callB call_ord' (by rfl) T.n_ord (by decide +kernel) (pa_cons (pv 3) pa_nil))) (pe_int)) (pe_gc rfl T.g_PRIME)))))
      (pss_one (ps_ret (pe_joined1 (pe_hex (pv 2) (pe_joined1 pe_str))))))), ?_⟩
    walk_at "lw"
    refine ⟨Or.inr (Or.inl ⟨rfl, o, k1, k2, k3⟩), ?_⟩
    walk_at "lw"
    refine ⟨a_KINDS, kinds3, k, kn k - 1, rfl, rfl, .inr ⟨o, its, n, k1, k2, k4, k5, k6⟩, a1, a3, ?_⟩
    walk_at "lw"
    rw [show ((kn k - 1 : Nat) : Int) + 1 = (kn k : Int) by omega]
    refine for_at walk_sgs (fun i σ H' => H' = H ∧ ∃ v : Option V, σ = [some (.str k), some (.str (SX.S t)), some (.int (hN (kn k) (t.take i) : Nat)), v]) ⟨rfl, none, rfl⟩ (fun _ _ _ _ => trivial) ?_ ?_
    · rintro i x σ H' hx ⟨rfl, v, rfl⟩
      obtain ⟨c, hc, rfl⟩ : ∃ c, t[i]? = some c ∧ V.str (SX.S [c]) = x := by
        unfold sgs at hx
        rw [List.getElem?_map] at hx
        cases e : t[i]? with
        | none => rw [e] at hx; cases hx
        | some c => rw [e] at hx; exact ⟨c, rfl, Option.some.inj hx⟩
      walk_at "lw"
      refine ⟨rfl, some (.str (SX.S [c])), ?_⟩
      rw [take_ok hc, hN_snoc]
      have e : ((hN (kn k) (t.take i) : Nat) : Int) * 257 + (c : Int) + 1 = ((hN (kn k) (t.take i) * 257 + c + 1 : Nat) : Int) := by omega
      have e2 : (((hN (kn k) (t.take i) * 257 + c + 1 : Nat) : Int)) % 2305843009213693951 = (((hN (kn k) (t.take i) * 257 + c + 1) % P61 : Nat) : Int) := by
        unfold P61; omega
      rw [e, e2]
      rfl
    · rintro σ H' ⟨rfl, v, rfl⟩
      rw [show (sgs t).length = t.length by unfold sgs; rw [List.length_map], List.take_length]
      walk_at "lw"
      refine g_hex ?_
      walk_at "lw"
      refine ⟨hN (kn k) t, rfl, Nat.lt_trans (adrN_lt k t) (by decide), ?_⟩
      walk_at "lw"
      exact q
theorem ok_is_address (T : Txt w K mg a_KINDS) : Cal P w K mg base 1 "is_address" spIsAdr := by
  refine cal_mk T.d_is_address sc_is_address (fun vs H Q E h => ?_) (fun f cdv A outer s H vs Q E hr h => ?_)
  · obtain ⟨l, rfl, _⟩ := h
    rfl
  · obtain ⟨l, rfl, hl, q⟩ := h
    refine ⟨_, (pss_cons (ps_if (pt_cmpR op_ne (pe_callB call_len_str' (by rfl) T.n_len (by decide +kernel) (pa_cons (pv 0) pa_nil)) (pe_int) (nomark _)) (pss_one (ps_ret (pe_bl))) pss_nil)
      (pss_cons (ps_for PassesOwn.never rfl (pi_str (pv 0)) (pg_name (i := 1) sc_is_address.nd rfl (by first | exact Or.inl rfl | exact Or.inr rfl)) (pss_one (ps_if (pt_cmpR op_notInSg (pv 1) (pe_gc rfl T.g_DIGITS) (by rfl)) (pss_one (ps_ret (pe_bl))) pss_nil)))
      (pss_one (ps_ret (pe_bl))))), ?_⟩
    walk_at "lw"
    refine g_lenT (by rw [SX.S_len]; exact Nat.le_trans hl (by decide)) ?_
    rw [SX.S_len]
    walk_at "lw"
    refine ifn2 (fun h16 => ?_) (fun h16 => ?_)
    · have h16 : l.length = 16 := by have := int_eq.mp h16; omega
      walk_at "lw"
      refine for_at walk_sgs (fun i σ H' => H' = H ∧ (∀ c ∈ l.take i, c ∈ hexS) ∧ ∃ v : Option V, σ = [some (.str (SX.S l)), v]) ⟨rfl, by simp, none, rfl⟩ (fun _ _ _ _ => trivial) ?_ ?_
      · rintro i x σ H' hx ⟨rfl, hi, v, rfl⟩
        obtain ⟨c, hc, rfl⟩ : ∃ c, l[i]? = some c ∧ V.str (SX.S [c]) = x := by
          unfold sgs at hx
          rw [List.getElem?_map] at hx
          cases e : l[i]? with
          | none => rw [e] at hx; cases hx
          | some c => rw [e] at hx; exact ⟨c, rfl, Option.some.inj hx⟩
        walk_at "lw"
        refine ifn2 (fun hm => ?_) (fun hm => ?_)
        · walk_at "lw"
          refine ⟨rfl, fun d hd => ?_, _, rfl⟩
          rw [take_ok hc] at hd
          rcases List.mem_append.mp hd with z | z
          · exact hi d z
          · rw [List.mem_singleton.mp z]
            rw [hexS_eq] at hm
            simpa using hm
        · walk_at "lw"
          have e : isAdr l = false := by
            unfold isAdr
            rw [Bool.and_eq_false_iff]
            right
            rw [List.all_eq_false]
            refine ⟨c, List.mem_of_getElem? hc, ?_⟩
            rw [hexS_eq] at hm
            simpa using hm
          rw [e] at q
          exact q
      · rintro σ H' ⟨rfl, hi, v, rfl⟩
        rw [show (sgs l).length = l.length by unfold sgs; rw [List.length_map], List.take_length] at hi
        walk_at "lw"
        have e : isAdr l = true := by
          unfold isAdr
          rw [Bool.and_eq_true]
          exact ⟨by rw [h16]; rfl, List.all_eq_true.mpr fun c hc => decide_eq_true (hi c hc)⟩
        rw [e] at q
        exact q
    · walk_at "lw"
      have e : isAdr l = false := by
        unfold isAdr
        rw [Bool.and_eq_false_iff]
        left
        exact beq_false_of_ne fun z => h16 (by rw [z]; rfl)
      rw [e] at q
      exact q
end
end Lw

/-! ## the law's own reckoning -/
namespace Lw
open PySem L2
open PyProof.Rows (envOfC)
def hx (c : Nat) : Nat := if c < 58 then c - 48 else c - 87
def hexV (l : List Nat) : Nat := l.foldl (fun v c => v * 16 + hx c) 0
theorem hexV_snoc (l : List Nat) (c : Nat) : hexV (l ++ [c]) = hexV l * 16 + hx c := by
  unfold hexV
  rw [List.foldl_append]
  rfl
theorem hx_digit {c : Nat} (h : c < 16) : hx (Nat.digitChar c).toNat = c := by
  have : ∀ c : Nat, c < 16 → hx (Nat.digitChar c).toNat = c := by decide
  exact this c h
theorem hexV_digs (n : Nat) : hexV ((Nat.toDigits 16 n).map Char.toNat) = n := by
  induction n using Nat.strongRecOn with
  | _ n ih =>
    by_cases h : n < 16
    · rw [Nat.toDigits_of_lt_base h]
      show 0 * 16 + hx (Nat.digitChar n).toNat = n
      rw [hx_digit h]; omega
    · rw [Nat.toDigits_of_base_le (by decide) (by omega), List.map_append, List.map_cons, List.map_nil, hexV_snoc, ih (n / 16) (by omega), hx_digit (Nat.mod_lt _ (by decide))]
      omega
theorem hexV_zeros : ∀ (k : Nat) (l : List Nat), hexV (List.replicate k 48 ++ l) = hexV l := by
  intro k l
  unfold hexV
  rw [List.foldl_append]
  have e : (List.replicate k 48).foldl (fun v c => v * 16 + hx c) 0 = 0 := by
    induction k with
    | zero => rfl
    | succ k ih => rw [List.replicate_succ, List.foldl_cons]; exact ih
  rw [e]
theorem hexV_adr (k : Str) (t : List Nat) : hexV (adrL k t) = adrN k t := by
  unfold adrL
  rw [hexV_zeros, hexV_digs]
theorem hx_ix : ∀ c ∈ hexS, Builtin.Str.occurrences "0123456789abcdef" (SX.S [c]) 0 ("0123456789abcdef" : Str).length 1 = [hx c] := by decide +kernel
def nhx : V → Bool
  | .str z => !decide (z.cps.toList.headD 0 ∈ hexS)
  | _ => false
theorem nhx_no {l : List Nat} : (((sgs l).filter nhx).length = 0) ↔ ∀ c ∈ l, c ∈ hexS := by
  rw [List.length_eq_zero_iff, List.filter_eq_nil_iff]
  constructor
  · intro h c hc
    have := h (.str (SX.S [c])) (List.mem_map.mpr ⟨c, hc, rfl⟩)
    simpa [nhx] using this
  · intro h v hv
    obtain ⟨c, hc, rfl⟩ := List.mem_map.mp hv
    simpa [nhx] using h c hc
def spNumber (K : PySem.W.Frag) : Sp := fun vs H Q _ => ∃ (k : Str) (p : Addr) (t : List Nat), vs = [.str k, .ref p] ∧ k ∈ kinds3 ∧ H p = some (.lst (t.map fun c => V.int (c : Nat))) ∧ ∀ H', Same H H' → Q (.int (adrN k t : Nat)) H'
def spRead : Sp := fun vs H Q _ => ∃ (l : List Nat), vs = [.str (SX.S l)] ∧ (∀ c ∈ l, c ∈ hexS) ∧ Q (.int (hexV l : Nat)) H
def spGood : Sp := fun vs H Q _ => ∃ (l : List Nat), vs = [.str (SX.S l)] ∧ l.length ≤ 100000 ∧ ∀ H', Same H H' → Q (.bl (isAdr l)) H'
theorem kinds_ne : ∀ k ∈ kinds3, ∀ (m : Nat) (z' : V), m < kn k - 1 → (kinds3.map V.str)[m]? = some z' → eqV z' (.str k) = false := by
  intro k hk m z' hm hz
  obtain ⟨_, _, h⟩ := kinds_at k hk
  have h2 := h m hm
  rw [List.getElem?_map] at hz
  cases e : kinds3[m]? with
  | none => rw [e] at hz; cases hz
  | some z =>
    rw [e] at hz
    cases hz
    rw [e] at h2
    show (z == k) = false
    exact beq_eq_false_iff_ne.mpr fun q => h2 (by rw [q])
section
variable {P : Program} {w : World} {K : PySem.W.Frag} {mg : Str → Option Value} {base : Heap} {a_KINDS : Addr}
theorem ok__law_number (T : Txt w K mg a_KINDS) : Cal P w K mg base 1 "_law_number" (spNumber K) := by
  refine cal_mk T.d__law_number sc__law_number (fun vs H Q E h => ?_) (fun f cdv A outer s H vs Q E hr h => ?_)
  · obtain ⟨k, p, t, rfl, _⟩ := h
    rfl
  · obtain ⟨k, p, t, rfl, hk, hp, q⟩ := h
    obtain ⟨a1, a2, a3⟩ := kinds_at k hk
    refine ⟨_, (pss_cons (ps_set (i := 2) sc__law_number.nd rfl (by first | exact Or.inl rfl | exact Or.inr rfl) (pe_op op_add (pe_int) (pe_bm PySem.F.plainAttrs_list PySem.F.slot_list_index PySem.F.type_list_index mt_index (pe_lst (pa_cons (pe_str) (pa_cons (pe_str) (pa_cons (pe_str) pa_nil)))) (pa_cons (pv 0) pa_nil))))
      (pss_cons (ps_for PassesOwn.never rfl (pi_list (pv 1)) (pg_name (i := 3) sc__law_number.nd rfl (by first | exact Or.inl rfl | exact Or.inr rfl)) (pss_one (ps_set (i := 2) sc__law_number.nd rfl (by first | exact Or.inl rfl | exact Or.inr rfl) (pe_op op_mod (pe_callTy call_int1' (by rfl) T.n_int (by decide +kernel) (pa_cons (pe_op op_add (pe_op op_add (pe_op op_mul (pv 2) (pe_int)) (pv 3)) (pe_int)) pa_nil)) (pe_int)))))
      (pss_one (ps_ret (pv 2))))), ?_⟩
    walk_at "lw"
    refine g_klst (by show 3 ≤ 100; decide) fun q1 H1 n1 s1 h1 => ?_
    refine g_tyL h1 ?_
    walk_at "lw"
    have e0 : (kinds3.map V.str)[kn k - 1]? = some (.str k) := by rw [List.getElem?_map, a1]; rfl
    refine ⟨q1, kinds3.map V.str, .str k, kn k - 1, .str k, rfl, rfl, SqL.of h1, rfl, by decide, e0, ?_, kinds_ne k hk, ?_⟩
    · show (k == k) = true
      exact beq_self_eq_true _
    walk_at "lw"
    refine g_ritL (SqL.of (s1 _ _ hp)) ?_
    refine for_at walk_list (fun i σ H' => H' = H1 ∧ ∃ v : Option V, σ = [some (.str k), some (.ref p), some (.int (hN (kn k) (t.take i) : Nat)), v]) ⟨rfl, none, ?_⟩ (fun i σ H' h => by obtain ⟨rfl, _⟩ := h; exact SqL.of (s1 _ _ hp)) ?_ ?_
    · rw [show (1 : Int) + ((kn k - 1 : Nat) : Int) = (kn k : Int) by omega]
      rfl
    · rintro i x σ H' hx ⟨rfl, v, rfl⟩
      obtain ⟨c, hc, rfl⟩ := map_at hx
      walk_at "lw"
      refine ⟨rfl, some (.int (c : Nat)), ?_⟩
      rw [take_ok hc, hN_snoc]
      have e : ((hN (kn k) (t.take i) : Nat) : Int) * 257 + (c : Int) + 1 = ((hN (kn k) (t.take i) * 257 + c + 1 : Nat) : Int) := by omega
      have e2 : (((hN (kn k) (t.take i) * 257 + c + 1 : Nat) : Int)) % 2305843009213693951 = (((hN (kn k) (t.take i) * 257 + c + 1) % P61 : Nat) : Int) := by
        unfold P61; omega
      rw [e, e2]
      rfl
    · rintro σ H' ⟨rfl, v, rfl⟩
      rw [List.length_map, List.take_length]
      walk_at "lw"
      exact q _ s1
theorem ok__law_read (T : Txt w K mg a_KINDS) : Cal P w K mg base 1 "_law_read" spRead := by
  refine cal_mk T.d__law_read sc__law_read (fun vs H Q E h => ?_) (fun f cdv A outer s H vs Q E hr h => ?_)
  · obtain ⟨l, rfl, _⟩ := h
    rfl
  · obtain ⟨l, rfl, hl, q⟩ := h
    refine ⟨_, (pss_cons (ps_set (i := 1) sc__law_read.nd rfl (by first | exact Or.inl rfl | exact Or.inr rfl) (pe_int))
      (pss_cons (ps_for PassesOwn.never rfl (pi_str (pv 0)) (pg_name (i := 2) sc__law_read.nd rfl (by first | exact Or.inl rfl | exact Or.inr rfl)) (pss_one (ps_set (i := 1) sc__law_read.nd rfl (by first | exact Or.inl rfl | exact Or.inr rfl) (pe_op op_add (pe_op op_mul (pv 1) (pe_int)) (pe_bm PySem.F.plainAttrs_str PySem.F.slot_str_index PySem.F.type_str_index mt_sindex (pe_str) (pa_cons (pv 2) pa_nil))))))
      (pss_one (ps_ret (pv 1))))), ?_⟩
    walk_at "lw"
    refine for_at walk_sgs (fun i σ H' => H' = H ∧ ∃ v : Option V, σ = [some (.str (SX.S l)), some (.int (hexV (l.take i) : Nat)), v]) ⟨rfl, none, rfl⟩ (fun _ _ _ _ => trivial) ?_ ?_
    · rintro i x σ H' hxi ⟨rfl, v, rfl⟩
      obtain ⟨c, hc, rfl⟩ := sgs_at hxi
      walk_at "lw"
      refine ⟨_, _, hx c, [], rfl, rfl, hx_ix c (hl c (List.mem_of_getElem? hc)), ?_⟩
      walk_at "lw"
      refine ⟨rfl, some (.str (SX.S [c])), ?_⟩
      rw [take_ok hc, hexV_snoc]
      have e : ((hexV (l.take i) : Nat) : Int) * 16 + (hx c : Int) = ((hexV (l.take i) * 16 + hx c : Nat) : Int) := by omega
      rw [e]
      rfl
    · rintro σ H' ⟨rfl, v, rfl⟩
      rw [show (sgs l).length = l.length by unfold sgs; rw [List.length_map], List.take_length]
      walk_at "lw"
      exact q
theorem ok__law_good (T : Txt w K mg a_KINDS) : Cal P w K mg base 1 "_law_good" spGood := by
  refine cal_mk T.d__law_good sc__law_good (fun vs H Q E h => ?_) (fun f cdv A outer s H vs Q E hr h => ?_)
  · obtain ⟨l, rfl, _⟩ := h
    rfl
  · obtain ⟨l, rfl, hl, q⟩ := h
    refine ⟨_, (pss_cons (ps_if (pt_cmpR op_ne (pe_callB call_len_str' (by rfl) T.n_len (by decide +kernel) (pa_cons (pv 0) pa_nil)) (pe_int) (nomark _)) (pss_one (ps_ret (pe_bl))) pss_nil)
      (pss_one (ps_ret (pe_cmpR op_eq (pe_callB call_len_seq' (by rfl) T.n_len (by decide +kernel) (pa_cons (pe_lc (own := [("_law_character", 1)]) (g := (gName 1)) (by rfl) sc__law_good.nd (pi_str (pv 0)) (blkOk_by (own := [("_law_character", 1)]) (N := n__law_good) (sc := defScope s__law_good) (by decide +kernel)) (fun _ _ _ _ _ => (pg_name (i := 1) sc__law_good.nd rfl (by first | exact Or.inl rfl | exact Or.inr rfl))) (fun _ _ _ _ _ => (pts_one (pt_cmpR op_notInSg (pv 1) (pe_str) (by rfl)))) (fun _ _ _ _ _ => (pv 1))) pa_nil)) (pe_int) (nomark _))))), ?_⟩
    walk_at "lw"
    refine g_lenT (by rw [SX.S_len]; exact Nat.le_trans hl (by decide)) ?_
    rw [SX.S_len]
    walk_at "lw"
    refine ifn2 (fun h16 => ?_) (fun h16 => ?_)
    · have h16 : l.length = 16 := by have := int_eq.mp h16; omega
      walk_at "lw"
      refine lc_map walk_sgs (fun _ _ => trivial) (by rw [sgs_len]; exact hl) nhx id ?_ ?_
      · intro x hx H' R s1 k
        obtain ⟨c, hc, rfl⟩ := List.mem_map.mp hx
        walk_at "lw"
        refine k _ rfl (fun H'' R s2 r => ?_) (fun hp H'' R s2 r => ?_)
        · walk_at "lw"
          rw [hexS_eq]
          simpa [nhx] using r
        · walk_at "lw"
          exact r _ (Same.refl _)
      · intro p H' np s1 hp
        walk_at "lw"
        have e : isAdr l = decide (V.int (((sgs l).filter nhx).length : Int) = V.int 0) := by
          unfold isAdr
          rw [h16, Bool.eq_iff_iff, decide_eq_true_eq, int_eq]
          rw [show ((((sgs l).filter nhx).length : Int) = 0) ↔ (((sgs l).filter nhx).length = 0) by omega, nhx_no]
          simp
        have q := q H' s1
        rw [e] at q
        rw [List.map_id]
        exact q
    · walk_at "lw"
      have e : isAdr l = false := by
        unfold isAdr
        rw [Bool.and_eq_false_iff]
        left
        exact beq_false_of_ne fun z => h16 (by rw [z]; rfl)
      rw [e] at q
      exact q H (Same.refl H)
end
end Lw

/-! ## the law -/
namespace Lw
open PySem L2
open PyProof.Rows (envOfC)
def signs94 : List Nat := (List.range 94).map fun p => 32 + p + (if 4 < p then 1 else 0)
theorem signs94_eq : (" !\"#$&'()*+,-./0123456789:;<=>?@ABCDEFGHIJKLMNOPQRSTUVWXYZ[\\]^_`abcdefghijklmnopqrstuvwxyz{|}~" : Str) = SX.S signs94 := by decide +kernel
def cd94 (p : Nat) : Nat := 32 + p + (if 4 < p then 1 else 0)
theorem signs94_at {p : Nat} (h : p < 94) : signs94[p]? = some (cd94 p) := by
  unfold signs94
  rw [List.getElem?_map, List.getElem?_range h]
  rfl
def spLaw (K : PySem.W.Frag) : Sp := fun vs H Q _ => ∃ (a : Addr) (ns : List Int), vs = [.ref a] ∧ SqL K H a (ns.map V.int) ∧ ns.length ≤ 63 ∧ ∀ H', Q (.bl true) H'
def pieces : List (List Nat) := [[], [48], [102], [103], [65], [32], [55, 97], [70]]
theorem pieces_eq : (["", "0", "f", "g", "A", " ", "7a", "F"] : List Str) = pieces.map SX.S := by decide +kernel
theorem kinds_eq : PyData.eqv (.tuple [.str "layer", .str "image", .str "bundle"]) (.tuple [.str "layer", .str "image", .str "bundle"]) = true := by decide +kernel
section
variable {P : Program} {w : World} {K : PySem.W.Frag} {mg : Str → Option Value} {base : Heap} {a_KINDS : Addr}
theorem ok_law (T : Txt w K mg a_KINDS) {f : Addr} {fd : FuncData} (F : Fun K "law" "law" s_law f fd) : FnOk P w K mg base CX0 4 f fd ["_law_script"] (spLaw K) := by
  have c__law_state : Cal P w K mg base 1 "_law_state" (spState K) := ok__law_state T
  have c__law_take : Cal P w K mg base 1 "_law_take" spTake := ok__law_take T
  have c__law_number : Cal P w K mg base 1 "_law_number" (spNumber K) := ok__law_number T
  have c__law_read : Cal P w K mg base 1 "_law_read" spRead := ok__law_read T
  have c__law_good : Cal P w K mg base 1 "_law_good" spGood := ok__law_good T
  have c_address_of : Cal P w K mg base 1 "address_of" spAddr := ok_address_of T
  have c_is_address : Cal P w K mg base 1 "is_address" spIsAdr := ok_is_address T
  refine F.ok sc_law (fun vs H Q E h => ?_) (fun cdv A outer s H vs Q E hr h => ?_)
  · obtain ⟨a, ns, rfl, _⟩ := h
    rfl
  · obtain ⟨sc, ns, rfl, hS, hlen, k⟩ := h
    obtain ⟨o, its, n, k1, k2, k3, k4, k5, k6⟩ := T.at_KINDS
    have hK : ∀ H', SqT K H' a_KINDS (kinds3.map V.str) := fun H' => .inr ⟨o, its, n, k1, k2, k4, k5, k6⟩
    refine ⟨_, (pss_cons (ps_set (i := 1) sc_law.nd rfl (by first | exact Or.inl rfl | exact Or.inr rfl) (pe_c c__law_state hr (by decide) rfl (pa_cons (pv 0) pa_nil)))
      (pss_cons (ps_set (i := 2) sc_law.nd rfl (by first | exact Or.inl rfl | exact Or.inr rfl) (pe_ix ix_list (pe_lst (pa_cons (pe_str) (pa_cons (pe_str) (pa_cons (pe_str) pa_nil)))) (pe_c c__law_take hr (by decide) rfl (pa_cons (pv 1) (pa_cons (pe_int) pa_nil))) (fun _ _ => rfl)))
      (pss_cons (ps_set (i := 3) sc_law.nd rfl (by first | exact Or.inl rfl | exact Or.inr rfl) (pe_str))
      (pss_cons (ps_setLc (i := 4) (own := [("_law_k", 11)]) (g := (gName 11)) (by rfl) sc_law.nd rfl rfl (sw_true rfl rfl rfl (by decide +kernel)) (pi_range1 (by rfl) T.n_range (pa_cons (pe_c c__law_take hr (by decide) rfl (pa_cons (pv 1) (pa_cons (pe_int) pa_nil))) pa_nil)) (blkOk_by (own := [("_law_k", 11)]) (N := n_law) (sc := defScope s_law) (by decide +kernel)) (fun _ _ _ _ _ => (pg_name (i := 11) sc_law.nd rfl (by first | exact Or.inl rfl | exact Or.inr rfl))) (fun _ _ _ _ _ => pts_nil) (fun _ _ _ _ _ => (pe_c c__law_take hr (by decide) rfl (pa_cons (pv 1) (pa_cons (pe_int) pa_nil)))))
      (pss_cons (ps_setLc (i := 5) (own := [("_law_place", 12)]) (g := (gName 12)) (by rfl) sc_law.nd rfl rfl (sw_true rfl rfl rfl (by decide +kernel)) (pi_list (pv 4)) (blkOk_by (own := [("_law_place", 12)]) (N := n_law) (sc := defScope s_law) (by decide +kernel)) (fun _ _ _ _ _ => (pg_name (i := 12) sc_law.nd rfl (by first | exact Or.inl rfl | exact Or.inr rfl))) (fun _ _ _ _ _ => pts_nil) (fun _ _ _ _ _ => (pe_op op_add (pe_op op_add (pe_int) (pv 12)) (pe_callTy call_int1' (by rfl) T.n_int (by decide +kernel) (pa_cons (pe_cmpR op_gt (pv 12) (pe_int) (nomark _)) pa_nil)))))
      (pss_cons (ps_set (i := 6) sc_law.nd rfl (by first | exact Or.inl rfl | exact Or.inr rfl) (pe_join (pe_str) (pe_lc (own := [("_law_place", 12)]) (g := (gName 12)) (by rfl) sc_law.nd (pi_list (pv 4)) (blkOk_by (own := [("_law_place", 12)]) (N := n_law) (sc := defScope s_law) (by decide +kernel)) (fun _ _ _ _ _ => (pg_name (i := 12) sc_law.nd rfl (by first | exact Or.inl rfl | exact Or.inr rfl))) (fun _ _ _ _ _ => pts_nil) (fun _ _ _ _ _ => (pe_ix ix_str (pv 3) (pv 12) (fun _ _ => rfl))))))
      (pss_cons (ps_set (i := 7) sc_law.nd rfl (by first | exact Or.inl rfl | exact Or.inr rfl) (pe_c c_address_of hr (by decide) rfl (pa_cons (pv 2) (pa_cons (pv 6) pa_nil))))
      (pss_cons (ps_if (PW.pt (pw_or (pt_not (pt_val (pe_callB call_isi (by rfl) T.n_isinstance (by decide +kernel) (pa_cons (pv 7) (pa_cons (pe_bltn (v := .ty "str") (u := .type "str") (by rfl) T.n_str (by decide +kernel) rfl) pa_nil))))) (pw_or (pt_not (pt_val (pe_c c__law_good hr (by decide) rfl (pa_cons (pv 7) pa_nil)))) (pw_or1 (pt_cmpR op_ne (pe_c c__law_read hr (by decide) rfl (pa_cons (pv 7) pa_nil)) (pe_c c__law_number hr (by decide) rfl (pa_cons (pv 2) (pa_cons (pv 5) pa_nil))) (nomark _)))))) (pss_one (ps_ret (pe_bl))) pss_nil)
      (pss_cons (ps_if (PW.pt (pw_or (pt_cmpR (op_neD hr.units) (pe_callTy call_tuple_of (by rfl) T.n_tuple (by decide +kernel) (pa_cons (pe_gc rfl T.g_KINDS) pa_nil)) (pe_tup (pa_cons (pe_str) (pa_cons (pe_str) (pa_cons (pe_str) pa_nil)))) (nomark _)) (pw_or1 (pt_cmpR op_notBl (pe_c c_is_address hr (by decide) rfl (pa_cons (pv 7) pa_nil)) (pe_bl) (by rfl))))) (pss_one (ps_ret (pe_bl))) pss_nil)
      (pss_cons (ps_set (i := 8) sc_law.nd rfl (by first | exact Or.inl rfl | exact Or.inr rfl) (pe_c c__law_take hr (by decide) rfl (pa_cons (pv 1) (pa_cons (pe_int) pa_nil))))
      (pss_cons (ps_set (i := 9) sc_law.nd rfl (by first | exact Or.inl rfl | exact Or.inr rfl) (pe_ix ix_list (pe_lst (pa_cons (pe_str) (pa_cons (pe_str) (pa_cons (pe_str) (pa_cons (pe_str) (pa_cons (pe_str) (pa_cons (pe_str) (pa_cons (pe_str) (pa_cons (pe_str) pa_nil))))))))) (pe_c c__law_take hr (by decide) rfl (pa_cons (pv 1) (pa_cons (pe_int) pa_nil))) (fun _ _ => rfl)))
      (pss_cons (ps_set (i := 10) sc_law.nd rfl (by first | exact Or.inl rfl | exact Or.inr rfl) (pe_op op_cat_str (pe_op op_cat_str (pe_slice C8.sl_txt (pv 7) po_none (po_some (pv 8))) (pv 9)) (pe_slice C8.sl_txt (pv 7) (po_some (pe_op op_add (pv 8) (pe_c c__law_take hr (by decide) rfl (pa_cons (pv 1) (pa_cons (pe_int) pa_nil))))) po_none)))
      (pss_one (ps_ret (pe_cmpR op_eq (pe_callB call_repr_bool (by rfl) T.n_repr (by decide +kernel) (pa_cons (pe_c c_is_address hr (by decide) rfl (pa_cons (pv 10) pa_nil)) pa_nil)) (pe_callB call_repr_bool (by rfl) T.n_repr (by decide +kernel) (pa_cons (pe_c c__law_good hr (by decide) rfl (pa_cons (pv 10) pa_nil)) pa_nil)) (nomark _)))))))))))))))), ?_⟩
    walk_at "lw"
    refine ⟨sc, ns, fun _ => 9, rfl, hS, hlen, fun S c1 H1 S1 st1 => ?_⟩
    walk_at "lw"
    refine g_klst (by show 3 ≤ 100; decide) fun q1 H2 n1 s1 h1 => ?_
    have S2 := S1.frame (L2x_sameN (I := fun _ => False) (i := 9) s1 n1) (by decide)
    have cq : Stp.paint c1 q1 9 q1 = 9 := Stp.paint_same
    generalize Stp.paint c1 q1 9 = c1' at S2 cq
    walk_at "lw"
    refine ⟨c1', S, 3, rfl, S2, by decide, by decide, fun r c2 H3 r0 r1 S3 st3 => ?_⟩
    have h3 := st3.keep _ _ h1 (by rw [cq]; decide)
    obtain ⟨kd, hkd, hat⟩ : ∃ kd ∈ kinds3, atI ([.str "layer", .str "image", .str "bundle"] : List V) r = some (.str kd) := by
      have : r = 0 ∨ r = 1 ∨ r = 2 := by omega
      rcases this with rfl | rfl | rfl
      · exact ⟨"layer", by decide +kernel, rfl⟩
      · exact ⟨"image", by decide +kernel, rfl⟩
      · exact ⟨"bundle", by decide +kernel, rfl⟩
    refine g_rix (SqL.of h3) hat ?_
    walk_at "lw"
    refine ⟨c2, S, 31, rfl, S3, by decide, by decide, fun m c3 H4 m0 m1 S4 st4 => ?_⟩
    walk_at "lw"
    refine g_ritR m0 (by omega) ?_
    refine lc_draw walk_rng (by rw [List.length_map, List.length_range]; omega) (fun p : Nat => V.int (p : Nat)) (fun p => p < 94) S4 (fun x => rfl) (fun x c5 H5 R S5 st5 kk => ?_) ?_
    · walk_at "lw"
      refine ⟨c5, S, 94, rfl, S5, by decide, by decide, fun p c6 H6 p0 p1 S6 st6 => ?_⟩
      obtain ⟨p, rfl⟩ := Int.eq_ofNat_of_zero_le p0
      exact kk p c6 H6 (by omega) S6 st6
    · intro pl ps c5 H5 npl hlen2 hps S5 st5 hpl cpl
      rw [List.length_map, List.length_range] at hlen2
      walk_at "lw"
      refine g_ritL (SqL.of hpl) ?_
      refine lc_map (G := fun H' => SqL K H' pl (ps.map fun p : Nat => V.int (p : Nat))) walk_list (fun H' s => SqL.of (s _ _ hpl)) (by rw [List.length_map]; omega) (fun _ => true) (fun v => match v with | .int p => .int (32 + p + (if decide (4 < p) = true then 1 else 0)) | _ => v) ?_ ?_
      · intro x hx H' R s1 kk
        obtain ⟨p, hp, rfl⟩ := List.mem_map.mp hx
        walk_at "lw"
        refine kk _ rfl (fun H'' R s2 r => ?_) (fun hp H'' R s2 r => ?_)
        · walk_at "lw"
          exact r
        · walk_at "lw"
          exact r _ (Same.refl _)
      · intro cl H6 ncl s6 hcl
        walk_at "lw"
        have hpl6 := s6 _ _ hpl
        refine g_ritL (SqL.of hpl6) ?_
        refine lc_map (G := fun H' => SqL K H' pl (ps.map fun p : Nat => V.int (p : Nat))) walk_list (fun H' s => SqL.of (s _ _ hpl6)) (by rw [List.length_map]; omega) (fun _ => true) (fun v => match v with | .int p => .str (SX.S [cd94 p.toNat]) | _ => v) ?_ ?_
        · intro x hx H' R s1 kk
          obtain ⟨p, hp, rfl⟩ := List.mem_map.mp hx
          walk_at "lw"
          refine kk _ rfl (fun H'' R s2 r => ?_) (fun hp' H'' R s2 r => ?_)
          · walk_at "lw"
            exact r
          · walk_at "lw"
            refine ⟨_, (p : Int), cd94 p, rfl, rfl, by decide +kernel, ?_, ?_⟩
            · rw [signs94_eq]
              exact atI_nat (signs94_at (hps p hp))
            · exact r _ (Same.refl _)
        · intro tl H7 ntl s7 htl
          rw [List.filter_eq_self.mpr (fun _ _ => rfl), List.map_map] at hcl htl
          have et : (ps.map ((fun v => match v with | V.int p => V.str (SX.S [cd94 p.toNat]) | _ => v) ∘ fun p : Nat => V.int (p : Nat))) = ((ps.map cd94).map fun c => SX.S [c]).map V.str := by
            rw [List.map_map, List.map_map]
            rfl
          have ec : (ps.map ((fun v => match v with | V.int p => V.int (32 + p + (if decide (4 < p) = true then 1 else 0)) | _ => v) ∘ fun p : Nat => V.int (p : Nat))) = (ps.map cd94).map fun c => V.int (c : Nat) := by
            rw [List.map_map]
            refine List.map_congr_left fun p hp => ?_
            show V.int (32 + (p : Int) + (if decide (4 < (p : Int)) = true then 1 else 0)) = V.int (cd94 p : Nat)
            unfold cd94
            by_cases h : 4 < p
            · rw [if_pos h, if_pos (decide_eq_true (by omega))]
              rfl
            · rw [if_neg h, if_neg (by rw [decide_eq_true_eq]; omega)]
              rfl
          rw [et] at htl
          rw [ec] at hcl
          have S7 : StateAt c5 H7 S := (S5.frame (Stp.same (I := fun _ => False) s6) (by decide)).frame (Stp.same (I := fun _ => False) s7) (by decide)
          have hcl7 := s7 _ _ hcl
          generalize hcs : ps.map cd94 = cs at htl hcl hcl7
          have hlcs : cs.length ≤ 30 := by rw [← hcs, List.length_map]; omega
          clear et ec hcl hpl6 hpl s6 s7 st5 st4 st3 h3 h1 hat S5 S4 S3 S2 cq
          refine ⟨"", tl, _, rfl, rfl, Or.inl (SqL.of htl), ?_, ?_⟩
          · rw [sum_ones, List.length_map]
            show cs.length + cs.length * 0 ≤ 16777216
            omega
          · rw [join_empty]
            walk_at "lw"
            refine ⟨kd, cs, rfl, hkd, ?_⟩
            rw [adr_S]
            walk_at "lw"
            refine ⟨_, _, _, _, true, rfl, .ty "str", .base (.str _), kit_ty (by decide +kernel), ?_⟩
            walk_at "lw"
            refine iteF ?_
            walk_at "lw"
            refine ⟨adrL kd cs, rfl, by rw [adrL_len]; decide, fun H8 s8 => ?_⟩
            rw [adr_is]
            walk_at "lw"
            refine iteF ?_
            walk_at "lw"
            refine ⟨adrL kd cs, rfl, adrL_hex kd cs, ?_⟩
            rw [hexV_adr]
            walk_at "lw"
            refine ⟨kd, cl, cs, rfl, hkd, s8 _ _ hcl7, fun H9 s9 => ?_⟩
            walk_at "lw"
            refine ifnp rfl ?_
            walk_at "lw"
            refine ⟨a_KINDS, _, rfl, .inr ⟨hK _, ?_⟩⟩
            walk_at "lw"
            refine g_ktup (by show 3 ≤ 100; decide) fun t H10 nt s10 ht => ?_
            have D1 : ∀ H' a, SqT K H' a (kinds3.map V.str) → Dp K H' (.ref a) (.tuple [.str "layer", .str "image", .str "bundle"]) := fun H' a h => .tup h (.cons (.str _) (.cons (.str _) (.cons (.str _) .nil)))
            refine ⟨_, _, D1 _ _ (hK _), D1 _ _ (SqT.of ht), by decide +kernel, by decide +kernel, ?_⟩
            rw [kinds_eq]
            walk_at "lw"
            refine iteF ?_
            walk_at "lw"
            refine ⟨adrL kd cs, rfl, by rw [adrL_len]; decide, ?_⟩
            rw [adr_is]
            walk_at "lw"
            refine ⟨true, true, rfl, rfl, ?_⟩
            walk_at "lw"
            refine ifnp rfl ?_
            have S10 : StateAt c5 H10 S := ((S7.frame (Stp.same (I := fun _ => False) s8) (by decide)).frame (Stp.same (I := fun _ => False) s9) (by decide)).frame (Stp.same (I := fun _ => False) s10) (by decide)
            clear S7 s8 s9 s10 hcl7 htl D1
            walk_at "lw"
            refine ⟨c5, S, 17, rfl, S10, by decide, by decide, fun at' c11 H11 a0 a1 S11 st11 => ?_⟩
            walk_at "lw"
            refine g_klst (by show 8 ≤ 100; decide) fun q2 H12 n12 s12 h12 => ?_
            have S12 := S11.frame (L2x_sameN (I := fun _ => False) (i := 9) s12 n12) (by decide)
            have cq2 : Stp.paint c11 q2 9 q2 = 9 := Stp.paint_same
            generalize Stp.paint c11 q2 9 = c12 at S12 cq2
            walk_at "lw"
            refine ⟨c12, S, 8, rfl, S12, by decide, by decide, fun b c13 H13 b0 b1 S13 st13 => ?_⟩
            have h13 := st13.keep _ _ h12 (by rw [cq2]; decide)
            obtain ⟨pc, hpc, hat⟩ : ∃ pc : List Nat, pc.length ≤ 2 ∧ atI ([.str "", .str "0", .str "f", .str "g", .str "A", .str " ", .str "7a", .str "F"] : List V) b = some (.str (SX.S pc)) := by
              have : b = 0 ∨ b = 1 ∨ b = 2 ∨ b = 3 ∨ b = 4 ∨ b = 5 ∨ b = 6 ∨ b = 7 := by omega
              rcases this with rfl | rfl | rfl | rfl | rfl | rfl | rfl | rfl
              · exact ⟨[], by decide, by rw [← show ("" : Str) = SX.S [] by decide +kernel]; rfl⟩
              · exact ⟨[48], by decide, by rw [← show ("0" : Str) = SX.S [48] by decide +kernel]; rfl⟩
              · exact ⟨[102], by decide, by rw [← show ("f" : Str) = SX.S [102] by decide +kernel]; rfl⟩
              · exact ⟨[103], by decide, by rw [← show ("g" : Str) = SX.S [103] by decide +kernel]; rfl⟩
              · exact ⟨[65], by decide, by rw [← show ("A" : Str) = SX.S [65] by decide +kernel]; rfl⟩
              · exact ⟨[32], by decide, by rw [← show (" " : Str) = SX.S [32] by decide +kernel]; rfl⟩
              · exact ⟨[55, 97], by decide, by rw [← show ("7a" : Str) = SX.S [55, 97] by decide +kernel]; rfl⟩
              · exact ⟨[70], by decide, by rw [← show ("F" : Str) = SX.S [70] by decide +kernel]; rfl⟩
            refine g_rix (SqL.of h13) hat ?_
            walk_at "lw"
            have l16 := adrL_len kd cs
            refine g_rslS (by rw [SX.S_len, l16]; decide) ?_
            rw [SX.slice_to a0]
            walk_at "lw"
            refine g_cat_str (a := SX.S ((adrL kd cs).take at'.toNat)) (b := SX.S pc) (by rw [SX.S_len, SX.S_len]; refine Nat.le_trans (Nat.add_le_add (List.length_take_le' _ _) hpc) ?_; rw [l16]; decide) ?_
            rw [SX.S_cat]
            walk_at "lw"
            refine ⟨c13, S, 2, rfl, S13, by decide, by decide, fun d c14 H14 d0 d1 S14 st14 => ?_⟩
            walk_at "lw"
            refine g_rslS (by rw [SX.S_len, l16]; decide) ?_
            rw [SX.slice_from (by omega)]
            generalize hX : (adrL kd cs).take at'.toNat ++ pc = X1
            generalize hY : (adrL kd cs).drop (at' + d).toNat = Y1
            have lX : X1.length ≤ 18 := by
              rw [← hX, List.length_append]
              exact Nat.le_trans (Nat.add_le_add (List.length_take_le' _ _) hpc) (by rw [l16]; decide)
            have lY : Y1.length ≤ 16 := by
              rw [← hY, List.length_drop, l16]
              omega
            refine g_cat_str (a := SX.S X1) (b := SX.S Y1) (by rw [SX.S_len, SX.S_len]; exact Nat.le_trans (Nat.add_le_add lX lY) (by decide)) ?_
            rw [SX.S_cat]
            have lZ : (X1 ++ Y1).length ≤ 34 := by rw [List.length_append]; omega
            generalize X1 ++ Y1 = Z at lZ
            walk_at "lw"
            refine ⟨Z, rfl, by omega, ?_⟩
            walk_at "lw"
            refine ⟨Z, rfl, by omega, fun H15 s15 => ?_⟩
            walk_at "lw"
            rw [decide_eq_true rfl]
            exact k H15
end
end Lw

namespace Lw
open PySem L2
open PyProof.Rows (envOfC)
theorem all_mk {l : PySem.W.OpenLaw} {w : World} {K : PySem.W.Frag} {h : Heap} {mg : Str → Option Value} {fa a_KINDS f_address_of f_is_address f__law_state f__law_take f__law_bits f__law_number f__law_read f__law_good f_law : Addr} {od_address_of an_address_of : Option Addr} {sl_address_of : Array (Option Value)} {oc_address_of kV_address_of dc_address_of pm_address_of cd_address_of ct_address_of : Value} {od_is_address an_is_address : Option Addr} {sl_is_address : Array (Option Value)} {oc_is_address kV_is_address dc_is_address pm_is_address cd_is_address ct_is_address : Value} {od__law_state an__law_state : Option Addr} {sl__law_state : Array (Option Value)} {oc__law_state kV__law_state dc__law_state pm__law_state cd__law_state ct__law_state : Value} {od__law_take an__law_take : Option Addr} {sl__law_take : Array (Option Value)} {oc__law_take kV__law_take dc__law_take pm__law_take cd__law_take ct__law_take : Value} {od__law_bits an__law_bits : Option Addr} {sl__law_bits : Array (Option Value)} {oc__law_bits kV__law_bits dc__law_bits pm__law_bits cd__law_bits ct__law_bits : Value} {od__law_number an__law_number : Option Addr} {sl__law_number : Array (Option Value)} {oc__law_number kV__law_number dc__law_number pm__law_number cd__law_number ct__law_number : Value} {od__law_read an__law_read : Option Addr} {sl__law_read : Array (Option Value)} {oc__law_read kV__law_read dc__law_read pm__law_read cd__law_read ct__law_read : Value} {od__law_good an__law_good : Option Addr} {sl__law_good : Array (Option Value)} {oc__law_good kV__law_good dc__law_good pm__law_good cd__law_good ct__law_good : Value} {od_law an_law : Option Addr} {sl_law : Array (Option Value)} {oc_law kV_law dc_law pm_law cd_law ct_law : Value} {t_DIGITS t_PRIME : Tok} {its_KINDS : Array Value} {n_KINDS : Nat} {sl_KINDS : Array (Option Value)} (X : K.In h) (G : h.Ns mainGlobals mg) (hfa : mg "law" = some (.ref fa))
    (a_address_of : PySem.W.nsIn K mainGlobals "address_of" = some (some (.ref f_address_of)))
    (l_address_of : K.lookup f_address_of = some ⟨oc_address_of, od_address_of, .func (PySem.W.fnOf "address_of" "address_of" (defArgs s_address_of) (defBody s_address_of) (defScope s_address_of) .none kV_address_of dc_address_of pm_address_of an_address_of cd_address_of ct_address_of), sl_address_of⟩)
    (c_address_of : PySem.W.codeIn K cd_address_of "address_of" = true)
    (k_address_of : PySem.W.keepIn K (.ref f_address_of) = true)
    (a_is_address : PySem.W.nsIn K mainGlobals "is_address" = some (some (.ref f_is_address)))
    (l_is_address : K.lookup f_is_address = some ⟨oc_is_address, od_is_address, .func (PySem.W.fnOf "is_address" "is_address" (defArgs s_is_address) (defBody s_is_address) (defScope s_is_address) .none kV_is_address dc_is_address pm_is_address an_is_address cd_is_address ct_is_address), sl_is_address⟩)
    (c_is_address : PySem.W.codeIn K cd_is_address "is_address" = true)
    (k_is_address : PySem.W.keepIn K (.ref f_is_address) = true)
    (a__law_state : PySem.W.nsIn K mainGlobals "_law_state" = some (some (.ref f__law_state)))
    (l__law_state : K.lookup f__law_state = some ⟨oc__law_state, od__law_state, .func (PySem.W.fnOf "_law_state" "_law_state" (defArgs s__law_state) (defBody s__law_state) (defScope s__law_state) .none kV__law_state dc__law_state pm__law_state an__law_state cd__law_state ct__law_state), sl__law_state⟩)
    (c__law_state : PySem.W.codeIn K cd__law_state "_law_state" = true)
    (k__law_state : PySem.W.keepIn K (.ref f__law_state) = true)
    (a__law_take : PySem.W.nsIn K mainGlobals "_law_take" = some (some (.ref f__law_take)))
    (l__law_take : K.lookup f__law_take = some ⟨oc__law_take, od__law_take, .func (PySem.W.fnOf "_law_take" "_law_take" (defArgs s__law_take) (defBody s__law_take) (defScope s__law_take) .none kV__law_take dc__law_take pm__law_take an__law_take cd__law_take ct__law_take), sl__law_take⟩)
    (c__law_take : PySem.W.codeIn K cd__law_take "_law_take" = true)
    (k__law_take : PySem.W.keepIn K (.ref f__law_take) = true)
    (a__law_bits : PySem.W.nsIn K mainGlobals "_law_bits" = some (some (.ref f__law_bits)))
    (l__law_bits : K.lookup f__law_bits = some ⟨oc__law_bits, od__law_bits, .func (PySem.W.fnOf "_law_bits" "_law_bits" (defArgs s__law_bits) (defBody s__law_bits) (defScope s__law_bits) .none kV__law_bits dc__law_bits pm__law_bits an__law_bits cd__law_bits ct__law_bits), sl__law_bits⟩)
    (c__law_bits : PySem.W.codeIn K cd__law_bits "_law_bits" = true)
    (k__law_bits : PySem.W.keepIn K (.ref f__law_bits) = true)
    (a__law_number : PySem.W.nsIn K mainGlobals "_law_number" = some (some (.ref f__law_number)))
    (l__law_number : K.lookup f__law_number = some ⟨oc__law_number, od__law_number, .func (PySem.W.fnOf "_law_number" "_law_number" (defArgs s__law_number) (defBody s__law_number) (defScope s__law_number) .none kV__law_number dc__law_number pm__law_number an__law_number cd__law_number ct__law_number), sl__law_number⟩)
    (c__law_number : PySem.W.codeIn K cd__law_number "_law_number" = true)
    (k__law_number : PySem.W.keepIn K (.ref f__law_number) = true)
    (a__law_read : PySem.W.nsIn K mainGlobals "_law_read" = some (some (.ref f__law_read)))
    (l__law_read : K.lookup f__law_read = some ⟨oc__law_read, od__law_read, .func (PySem.W.fnOf "_law_read" "_law_read" (defArgs s__law_read) (defBody s__law_read) (defScope s__law_read) .none kV__law_read dc__law_read pm__law_read an__law_read cd__law_read ct__law_read), sl__law_read⟩)
    (c__law_read : PySem.W.codeIn K cd__law_read "_law_read" = true)
    (k__law_read : PySem.W.keepIn K (.ref f__law_read) = true)
    (a__law_good : PySem.W.nsIn K mainGlobals "_law_good" = some (some (.ref f__law_good)))
    (l__law_good : K.lookup f__law_good = some ⟨oc__law_good, od__law_good, .func (PySem.W.fnOf "_law_good" "_law_good" (defArgs s__law_good) (defBody s__law_good) (defScope s__law_good) .none kV__law_good dc__law_good pm__law_good an__law_good cd__law_good ct__law_good), sl__law_good⟩)
    (c__law_good : PySem.W.codeIn K cd__law_good "_law_good" = true)
    (k__law_good : PySem.W.keepIn K (.ref f__law_good) = true)
    (a_law : PySem.W.nsIn K mainGlobals "law" = some (some (.ref f_law)))
    (l_law : K.lookup f_law = some ⟨oc_law, od_law, .func (PySem.W.fnOf "law" "law" (defArgs s_law) (defBody s_law) (defScope s_law) .none kV_law dc_law pm_law an_law cd_law ct_law), sl_law⟩)
    (c_law : PySem.W.codeIn K cd_law "law" = true)
    (k_law : PySem.W.keepIn K (.ref f_law) = true)
    (z_abs : PySem.W.nsIn K mainGlobals "abs" = some none)
    (z_int : PySem.W.nsIn K mainGlobals "int" = some none)
    (z_isinstance : PySem.W.nsIn K mainGlobals "isinstance" = some none)
    (z_len : PySem.W.nsIn K mainGlobals "len" = some none)
    (z_ord : PySem.W.nsIn K mainGlobals "ord" = some none)
    (z_range : PySem.W.nsIn K mainGlobals "range" = some none)
    (z_repr : PySem.W.nsIn K mainGlobals "repr" = some none)
    (z_str : PySem.W.nsIn K mainGlobals "str" = some none)
    (z_tuple : PySem.W.nsIn K mainGlobals "tuple" = some none)
    (v_DIGITS : PySem.W.nsIn K mainGlobals "DIGITS" = some (some (Value.str "0123456789abcdef" t_DIGITS)))
    (v_PRIME : PySem.W.nsIn K mainGlobals "PRIME" = some (some (Value.int 2305843009213693951 t_PRIME)))
    (v_KINDS : PySem.W.nsIn K mainGlobals "KINDS" = some (some (.ref a_KINDS)))
    (at_KINDS : K.lookup a_KINDS = some ⟨.type "tuple", none, .seq its_KINDS n_KINDS, sl_KINDS⟩)
    (vl_KINDS : Vals (kinds3.map V.str) its_KINDS.toList)
    (sz_KINDS : its_KINDS.size ≤ sizeLine)
    : ∃ fd : FuncData, (∀ (s : Shared) (v : Value), BindsTo s fd ⟨[v], []⟩ [("_law_script", v)]) ∧ ∀ base : Heap, K.In base → base.Ns mainGlobals mg → FnOk l.prog w K mg base CX0 4 fa fd ["_law_script"] (spLaw K) := by
  have e := hfa.symm.trans (PySem.W.mg_of X G a_law)
  cases e
  have F_address_of := fun_mk (st := s_address_of) l_address_of c_address_of k_address_of
  have b_address_of := F_address_of.binds (ps := ["kind", "text"]) fun _ _ _ _ _ _ us hl => match us, hl with | [_, _], _ => rfl
  have F_is_address := fun_mk (st := s_is_address) l_is_address c_is_address k_is_address
  have b_is_address := F_is_address.binds (ps := ["text"]) fun _ _ _ _ _ _ us hl => match us, hl with | [_], _ => rfl
  have F__law_state := fun_mk (st := s__law_state) l__law_state c__law_state k__law_state
  have b__law_state := F__law_state.binds (ps := ["_law_script"]) fun _ _ _ _ _ _ us hl => match us, hl with | [_], _ => rfl
  have F__law_take := fun_mk (st := s__law_take) l__law_take c__law_take k__law_take
  have b__law_take := F__law_take.binds (ps := ["_law_state_here", "_law_most"]) fun _ _ _ _ _ _ us hl => match us, hl with | [_, _], _ => rfl
  have F__law_bits := fun_mk (st := s__law_bits) l__law_bits c__law_bits k__law_bits
  have b__law_bits := F__law_bits.binds (ps := ["_law_state_here", "_law_count"]) fun _ _ _ _ _ _ us hl => match us, hl with | [_, _], _ => rfl
  have F__law_number := fun_mk (st := s__law_number) l__law_number c__law_number k__law_number
  have b__law_number := F__law_number.binds (ps := ["_law_kind", "_law_codes"]) fun _ _ _ _ _ _ us hl => match us, hl with | [_, _], _ => rfl
  have F__law_read := fun_mk (st := s__law_read) l__law_read c__law_read k__law_read
  have b__law_read := F__law_read.binds (ps := ["_law_text"]) fun _ _ _ _ _ _ us hl => match us, hl with | [_], _ => rfl
  have F__law_good := fun_mk (st := s__law_good) l__law_good c__law_good k__law_good
  have b__law_good := F__law_good.binds (ps := ["_law_text"]) fun _ _ _ _ _ _ us hl => match us, hl with | [_], _ => rfl
  have F_law := fun_mk (st := s_law) l_law c_law k_law
  have T : Txt w K mg a_KINDS := ⟨⟨_, _, F_address_of, PySem.W.mg_of X G a_address_of, b_address_of⟩,
    ⟨_, _, F_is_address, PySem.W.mg_of X G a_is_address, b_is_address⟩,
    ⟨_, _, F__law_state, PySem.W.mg_of X G a__law_state, b__law_state⟩,
    ⟨_, _, F__law_take, PySem.W.mg_of X G a__law_take, b__law_take⟩,
    ⟨_, _, F__law_bits, PySem.W.mg_of X G a__law_bits, b__law_bits⟩,
    ⟨_, _, F__law_number, PySem.W.mg_of X G a__law_number, b__law_number⟩,
    ⟨_, _, F__law_read, PySem.W.mg_of X G a__law_read, b__law_read⟩,
    ⟨_, _, F__law_good, PySem.W.mg_of X G a__law_good, b__law_good⟩,
    PySem.W.mg_none_of X G z_abs,
    PySem.W.mg_none_of X G z_int,
    PySem.W.mg_none_of X G z_isinstance,
    PySem.W.mg_none_of X G z_len,
    PySem.W.mg_none_of X G z_ord,
    PySem.W.mg_none_of X G z_range,
    PySem.W.mg_none_of X G z_repr,
    PySem.W.mg_none_of X G z_str,
    PySem.W.mg_none_of X G z_tuple,
    ⟨_, PySem.W.mg_of X G v_DIGITS, ⟨_, rfl⟩⟩,
    ⟨_, PySem.W.mg_of X G v_PRIME, ⟨_, rfl⟩⟩,
    ⟨_, PySem.W.mg_of X G v_KINDS, rfl⟩,
    ⟨_, _, _, at_KINDS, rfl, rfl, rfl, sz_KINDS, vl_KINDS⟩⟩
  exact ⟨PySem.W.fnOf "law" "law" (defArgs s_law) (defBody s_law) (defScope s_law) .none kV_law dc_law pm_law an_law cd_law ct_law, fun s v => .of_eq rfl, fun base _ _ => ok_law T F_law⟩
theorem walk {l : PySem.W.OpenLaw} {q : Program} {loose : List Str} {XP : (Str → Option Value) → Heap → Prop} {YP : World → Heap → Prop} {d : DefRec} {K : Params → PySem.W.Frag} (hn : l.most = some 63) (hdf : d.params.defaults = [])
    (hY : ∀ (w : World) (h : Heap), YP w h → (K w.params).In h)
    (F : ∀ (w : World) (mg : Str → Option Value) (fa : Addr) (h : Heap), (K w.params).In h → h.Ns mainGlobals mg → mg d.name = some (.ref fa) →
      ∃ fd : FuncData, (∀ (s : Shared) (u : Value), BindsTo s fd ⟨[u], []⟩ [("_law_script", u)]) ∧ ∀ base : Heap, (K w.params).In base → base.Ns mainGlobals mg → FnOk l.prog w (K w.params) mg base CX0 4 fa fd ["_law_script"] (spLaw (K w.params))) :
    PySem.W.WalkO q loose XP YP l.row.toRowW d [] (fun f vs => PySem.call f vs) :=
  L2.walk_of (n := 63) (k := 4) (x := "_law_script") (CX := fun _ => CX0) (sp := fun w => spLaw (K w.params)) hn (by decide) hdf ⟨rfl, by decide, by decide⟩ hY F (fun _ _ a ns hl _ hS => ⟨a, ns, rfl, hS, hl, fun _ => rfl⟩) fun _ _ _ _ _ z => z
end Lw
open PySem PySem.W PyProof.Rows
set_option maxRecDepth 100000 in
set_option maxHeartbeats 0 in
theorem PySem.Challenge.cw_layerwharf_k01_addresses_holds : PySem.Challenge.rw_layerwharf_k01_addresses.Holds := by
  w_on; o_law; k_head; (case hw => w_witness2)
  k_fill
  refine Lw.walk (l := PySem.Challenge.rw_layerwharf_k01_addresses) rfl rfl (fun w h Y => PySem.W.kIn_of Y) ?F
  case F =>
    intro w mg fa h KX G hmg
    refine' Lw.all_mk KX G hmg ?a_address_of ?l_address_of ?c_address_of ?k_address_of ?a_is_address ?l_is_address ?c_is_address ?k_is_address ?a__law_state ?l__law_state ?c__law_state ?k__law_state ?a__law_take ?l__law_take ?c__law_take ?k__law_take ?a__law_bits ?l__law_bits ?c__law_bits ?k__law_bits ?a__law_number ?l__law_number ?c__law_number ?k__law_number ?a__law_read ?l__law_read ?c__law_read ?k__law_read ?a__law_good ?l__law_good ?c__law_good ?k__law_good ?a_law ?l_law ?c_law ?k_law ?z_abs ?z_int ?z_isinstance ?z_len ?z_ord ?z_range ?z_repr ?z_str ?z_tuple ?v_DIGITS ?v_PRIME ?v_KINDS ?at_KINDS ?vl_KINDS ?sz_KINDS
    (case a_address_of => k_is)
    (case l_address_of => k_is)
    (case c_address_of => k_is)
    (case k_address_of => k_is)
    (case a_is_address => k_is)
    (case l_is_address => k_is)
    (case c_is_address => k_is)
    (case k_is_address => k_is)
    (case a__law_state => k_is)
    (case l__law_state => k_is)
    (case c__law_state => k_is)
    (case k__law_state => k_is)
    (case a__law_take => k_is)
    (case l__law_take => k_is)
    (case c__law_take => k_is)
    (case k__law_take => k_is)
    (case a__law_bits => k_is)
    (case l__law_bits => k_is)
    (case c__law_bits => k_is)
    (case k__law_bits => k_is)
    (case a__law_number => k_is)
    (case l__law_number => k_is)
    (case c__law_number => k_is)
    (case k__law_number => k_is)
    (case a__law_read => k_is)
    (case l__law_read => k_is)
    (case c__law_read => k_is)
    (case k__law_read => k_is)
    (case a__law_good => k_is)
    (case l__law_good => k_is)
    (case c__law_good => k_is)
    (case k__law_good => k_is)
    (case a_law => k_is)
    (case l_law => k_is)
    (case c_law => k_is)
    (case k_law => k_is)
    (case z_abs => k_is)
    (case z_int => k_is)
    (case z_isinstance => k_is)
    (case z_len => k_is)
    (case z_ord => k_is)
    (case z_range => k_is)
    (case z_repr => k_is)
    (case z_str => k_is)
    (case z_tuple => k_is)
    (case v_DIGITS => k_is)
    (case v_PRIME => k_is)
    (case v_KINDS => k_is)
    (case at_KINDS => k_is)
    (case vl_KINDS => exact .cons ⟨_, rfl⟩ (.cons ⟨_, rfl⟩ (.cons ⟨_, rfl⟩ .nil)))
    (case sz_KINDS => (show 3 ≤ sizeLine); decide)
