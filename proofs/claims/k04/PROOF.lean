import PyProof.Rows.All
import Wide.All
import OpenK.AllK
import Wide.FinOn
import HandS.ForMost
import HandS.TupAny
import HandS.More
import HandS.Style
import HandS.Conv
import HandS.Codes
import HandS.FStr
import HandS.IsInst
import HandS.Strs
import HandS.Replace
import HandS.Walk
import HandS.Set
import HandS.SetKeys
import HandS.TupSets
import HandS.ForDict
import HandS.Dict
import HandS.Flow
import HandS.Iter
import PySem.Challenge.RW_layerwharf_k04_claims_and_uploads
set_option Elab.async false
set_option maxRecDepth 100000
set_option maxHeartbeats 4000000
set_option linter.all false
/-! ## words of our own, for every law -/
namespace Lw
open PySem L2
open PyProof.Rows (envOfC)

/-! ### what calls what -/
structure Cal (P : Program) (w : World) (K : PySem.W.Frag) (mg : Str → Option Value) (base : Heap) (k : Nat) (x : Str) (sp : Sp) : Prop where
  ex : ∃ (f : Addr) (fd : FuncData) (ps : List Str), FnOk P w K mg base CX0 k f fd ps sp ∧ mg x = some (.ref f) ∧ PySem.W.keepIn K (.ref f) = true ∧ Binds K fd ps []
structure Met (P : Program) (w : World) (K : PySem.W.Frag) (mg : Str → Option Value) (base : Heap) (k : Nat) (C : Addr) (m : Str) (sp : Sp) : Prop where
  ex : ∃ (f : Addr) (fd : FuncData) (ps : List Str), Cls K C ∧ Meth K C m f ∧ FnOk P w K mg base CX0 k f fd ps sp ∧ Binds K fd ps []
structure Mak (P : Program) (w : World) (K : PySem.W.Frag) (mg : Str → Option Value) (base : Heap) (k : Nat) (x : Str) (C : Addr) (sp : Sp) : Prop where
  ex : ∃ (f : Addr) (fd : FuncData) (ps : List Str), Mk K C f ∧ FnOk P w K mg base CX0 k f fd ps sp ∧ mg x = some (.ref C) ∧ Binds K fd ps []
/-- a def of the module -/
structure DefAt (K : PySem.W.Frag) (mg : Str → Option Value) (x : Str) (st : Stmt) (ps : List Str) : Prop where
  ex : ∃ (f : Addr) (fd : FuncData), Fun K x x st f fd ∧ mg x = some (.ref f) ∧ Binds K fd ps []
/-- a method of a class -/
structure MetAt (K : PySem.W.Frag) (C : Addr) (m qual : Str) (st : Stmt) (ps : List Str) : Prop where
  ex : ∃ (f : Addr) (fd : FuncData), Fun K m qual st f fd ∧ Meth K C m f ∧ Binds K fd ps []
/-- a class's __init__ -/
structure IniAt (K : PySem.W.Frag) (mg : Str → Option Value) (x : Str) (C : Addr) (qual : Str) (st : Stmt) (ps : List Str) : Prop where
  ex : ∃ (f : Addr) (fd : FuncData), Fun K "__init__" qual st f fd ∧ Mk K C f ∧ mg x = some (.ref C) ∧ Binds K fd ps []
section
variable {P : Program} {w : World} {K : PySem.W.Frag} {mg : Str → Option Value} {base : Heap}
theorem cal_mk {x : Str} {st : Stmt} {N ps : List Str} {k : Nat} {sp : Sp} (D : DefAt K mg x st ps) (S : FnScope N ps (defScope st)) (len : ∀ vs H Q E, sp vs H Q E → vs.length = ps.length)
    (hbody : ∀ (f : Addr) (cdv : Value) (A : Around) (outer : List Env) (s : Shared) (H : Hp) (vs : List V) (Q : VK) (E : XK), Room k (A.deeper (envOfC x (defScope st) s.heap.objs.size f cdv)) → sp vs H Q E →
      ∃ t, PSs (cxOf CX0 P w K mg base N x (defScope st) f cdv A outer s H E).nox (defBody st) t ∧ t { nx := fun _ H' => Q .non H', rt := Q } (start N vs) H) : Cal P w K mg base (k + 1) x sp := by
  obtain ⟨f, fd, F, hm, hb⟩ := D.ex
  exact ⟨f, fd, ps, F.ok S len fun cdv A outer s H vs Q E hr h => hbody f cdv A outer s H vs Q E hr h, hm, F.kp, hb⟩
theorem met_mk {m qual : Str} {C : Addr} {st : Stmt} {N ps : List Str} {k : Nat} {sp : Sp} (c : Cls K C) (D : MetAt K C m qual st ps) (S : FnScope N ps (defScope st)) (len : ∀ vs H Q E, sp vs H Q E → vs.length = ps.length)
    (hbody : ∀ (f : Addr) (cdv : Value) (A : Around) (outer : List Env) (s : Shared) (H : Hp) (vs : List V) (Q : VK) (E : XK), Room k (A.deeper (envOfC qual (defScope st) s.heap.objs.size f cdv)) → sp vs H Q E →
      ∃ t, PSs (cxOf CX0 P w K mg base N qual (defScope st) f cdv A outer s H E).nox (defBody st) t ∧ t { nx := fun _ H' => Q .non H', rt := Q } (start N vs) H) : Met P w K mg base (k + 1) C m sp := by
  obtain ⟨f, fd, F, hm, hb⟩ := D.ex
  exact ⟨f, fd, ps, c, hm, F.ok S len fun cdv A outer s H vs Q E hr h => hbody f cdv A outer s H vs Q E hr h, hb⟩
theorem mak_mk {x qual : Str} {C : Addr} {st : Stmt} {N ps : List Str} {k : Nat} {sp : Sp} (D : IniAt K mg x C qual st ps) (S : FnScope N ps (defScope st)) (len : ∀ vs H Q E, sp vs H Q E → vs.length = ps.length)
    (hbody : ∀ (f : Addr) (cdv : Value) (A : Around) (outer : List Env) (s : Shared) (H : Hp) (vs : List V) (Q : VK) (E : XK), Room k (A.deeper (envOfC qual (defScope st) s.heap.objs.size f cdv)) → sp vs H Q E →
      ∃ t, PSs (cxOf CX0 P w K mg base N qual (defScope st) f cdv A outer s H E).nox (defBody st) t ∧ t { nx := fun _ H' => Q .non H', rt := Q } (start N vs) H) : Mak P w K mg base (k + 1) x C sp := by
  obtain ⟨f, fd, F, M, hm, hb⟩ := D.ex
  exact ⟨f, fd, ps, M, F.ok S len fun cdv A outer s H vs Q E hr h => hbody f cdv A outer s H vs Q E hr h, hm, hb⟩
end
section
variable {X : Cx} {x m : Str} {C : Addr} {sp : Sp} {k j : Nat} {e o : Expr} {es : List Expr} {p pos apos : Pos} {ta : TE} {t : TA}
theorem pe_c (c : Cal X.prog X.w X.K X.mg X.base k x sp) (hr : Room j X.A) (hk : k ≤ j) (hg : Gl X x) (ha : PA X (e :: es) t)
    (hdb : (x == ("__debug__" : Str)) = false := by decide) (he : starEach (e :: es) X.env = (false, eval e X.env) :: starEach es X.env := by rfl) (hpl : (backTo pos (starEach es X.env)).any (·.1) = false := by rfl) :
    PE X (.Call (.Name x p) (e :: es) [] pos) (tCall sp [] E0 t) := by
  obtain ⟨f, fd, ps, F, hm, kp, b⟩ := c.ex
  exact pe_call F (hr.mono hk) hg hm kp b .nil pass0 ha hdb he hpl
theorem pe_mk (c : Mak X.prog X.w X.K X.mg X.base k x C sp) (hr : Room j X.A) (hk : k + 1 ≤ j) (hg : Gl X x) (ha : PA X (e :: es) t)
    (hdb : (x == ("__debug__" : Str)) = false := by decide) (he : starEach (e :: es) X.env = (false, eval e X.env) :: starEach es X.env := by rfl) (hpl : (backTo pos (starEach es X.env)).any (·.1) = false := by rfl) :
    PE X (.Call (.Name x p) (e :: es) [] pos) (tMake C sp [] E0 t) := by
  obtain ⟨f, fd, ps, M, F, hm, b⟩ := c.ex
  exact pe_make M F (hr.mono hk) hg hm b .nil pass0 ha hdb he hpl
theorem pe_mk0 (c : Mak X.prog X.w X.K X.mg X.base k x C sp) (hr : Room j X.A) (hk : k + 1 ≤ j) (hg : Gl X x) (hdb : (x == ("__debug__" : Str)) = false := by decide) :
    PE X (.Call (.Name x p) [] [] pos) (tMake C sp [] E0 tNil) := by
  obtain ⟨f, fd, ps, M, F, hm, b⟩ := c.ex
  exact pe_make0 M F (hr.mono hk) hg hm b .nil pass0 hdb
theorem pe_mt {pl : Sem Bool} (c : Met X.prog X.w X.K X.mg X.base k C m sp) (hr : Room j X.A) (hk : k ≤ j) (he : PE X o ta) (ha : PA X (e :: es) t)
    (hst : starEach (e :: es) X.env = (false, eval e X.env) :: starEach es X.env := by rfl) (hpl : (backTo pos (starEach es X.env)).any (·.1) = false := by rfl)
    (ht : eval (.Call (.Attribute o m apos) (e :: es) [] pos) X.env = (do
      let ov ← eval o X.env
      standAt apos.atName
      let (f, first) ← holding [ov] (getMethod ov m pl)
      callWith pos f first (backTo pos (starEach (e :: es) X.env)) (backToKw pos (keywordEach [] X.env))) := by rfl) :
    PE X (.Call (.Attribute o m apos) (e :: es) [] pos) (tMeth C m sp [] E0 ta t) := by
  obtain ⟨f, fd, ps, hc, hm, F, b⟩ := c.ex
  exact pe_meth (pl := pl) he hc hm F (hr.mono hk) b .nil pass0 ha hst hpl ht
theorem pe_mt0 {pl : Sem Bool} (c : Met X.prog X.w X.K X.mg X.base k C m sp) (hr : Room j X.A) (hk : k ≤ j) (he : PE X o ta)
    (ht : eval (.Call (.Attribute o m apos) [] [] pos) X.env = (do
      let ov ← eval o X.env
      standAt apos.atName
      let (f, first) ← holding [ov] (getMethod ov m pl)
      callWith pos f first (backTo pos (starEach [] X.env)) (backToKw pos (keywordEach [] X.env))) := by rfl) :
    PE X (.Call (.Attribute o m apos) [] [] pos) (tMeth C m sp [] E0 ta tNil) := by
  obtain ⟨f, fd, ps, hc, hm, F, b⟩ := c.ex
  exact pe_meth0 (pl := pl) he hc hm F (hr.mono hk) b .nil pass0 ht
theorem pe_gc {v : V} (hg : Gl X x) (h : ∃ u, X.mg x = some u ∧ RelV v u) (hd : (x == ("__debug__" : Str)) = false := by decide) : PE X (.Name x pos) (tC v) := by
  obtain ⟨u, hm, r⟩ := h
  exact pe_glob hg hm r hd
end

theorem _root_.L2.Same.new {H : Hp} {p : Addr} {o : HO} (h : H p = none) : Same H (upd H p o) := fun b u e => by rw [upd_ne (ne_of_none e h)]; exact e
theorem _root_.L2.Same.seqT {K : PySem.W.Frag} {H H' : Hp} {a : Addr} {xs : List V} (e : Same H H') (h : SqT K H a xs) : SqT K H' a xs := by
  rcases h with (h | ⟨o, h⟩) | h
  · exact .inl (.inl (e _ _ h))
  · exact .inl (.inr ⟨o, e _ _ h⟩)
  · exact .inr h
theorem _root_.L2.Same.thenNew {H H' : Hp} {p : Addr} {o : HO} (s : Same H H') (h : H' p = none) : Same H (upd H' p o) := s.trans (Same.new h)
/-- a list that a def made for itself grows -/
theorem _root_.L2.Same.grow {H H' : Hp} {p : Addr} {o : HO} (s : Same H H') (h : H p = none) : Same H (upd H' p o) := fun b u e => by
  rw [upd_ne (ne_of_none e h)]
  exact s b u e

/-! ### steps through a reading -/
def rStr (x : V) (A : Prop) : Prop := (∃ a, x = .str a) ∧ A
def rCatS : R2 := fun x y H Q => ∃ i j, x = .str i ∧ y = .str j ∧ i.length + j.length ≤ sizeLine ∧ Q (.str (i ++ j)) H
theorem op_cat_str {X : Cx} : OpR X (binaryOp .Add) rCatS := op_add_str
def rInt1 : List V → Hp → VK → Prop := fun xs H Q => (∃ i, xs = [.int i] ∧ Q (.int i) H) ∨ ∃ k, xs = [.bl k] ∧ Q (.int (if k then 1 else 0)) H
theorem call_int1' {X : Cx} : CallR X (.type "int") rInt1 := call_int1
def rLenQ (K : PySem.W.Frag) : List V → Hp → VK → Prop := fun xs H Q => ∃ p ys, xs = [.ref p] ∧ (SqL K H p ys ∨ SqT K H p ys) ∧ Q (.int ys.length) H
theorem call_len_seq' {X : Cx} : CallR X (.builtin "len") (rLenQ X.K) := call_len_seq
def rLenT : List V → Hp → VK → Prop := fun xs H Q => ∃ z, xs = [.str z] ∧ z.length ≤ sizeLine ∧ Q (.int z.length) H
theorem call_len_str' {X : Cx} : CallR X (.builtin "len") rLenT := call_len_str
def rLenD : List V → Hp → VK → Prop := fun xs H Q => ∃ a kvs, xs = [V.ref a] ∧ H a = some (.dK kvs) ∧ Q (.int kvs.length) H
theorem call_lenD' {X : Cx} : CallR X (.builtin "len") rLenD := call_lenD
def rReprB : List V → Hp → VK → Prop := fun xs H Q => ∃ b, xs = [.bl b] ∧ Q (.str (if b then "True" else "False")) H
theorem call_repr_bool {X : Cx} : CallR X (.builtin "repr") rReprB := by
  intro pins s σ H xs us Q I r h
  obtain ⟨b, rfl, q⟩ := h
  obtain ⟨u, rfl, rx⟩ := vals1 r
  cases rx
  exact PySem.P.repr_of_bool ⟨.str _, H, I.tok _, ⟨_, rfl⟩, q⟩
def rInSg : R2 := fun x y H Q => ∃ (c : Nat) (z : Str), x = .str (SX.S [c]) ∧ y = .str z ∧ Q (.bl (decide (c ∈ z.cps.toList))) H
def rNotInSg : R2 := fun x y H Q => ∃ (c : Nat) (z : Str), x = .str (SX.S [c]) ∧ y = .str z ∧ Q (.bl (!decide (c ∈ z.cps.toList))) H
theorem op_inSg {X : Cx} : OpR X (compareOp .In) rInSg := op_in_sign
theorem op_notInSg {X : Cx} : OpR X (compareOp .NotIn) rNotInSg := op_notIn_sign
def rOrd : List V → Hp → VK → Prop := fun xs H Q => ∃ x, xs = [.str x] ∧ x.length = 1 ∧ Q (.int (x.cps.getD 0 0 : Nat)) H
theorem call_ord' {X : Cx} : CallR X (.builtin "ord") rOrd := call_ord
def rIsN : R2 := fun x y H Q => y = .non ∧ Q (.bl (decide (x = .non))) H
def rNotN : R2 := fun x y H Q => y = .non ∧ Q (.bl (!decide (x = .non))) H
theorem op_isN' {X : Cx} : OpR X (compareOp .Is) rIsN := op_isN
theorem op_notN' {X : Cx} : OpR X (compareOp .IsNot) rNotN := op_notN
section
variable {σ : St} {H : Hp} {Q : VK} {K : PySem.W.Frag} {D : Ends} {ta tb te : TE} {tl : TA} {t u : TS} {c d : TT} {i : Nat} {v : V} {g : TG} {r : R2} {b : Bool}
theorem g_var (h : σ[i]? = some (some v)) (k : Q v H) : tVar i σ H Q := ⟨v, h, k⟩
theorem g_c (k : Q v H) : tC v σ H Q := k
theorem g_op (k : ta σ H fun x H1 => tb σ H1 fun y H2 => r x y H2 Q) : tOp r ta tb σ H Q := k
theorem g_I0 {f : Int → Int → V} {a b : Int} (k : Q (f a b) H) : rI0 f (.int a) (.int b) H Q := ⟨a, b, rfl, rfl, k⟩
theorem g_I {C : Int → Int → Prop} {f : Int → Int → V} {a b : Int} (h : C a b) (k : Q (f a b) H) : rI C f (.int a) (.int b) H Q := ⟨a, b, rfl, rfl, h, k⟩
theorem g_eq {x y : V} (h : scal x y = true) (k : Q (.bl (decide (x = y))) H) : rEq x y H Q := ⟨h, k⟩
theorem g_ne {x y : V} (h : scal x y = true) (k : Q (.bl (!decide (x = y))) H) : rNe x y H Q := ⟨h, k⟩
theorem g_nil {Q : List V → Hp → Prop} (k : Q [] H) : tNil σ H Q := k
theorem g_cons {Q : List V → Hp → Prop} (k : ta σ H fun x H1 => tl σ H1 fun xs H2 => Q (x :: xs) H2) : tCons ta tl σ H Q := k
theorem g_cb {r : List V → Hp → VK → Prop} (k : tl σ H fun vs H1 => r vs H1 Q) : tCB r tl σ H Q := k
theorem g_call {sp : Sp} {dvs : List V} {E : XK} (k : tl σ H fun vs H1 => sp (vs ++ dvs) H1 Q E) : tCall sp dvs E tl σ H Q := k
theorem g_test {Q : Bool → Hp → Prop} (k : te σ H fun x H1 => ∃ z, x = .bl z ∧ Q z H1) : tTest te σ H Q := k
theorem g_B {Q : Bool → Hp → Prop} (k : te σ H fun x H1 => ∃ z, x = .bl z ∧ Q z H1) : tB te σ H Q := k
theorem g_exb {Q : Bool → Prop} (k : Q b) : ∃ z, V.bl b = .bl z ∧ Q z := ⟨b, rfl, k⟩
theorem g_not {Q : Bool → Hp → Prop} (k : c σ H fun b H1 => Q (!b) H1) : tNot c σ H Q := k
theorem g_and {Q : Bool → Hp → Prop} (k : c σ H fun b H1 => if b = true then d σ H1 Q else Q false H1) : tAnd c d σ H Q := k
theorem g_or {Q : Bool → Hp → Prop} (k : c σ H fun b H1 => if b = true then Q true H1 else d σ H1 Q) : tOr c d σ H Q := k
/-- what follows holds of any new place with o -/
def New (o : HO) (H : Hp) (Q : Addr → Hp → Prop) : Prop := ∀ p H', H p = none → Same H H' → H' p = some o → Q p H'
theorem New.to {o : HO} {Q : Addr → Hp → Prop} (k : New o H Q) : ∀ p, H p = none → Q p (upd H p o) := fun p hp => k p _ hp (fun b u e => by rw [upd_ne (ne_of_none e hp)]; exact e) upd_same
theorem small100 {n : Nat} (h : n ≤ 100) : n ≤ sizeLine := Nat.le_trans h (by decide)
def kTup (Q : VK) (xs : List V) (H1 : Hp) : Prop := xs.length ≤ sizeLine ∧ ∀ p, H1 p = none → Q (.ref p) (upd H1 p (.tup xs))
def kLst (Q : VK) (xs : List V) (H1 : Hp) : Prop := xs.length ≤ sizeLine ∧ ∀ p, H1 p = none → Q (.ref p) (upd H1 p (.lst xs))
theorem g_tup (k : tl σ H (kTup Q)) : tTup tl σ H Q := k
theorem g_lst (k : tl σ H (kLst Q)) : tLst tl σ H Q := k
/-- behind the items of a display -/
theorem g_ktup {xs : List V} (h : xs.length ≤ 100) (k : ∀ p H', H p = none → Same H H' → H' p = some (.tup xs) → Q (.ref p) H') : kTup Q xs H := ⟨small100 h, New.to (Q := fun p H' => Q (.ref p) H') k⟩
theorem g_klst {xs : List V} (h : xs.length ≤ 100) (k : ∀ p H', H p = none → Same H H' → H' p = some (.lst xs) → Q (.ref p) H') : kLst Q xs H := ⟨small100 h, New.to (Q := fun p H' => Q (.ref p) H') k⟩
theorem g_catA {a b : Addr} {xs ys : List V} (ha : H a = some (.tup xs)) (hb : H b = some (.tup ys)) (h0 : xs ≠ []) (hl : xs.length + ys.length ≤ 100) (k : ∀ p H', Same H H' → H' p = some (.tup (xs ++ ys)) → Q (.ref p) H') : rCatA K (.ref a) (.ref b) H Q :=
  ⟨a, b, xs, ys, rfl, rfl, SqT.of ha, SqT.of hb, small100 hl, fun z => absurd z h0, fun _ z => k a H (Same.refl H) (by subst z; rw [List.append_nil]; exact ha), fun _ _ p hp => k p _ (fun b u e => by rw [upd_ne (ne_of_none e hp)]; exact e) upd_same⟩
theorem g_slA {a : Addr} {xs : List V} {lo hi : Option Int} (ha : H a = some (.tup xs)) (k : ∀ p H', Same H H' → H' p = some (.tup (cutV xs lo hi)) → Q (.ref p) H') : rSlA K (.ref a) lo hi H Q := by
  refine ⟨a, xs, rfl, SqT.of ha, fun z => k a H (Same.refl H) ?_, fun _ p hp => k p _ (fun b u e => by rw [upd_ne (ne_of_none e hp)]; exact e) upd_same⟩
  have e : cutV xs lo hi = xs := by
    unfold cutV
    rw [z.1, z.2, List.drop_zero, Nat.sub_zero, List.take_length]
  rw [e]; exact ha
theorem g_rslS {x : Str} {lo hi : Option Int} (h : x.length ≤ sizeLine) (k : Q (.str (Txt.slice x lo hi)) H) : C8.rSlX (.str x) lo hi H Q := ⟨x, rfl, h, k⟩
theorem g_ifx (k : c σ H fun b H1 => if b = true then ta σ H1 Q else tb σ H1 Q) : tIf c ta tb σ H Q := k
/-- a field read -/
def rFld (K : PySem.W.Frag) (f : Str) (x : V) (H : Hp) (Q : VK) : Prop := ∃ a C dx fs v, x = .ref a ∧ H a = some (.ins C dx fs) ∧ Cls K C ∧ NoAttr K C f ∧ fs.lookup f = some v ∧ Q v H
theorem g_fld {f : Str} (k : ta σ H fun x H1 => rFld K f x H1 Q) : tFld K ta f σ H Q := k
theorem g_rfld {f : Str} {a C dx : Addr} {fs : List (Str × V)} (h : H a = some (.ins C dx fs)) (hc : Cls K C) (hn : NoAttr K C f) (hl : fs.lookup f = some v) (k : Q v H) : rFld K f (.ref a) H Q := ⟨a, C, dx, fs, v, rfl, h, hc, hn, hl, k⟩
/-- a method called -/
def rMeth (C : Addr) (m : Str) (sp : Sp) (x : V) (tl : TA) (σ : St) (H : Hp) (Q : VK) : Prop := ∃ a dx fs, x = .ref a ∧ H a = some (.ins C dx fs) ∧ fs.lookup m = none ∧ tl σ H fun vs H2 => sp (x :: (vs ++ [])) H2 Q E0
def rSFld (K : PySem.W.Frag) (f : Str) (y x : V) (H : Hp) (Q : Hp → Prop) : Prop := ∃ a C dx fs, x = .ref a ∧ H a = some (.ins C dx fs) ∧ Cls K C ∧ NoAttr K C f ∧ fs.length < 1000 ∧ Q (upd H a (.ins C dx (putF f y fs)))
theorem g_sfld {f : Str} (k : tb σ H fun y H1 => ta σ H1 fun x H2 => rSFld K f y x H2 fun H3 => D.nx σ H3) : sFld K ta tb f D σ H := k
theorem g_rsfld {f : Str} {y : V} {a C dx : Addr} {fs : List (Str × V)} {Q : Hp → Prop} (h : H a = some (.ins C dx fs)) (hc : Cls K C) (hn : NoAttr K C f) (hl : fs.length < 1000) (k : ∀ H', H' a = some (.ins C dx (putF f y fs)) → (∀ b, b ≠ a → H' b = H b) → Q H') : rSFld K f y (.ref a) H Q :=
  ⟨a, C, dx, fs, rfl, h, hc, hn, hl, k _ upd_same fun b hb => upd_ne hb⟩
theorem g_meth {C : Addr} {m : Str} {sp : Sp} (k : ta σ H fun x H1 => rMeth C m sp x tl σ H1 Q) : tMeth C m sp [] E0 ta tl σ H Q := k
theorem g_rmeth {C a dx : Addr} {m : Str} {sp : Sp} {fs : List (Str × V)} (h : H a = some (.ins C dx fs)) (hl : fs.lookup m = none) (k : tl σ H fun vs H2 => sp (.ref a :: (vs ++ [])) H2 Q E0) : rMeth C m sp (.ref a) tl σ H Q := ⟨a, dx, fs, rfl, h, hl, k⟩
def rMake (C : Addr) (sp : Sp) (vs : List V) (H1 : Hp) (Q : VK) : Prop := ∀ x dx, H1 x = none → H1 dx = none → dx ≠ x → sp (.ref x :: (vs ++ [])) (upd (upd H1 dx (.own x)) x (.ins C dx [])) (fun v H2 => v = .non ∧ Q (.ref x) H2) E0
theorem g_make {C : Addr} {sp : Sp} (k : tl σ H fun vs H1 => rMake C sp vs H1 Q) : tMake C sp [] E0 tl σ H Q := k
/-- a list that is changed in its place -/
theorem g_append {l : Addr} {xs : List V} {y : V} (h : H l = some (.lst xs)) (hz : xs.length < 100000) (k : ∀ H', H' l = some (.lst (xs ++ [y])) → (∀ b, b ≠ l → H' b = H b) → Q .non H') : rAppend (.ref l) [y] H Q :=
  ⟨l, xs, y, rfl, rfl, h, Nat.lt_of_lt_of_le hz (by decide), k _ upd_same fun b hb => upd_ne hb⟩
theorem g_tyL {p : Addr} {xs : List V} {A : Prop} (h : H p = some (.lst xs)) (k : A) : tyV K "list" (.ref p) H ∧ A := ⟨.inl ⟨rfl, _, SqL.of h⟩, k⟩
theorem g_tyS {x : Str} {A : Prop} (k : A) : tyV K "str" (.str x) H ∧ A := ⟨rfl, k⟩
theorem g_tyA {p : Addr} {o : Obj} {A : Prop} (h : K.lookup p = some o) (h1 : o.cls = .type "tuple") (h2 : o.dict = none) (k : A) : tyV K "tuple" (.ref p) H ∧ A := ⟨Or.inr (Or.inl ⟨rfl, o, h, h1, h2⟩), k⟩
theorem g_popAt {l : Addr} {xs : List V} {i : Nat} {y : V} (h : H l = some (.lst xs)) (hi : xs[i]? = some y) (hz : xs.length < 100000) (k : ∀ H', H' l = some (.lst (xs.eraseIdx i)) → (∀ b, b ≠ l → H' b = H b) → Q y H') : rPopAt (.ref l) [.int (i : Int)] H Q := by
  have hl := (List.getElem?_eq_some_iff.mp hi).1
  refine ⟨l, xs, (i : Int), i, y, rfl, rfl, h, by omega, by omega, ?_, hi, k _ upd_same fun b hb => upd_ne hb⟩
  exact (ixN_seq (n := xs.length) (i := (i : Int)) (j := i) (by unfold ixN; rw [if_pos (by omega), if_pos (by omega), Int.toNat_natCast])).1
theorem g_rix {p : Addr} {xs : List V} {j : Int} (h : SqL K H p xs) (ha : atI xs j = some v) (k : Q v H) : rIxL K (.ref p) (.int j) H Q := ⟨p, xs, j, v, rfl, rfl, h, ha, k⟩
theorem g_rixT {p : Addr} {xs : List V} {j : Int} (h : SqT K H p xs) (ha : atI xs j = some v) (k : Q v H) : rIxT K (.ref p) (.int j) H Q := ⟨p, xs, j, v, rfl, rfl, h, ha, k⟩
theorem g_sl {r : V → Option Int → Option Int → Hp → VK → Prop} {tl th : TO} (k : te σ H fun x H1 => tl σ H1 fun l H2 => th σ H2 fun u H3 => r x l u H3 Q) : tSl r te tl th σ H Q := k
theorem g_nopart {Q : Option Int → Hp → Prop} (k : Q none H) : tNoPart σ H Q := k
def rPart (x : V) (H : Hp) (Q : Option Int → Hp → Prop) : Prop := ∃ i, x = .int i ∧ Q (some i) H
theorem g_part {Q : Option Int → Hp → Prop} (k : te σ H fun x H1 => rPart x H1 Q) : tPart te σ H Q := k
theorem g_rpart {Q : Option Int → Hp → Prop} {a : Int} (k : Q (some a) H) : rPart (.int a) H Q := ⟨a, rfl, k⟩
theorem g_m1 {r : V → List V → Hp → VK → Prop} {to : TE} (k : to σ H fun x H1 => rStr x (te σ H1 fun y H2 => r x [y] H2 Q)) : tM1 r to te σ H Q := k
theorem g_m0 {r : V → List V → Hp → VK → Prop} {to : TE} (k : to σ H fun x H1 => rStr x (r x [] H1 Q)) : tM0 r to σ H Q := k
theorem g_rstr {x : Str} {A : Prop} (k : A) : rStr (.str x) A := ⟨⟨x, rfl⟩, k⟩
theorem g_bm0 {T : String} {r : V → List V → Hp → VK → Prop} {to : TE} (k : to σ H fun x H1 => tyV K T x H1 ∧ r x [] H1 Q) : tBM0 K T r to σ H Q := k
theorem g_bm {T : String} {r : V → List V → Hp → VK → Prop} {to : TE} {t : TA} (k : to σ H fun x H1 => tyV K T x H1 ∧ t σ H1 fun xs H2 => r x xs H2 Q) : tBM K T r to t σ H Q := k
theorem g_isN {x : V} (k : Q (.bl (decide (x = .non))) H) : rIsN x .non H Q := ⟨rfl, k⟩
theorem g_notN {x : V} (k : Q (.bl (!decide (x = .non))) H) : rNotN x .non H Q := ⟨rfl, k⟩
theorem g_cat_str {a b : Str} (h : a.length + b.length ≤ sizeLine) (k : Q (.str (a ++ b)) H) : rCatS (.str a) (.str b) H Q := ⟨a, b, rfl, rfl, h, k⟩
theorem g_int1 {a : Int} (k : Q (.int a) H) : rInt1 [.int a] H Q := .inl ⟨a, rfl, k⟩
theorem g_int1b {b : Bool} (k : Q (.int (if b then 1 else 0)) H) : rInt1 [.bl b] H Q := .inr ⟨b, rfl, k⟩
theorem g_reprB {b : Bool} (k : Q (.str (if b then "True" else "False")) H) : rReprB [.bl b] H Q := ⟨b, rfl, k⟩
theorem g_cat {a b : Addr} {xs ys : List V} (ha : H a = some (.lst xs)) (hb : H b = some (.lst ys)) (hl : xs.length + ys.length ≤ 100000) (k : ∀ p H', H p = none → Same H H' → H' p = some (.lst (xs ++ ys)) → Q (.ref p) H') : rCat (.ref a) (.ref b) H Q :=
  ⟨a, b, xs, ys, rfl, rfl, ha, hb, Nat.le_trans hl (by decide), New.to (Q := fun p H' => Q (.ref p) H') k⟩
theorem g_slL {a : Addr} {xs : List V} {lo hi : Option Int} (h : SqL K H a xs) (k : ∀ p H', H p = none → Same H H' → H' p = some (.lst (cutV xs lo hi)) → Q (.ref p) H') : rSlL K (.ref a) lo hi H Q :=
  ⟨a, xs, rfl, h, New.to (Q := fun p H' => Q (.ref p) H') k⟩
theorem g_inSg {ch : Nat} {z : Str} (k : Q (.bl (decide (ch ∈ z.cps.toList))) H) : rInSg (.str (SX.S [ch])) (.str z) H Q := ⟨ch, z, rfl, rfl, k⟩
theorem g_notInSg {ch : Nat} {z : Str} (k : Q (.bl (!decide (ch ∈ z.cps.toList))) H) : rNotInSg (.str (SX.S [ch])) (.str z) H Q := ⟨ch, z, rfl, rfl, k⟩
theorem g_ord {ch : Nat} (k : Q (.int (ch : Int)) H) : rOrd [.str (SX.S [ch])] H Q := ⟨_, rfl, rfl, k⟩
theorem g_lenL {p : Addr} {ys : List V} (h : SqL K H p ys) (k : Q (.int ys.length) H) : rLenQ K [.ref p] H Q := ⟨p, ys, rfl, .inl h, k⟩
theorem g_lenU {p : Addr} {ys : List V} (h : SqT K H p ys) (k : Q (.int ys.length) H) : rLenQ K [.ref p] H Q := ⟨p, ys, rfl, .inr h, k⟩
theorem g_lenT {z : Str} (h : z.length ≤ sizeLine) (k : Q (.int z.length) H) : rLenT [.str z] H Q := ⟨z, rfl, h, k⟩
theorem g_lenD {a : Addr} {kvs : List (Key × V)} (h : H a = some (.dK kvs)) (k : Q (.int kvs.length) H) : rLenD [.ref a] H Q := ⟨a, kvs, rfl, h, k⟩
theorem g_setL {p : Addr} {xs : List V} {j : Int} {n : Nat} {Q : Hp → Prop} (h : H p = some (.lst xs)) (hj : ixN xs.length j = some n) (k : Q (upd H p (.lst (xs.set n v)))) : rSetL (.ref p) (.int j) v H Q := ⟨p, xs, j, n, rfl, rfl, h, hj, k⟩
theorem g_sub {ti : TE} {t : TSet} {Q : St → Hp → Prop} (k : te σ H fun o H1 => ti σ H1 fun i H2 => t o i v H2 fun H3 => Q σ H3) : gSub te ti t v σ H Q := k
theorem g_dget2 {tx : TE} (k : ta σ H fun x H1 => ∃ a, x = .ref a ∧ IsD H1 a ∧ tb σ H1 fun y H2 => tx σ H2 fun z H3 => ∃ o, DGet H3 a y o ∧ Q (o.getD z) H3) : tDGet2 ta tb tx σ H Q := k
theorem g_orD {b1 b2 : Bool} {Q : Bool → Hp → Prop} (h1 : ∀ Q : Bool → Hp → Prop, Q b1 H → c σ H Q) (h2 : ∀ Q : Bool → Hp → Prop, Q b2 H → d σ H Q) (k : Q (b1 || b2) H) : tOr c d σ H Q := by
  refine h1 _ ?_
  cases b1
  · exact h2 _ k
  · exact k
theorem g_andD {b1 b2 : Bool} {Q : Bool → Hp → Prop} (h1 : ∀ Q : Bool → Hp → Prop, Q b1 H → c σ H Q) (h2 : ∀ Q : Bool → Hp → Prop, Q b2 H → d σ H Q) (k : Q (b1 && b2) H) : tAnd c d σ H Q := by
  refine h1 _ ?_
  cases b1
  · exact k
  · exact h2 _ k
theorem g_rixS {x : Str} {j : Int} {ch : Nat} (h : x.length ≤ sizeLine) (ha : atI x.cps.toList j = some ch) (k : Q (.str (SX.S [ch])) H) : rIxS (.str x) (.int j) H Q := ⟨x, j, ch, rfl, rfl, h, ha, k⟩
/-- for .. in range(r) -/
def kFor1 (g : TG) (tb : TS) (D : Ends) (σ : St) (vs : List V) (H : Hp) : Prop := ∃ j : Int, vs = [.int j] ∧ -(2 ^ 62) ≤ j ∧ j < 2 ^ 62 ∧ ∃ W : Nat → Nat → St → Hp → Prop, (∃ m, W 0 m σ H) ∧ ∀ i m σ H, W i m σ H →
  ((Itr 0 j.toNat).stop i H ∧ D.nx σ H) ∨ ((Itr 0 j.toNat).go i H ∧ ∃ N : St → Hp → Prop, (∀ σ' H', N σ' H' → ∃ m', m' < m ∧ W (i + 1) m' σ' H') ∧ ∀ x H', (Itr 0 j.toNat).yld i H x H' → g x σ H' fun σ2 H2 => tb { D with nx := N, ct := N, bk := D.nx } σ2 H2)
theorem g_forR {tb : TS} (k : tl σ H (kFor1 g tb D σ)) : tFor (iRng1 tl) g tb D σ H := k
theorem g_for1 {tb : TS} {r : Int} (h0 : 0 ≤ r) (h1 : r ≤ 100000) (Pv : Nat → St → Hp → Prop) (hi : Pv 0 σ H) (hs : ∀ (i : Nat) σ H, i < r.toNat → Pv i σ H → g (.int (i : Int)) σ H fun σ2 H2 => tb { D with nx := Pv (i + 1), ct := Pv (i + 1), bk := D.nx } σ2 H2)
    (hd : ∀ σ H, Pv r.toNat σ H → D.nx σ H) : kFor1 g tb D σ [.int r] H :=
  ⟨r, rfl, by omega, by omega, for_range (lo := 0) (n := r.toNat) Pv hi (fun i σ H hi h => by rw [Int.zero_add]; exact hs i σ H hi h) hd⟩
/-! walks -/
def kFor (g : TG) (tb : TS) (D : Ends) (σ : St) (J : It) (H : Hp) : Prop := ∃ W : Nat → Nat → St → Hp → Prop, (∃ m, W 0 m σ H) ∧ ∀ i m σ H, W i m σ H →
  (J.stop i H ∧ D.nx σ H) ∨ (J.go i H ∧ ∃ N : St → Hp → Prop, (∀ σ' H', N σ' H' → ∃ m', m' < m ∧ W (i + 1) m' σ' H') ∧ ∀ x H', J.yld i H x H' → g x σ H' fun σ2 H2 => tb { D with nx := N, ct := N, bk := D.nx } σ2 H2)
theorem g_for {wi : TI} {tb : TS} (k : wi σ H (kFor g tb D σ)) : tFor wi g tb D σ H := k
def rItS (v : V) (H : Hp) (R : It → Hp → Prop) : Prop := ∃ x, v = .str x ∧ R (Its x) H
theorem g_iStr {R : It → Hp → Prop} (k : te σ H fun v H1 => rItS v H1 R) : iStr te σ H R := k
theorem g_ritS {x : Str} {R : It → Hp → Prop} (k : R (Its x) H) : rItS (.str x) H R := ⟨x, rfl, k⟩
def rItL (K : PySem.W.Frag) (v : V) (H : Hp) (R : It → Hp → Prop) : Prop := ∃ a, v = .ref a ∧ (∃ xs, SqL K H a xs) ∧ R (Itl K a) H
theorem g_iList {R : It → Hp → Prop} (k : te σ H fun v H1 => rItL K v H1 R) : iList K te σ H R := k
theorem g_ritL {a : Addr} {xs : List V} {R : It → Hp → Prop} (h : SqL K H a xs) (k : R (Itl K a) H) : rItL K (.ref a) H R := ⟨a, rfl, ⟨xs, h⟩, k⟩
def rItU (K : PySem.W.Frag) (v : V) (H : Hp) (R : It → Hp → Prop) : Prop := ∃ a, v = .ref a ∧ (∃ xs, SqT K H a xs) ∧ R (Itt K a) H
theorem g_iTup {R : It → Hp → Prop} (k : te σ H fun v H1 => rItU K v H1 R) : iTup K te σ H R := k
theorem g_ritU {a : Addr} {xs : List V} {R : It → Hp → Prop} (h : SqT K H a xs) (k : R (Itt K a) H) : rItU K (.ref a) H R := ⟨a, rfl, ⟨xs, h⟩, k⟩
def rItR (vs : List V) (H : Hp) (R : It → Hp → Prop) : Prop := ∃ j : Int, vs = [.int j] ∧ -(2 ^ 62) ≤ j ∧ j < 2 ^ 62 ∧ R (Itr 0 j.toNat) H
theorem g_iRng {R : It → Hp → Prop} (k : tl σ H fun vs H1 => rItR vs H1 R) : iRng1 tl σ H R := k
theorem g_ritR {r : Int} {R : It → Hp → Prop} (h0 : 0 ≤ r) (h1 : r ≤ 100000) (k : R (Itr 0 r.toNat) H) : rItR [.int r] H R := ⟨r, rfl, by omega, by omega, k⟩
/-- the signs of a text, each a text -/
def sgs (l : List Nat) : List V := l.map fun c => V.str (SX.S [c])
theorem walk_sgs {l : List Nat} : Walk (Its (SX.S l)) (sgs l).length (fun _ => True) (YAt (sgs l)) := by
  have e : (sgs l).length = (SX.S l).cps.size := by unfold sgs; simp
  rw [e]
  refine walk_str.mono (fun _ h => h) fun i H x H' hi _ h => ?_
  obtain ⟨h1, c, h2, h3⟩ := h
  refine ⟨h1, ?_⟩
  have h4 : l[i]? = some c := by simpa using h2
  unfold sgs
  rw [List.getElem?_map, h4, h3]
  rfl
theorem sgs_at {l : List Nat} {i : Nat} {x : V} (h : (sgs l)[i]? = some x) : ∃ c, l[i]? = some c ∧ V.str (SX.S [c]) = x := by
  unfold sgs at h
  rw [List.getElem?_map] at h
  cases e : l[i]? with
  | none => rw [e] at h; cases h
  | some c => rw [e] at h; exact ⟨c, rfl, Option.some.inj h⟩
theorem map_at {α : Type} {F : α → V} {l : List α} {i : Nat} {x : V} (h : (l.map F)[i]? = some x) : ∃ c, l[i]? = some c ∧ F c = x := by
  rw [List.getElem?_map] at h
  cases e : l[i]? with
  | none => rw [e] at h; cases h
  | some c => rw [e] at h; exact ⟨c, rfl, Option.some.inj h⟩
theorem sgs_len {l : List Nat} : (sgs l).length = l.length := by unfold sgs; rw [List.length_map]
theorem walk_rng {n : Nat} : Walk (Itr 0 n) ((List.range n).map fun (i : Nat) => V.int (i : Int)).length (fun _ => True) (YAt ((List.range n).map fun (i : Nat) => V.int (i : Int))) := by
  rw [List.length_map, List.length_range]
  refine walk_range.mono (fun _ h => h) fun i H x H' hi _ h => ?_
  obtain ⟨h1, h2⟩ := h
  refine ⟨h1, ?_⟩
  rw [List.getElem?_map, List.getElem?_range hi, h2]
  show some (V.int (i : Int)) = some (V.int (0 + (i : Int)))
  rw [Int.zero_add]
/-- a for over xs -/
theorem for_at {J : It} {xs : List V} {G : Hp → Prop} {tb : TS} (w : Walk J xs.length G (YAt xs)) (Pv : Nat → St → Hp → Prop) (h0 : Pv 0 σ H) (hG : ∀ i σ H, Pv i σ H → G H)
    (hs : ∀ i x σ H, xs[i]? = some x → Pv i σ H → g x σ H fun σ2 H2 => tb { D with nx := Pv (i + 1), ct := Pv (i + 1), bk := D.nx } σ2 H2) (hd : ∀ σ H, Pv xs.length σ H → D.nx σ H) : kFor g tb D σ J H :=
  for_it w Pv h0 (fun i σ H _ h => hG i σ H h) (fun i x σ H H' _ h y => by obtain ⟨e, hx⟩ := y; subst e; exact hs i x σ H' hx h) hd
/-- a comprehension -/
def kLc (g : TG) (tt : TT) (te : TE) (vs : List Nat) (σ : St) (Q : VK) (J : It) (H1 : Hp) : Prop := ∀ D, H1 D = none → ∃ W : Nat → Nat → Hp → Prop, (∃ m, W 0 m (upd H1 D (.lst []))) ∧ ∀ i m H, W i m H →
  (J.stop i H ∧ Q (.ref D) H) ∨ (J.go i H ∧ ∃ Nx : Hp → Prop, (∀ H', Nx H' → ∃ m', m' < m ∧ W (i + 1) m' H') ∧ ∀ x H', J.yld i H x H' → g x (wipe σ vs) H' fun σ2 H2 => wipe σ2 vs = wipe σ vs ∧ tt σ2 H2 fun b H3 =>
    if b = true then te σ2 H3 fun y H4 => ∃ acc, H4 D = some (.lst acc) ∧ acc.length < sizeLine ∧ Nx (upd H4 D (.lst (acc ++ [y]))) else Nx H3)
theorem g_lc {wi : TI} {tt : TT} {vs : List Nat} (k : wi σ H (kLc g tt te vs σ Q)) : tLc wi g tt te vs σ H Q := k
theorem take_ok {α : Type} {xs : List α} {i : Nat} {x : α} (h : xs[i]? = some x) : xs.take (i + 1) = xs.take i ++ [x] := by
  rw [List.take_add_one, h]
  rfl
/-- .. whose items hang on the item alone: xs filtered and mapped; the heap may grow meanwhile -/
theorem lc_map {J : It} {xs : List V} {G : Hp → Prop} {tt : TT} {vs : List Nat} (w : Walk J xs.length G (YAt xs)) (hG : ∀ H', Same H H' → G H') (hz : xs.length ≤ 100000) (p : V → Bool) (f : V → V)
    (hg : ∀ x ∈ xs, ∀ H' (R : St → Hp → Prop), Same H H' → (∀ σ2, wipe σ2 vs = wipe σ vs → (∀ H'' (R : Bool → Hp → Prop), Same H H'' → R (p x) H'' → tt σ2 H'' R) →
      (p x = true → ∀ H'' (R : VK), Same H H'' → (∀ H3, Same H'' H3 → R (f x) H3) → te σ2 H'' R) → R σ2 H') → g x (wipe σ vs) H' R)
    (k : ∀ q H', H q = none → Same H H' → H' q = some (.lst ((xs.filter p).map f)) → Q (.ref q) H') : kLc g tt te vs σ Q J H := by
  intro D hD
  refine lc_it w (fun i H2 => Same H H2 ∧ H2 D = some (.lst (((xs.take i).filter p).map f))) ⟨Same.new hD, upd_same⟩ (fun i H2 _ h => hG H2 h.1) (fun i x H2 H2' hi h y => ?_) (fun H2 h => ?_)
  · obtain ⟨e, hx⟩ := y
    subst e
    refine hg x (List.mem_of_getElem? hx) _ _ h.1 fun σ2 hw ht he => ⟨hw, ?_⟩
    refine ht _ _ h.1 ?_
    have hl : (((xs.take i).filter p).map f).length < sizeLine := by
      rw [List.length_map]
      have h1 := List.length_filter_le p (xs.take i)
      have h2 := List.length_take_le i xs
      exact Nat.lt_of_lt_of_le (show _ < 200000 by omega) (by decide)
    cases hp : p x with
    | true =>
      refine iteT ?_
      refine he hp _ _ h.1 fun H3 s3 => ⟨_, s3 _ _ h.2, hl, (h.1.trans s3).grow hD, ?_⟩
      rw [upd_same, take_ok hx, List.filter_append, List.map_append]
      simp [hp]
    | false =>
      refine iteF ?_
      refine ⟨h.1, ?_⟩
      rw [take_ok hx, List.filter_append]
      simpa [hp] using h.2
  · rw [List.take_length] at h
    exact k D H2 hD h.1 h.2
theorem g_cut {t u : TS} (Mid : St → Hp → Prop) (h1 : t { D with nx := Mid } σ H) (h2 : ∀ σ' H', Mid σ' H' → u D σ' H') : C8.tCut t u D σ H := ⟨Mid, h1, h2⟩
/-! statements -/
theorem g_seq (k : t { D with nx := u D } σ H) : tSeq t u D σ H := k
theorem g_asg (k : te σ H fun x H1 => g x σ H1 D.nx) : tAsg te g D σ H := k
theorem g_name {Q : St → Hp → Prop} (k : Q (σ.set i (some v)) H) : gName i v σ H Q := k
theorem g_ret (k : te σ H D.rt) : tRet te D σ H := k
theorem g_drop (k : te σ H fun _ H1 => D.nx σ H1) : tDrop te D σ H := k
theorem g_next (k : D.nx σ H) : tNext D σ H := k
theorem g_ifs (k : c σ H fun b H1 => if b = true then t D σ H1 else u D σ H1) : tIfS c t u D σ H := k
theorem g_pnx {nx bk ct : St → Hp → Prop} {rt : VK} (k : nx σ H) : Ends.nx ⟨nx, rt, bk, ct⟩ σ H := k
theorem g_prt {nx bk ct : St → Hp → Prop} {rt : VK} (k : rt v H) : Ends.rt ⟨nx, rt, bk, ct⟩ v H := k
theorem g_pbk {nx bk ct : St → Hp → Prop} {rt : VK} (k : bk σ H) : Ends.bk ⟨nx, rt, bk, ct⟩ σ H := k
theorem g_pct {nx bk ct : St → Hp → Prop} {rt : VK} (k : ct σ H) : Ends.ct ⟨nx, rt, bk, ct⟩ σ H := k
/-! ways -/
theorem ifp {p A B : Prop} [Decidable p] (h : p) (k : A) : if decide p = true then A else B := by rw [if_pos (decide_eq_true h)]; exact k
theorem ifn {p A B : Prop} [Decidable p] (h : ¬ p) (k : B) : if decide p = true then A else B := by rw [if_neg (by simp [h])]; exact k
theorem if2 {p A B : Prop} [Decidable p] (h1 : p → A) (h2 : ¬ p → B) : if decide p = true then A else B := by
  by_cases h : p
  · exact ifp h (h1 h)
  · exact ifn h (h2 h)
theorem ifnp {p A B : Prop} [Decidable p] (h : p) (k : B) : if (!decide p) = true then A else B := by rw [if_neg (by simp [h])]; exact k
theorem ifnn {p A B : Prop} [Decidable p] (h : ¬ p) (k : A) : if (!decide p) = true then A else B := by rw [if_pos (by simp [h])]; exact k
theorem ifn2 {p A B : Prop} [Decidable p] (h1 : p → B) (h2 : ¬ p → A) : if (!decide p) = true then A else B := by
  by_cases h : p
  · exact ifnp h (h1 h)
  · exact ifnn h (h2 h)
theorem ifb {b : Bool} {A B : Prop} (h1 : b = true → A) (h2 : b = false → B) : if b = true then A else B := by
  cases b
  · exact iteF (h2 rfl)
  · exact iteT (h1 rfl)
theorem int_eq {a b : Int} : (V.int a = V.int b) ↔ a = b := ⟨fun h => V.int.inj h, fun h => by rw [h]⟩
theorem str_eq {a b : Str} : (V.str a = V.str b) ↔ a = b := ⟨fun h => V.str.inj h, fun h => by rw [h]⟩
theorem bl_eq {a b : Bool} : (V.bl a = V.bl b) ↔ a = b := ⟨fun h => V.bl.inj h, fun h => by rw [h]⟩
end
/-! one step of a reading: the keys are ours -/

/-! ### steps of the heap: whose objects changed (c tells each object's owner) -/
structure Stp (I : Nat → Prop) (c c' : Addr → Nat) (H H' : Hp) : Prop where
  keep : ∀ b o, H b = some o → ¬ I (c b) → H' b = some o
  col : ∀ b o, H b = some o → c' b = c b
  tup : ∀ b xs, H b = some (.tup xs) → H' b = some (.tup xs)
  fre : ∀ b, H' b = none → H b = none
namespace Stp
variable {I J : Nat → Prop} {c c' c'' : Addr → Nat} {H H' H'' : Hp}
theorem refl : Stp I c c H H := ⟨fun _ _ h _ => h, fun _ _ _ => rfl, fun _ _ h => h, fun _ h => h⟩
theorem some' (s : Stp I c c' H H') {b : Addr} {o : HO} (h : H b = some o) : ∃ o', H' b = some o' := by
  cases e : H' b with
  | none => rw [s.fre b e] at h; cases h
  | some o' => exact ⟨o', rfl⟩
theorem trans (a : Stp I c c' H H') (b : Stp I c' c'' H' H'') : Stp I c c'' H H'' := by
  refine ⟨fun x o h n => b.keep x o (a.keep x o h n) (by rw [a.col x o h]; exact n), fun x o h => ?_, fun x xs h => b.tup x xs (a.tup x xs h), fun x h => a.fre x (b.fre x h)⟩
  obtain ⟨o', h'⟩ := a.some' h
  rw [b.col x o' h', a.col x o h]
theorem mono (a : Stp I c c' H H') (h : ∀ i, I i → J i) : Stp J c c' H H' := ⟨fun x o e n => a.keep x o e fun z => n (h _ z), a.col, a.tup, a.fre⟩
theorem same (h : Same H H') : Stp I c c H H' := ⟨fun x o e _ => h x o e, fun _ _ _ => rfl, fun x xs e => h x _ e, fun _ e => h.free e⟩
theorem own {b : Addr} {o o' : HO} (h : H b = some o) (hi : I (c b)) (ht : ∀ xs, o ≠ .tup xs) : Stp I c c H (upd H b o') := by
  refine ⟨fun x u e n => ?_, fun _ _ _ => rfl, fun x xs e => ?_, fun x e => ?_⟩
  · rw [upd_ne (fun z => n (by rw [z]; exact hi))]; exact e
  · rw [upd_ne (fun z => ht xs (by subst z; rw [h] at e; exact Option.some.inj e))]; exact e
  · by_cases z : x = b
    · subst z; rw [upd_same] at e; cases e
    · rw [upd_ne z] at e; exact e
/-- one own object changed -/
theorem ch {b : Addr} {o o' : HO} (h : H b = some o) (hi : I (c b)) (ht : ∀ xs, o ≠ .tup xs) (h' : H' b = some o') (k : ∀ x, x ≠ b → H' x = H x) : Stp I c c H H' := by
  refine ⟨fun x u e n => ?_, fun _ _ _ => rfl, fun x xs e => ?_, fun x e => ?_⟩
  · rw [k x (fun z => n (by rw [z]; exact hi))]; exact e
  · rw [k x (fun z => ht xs (by subst z; rw [h] at e; exact Option.some.inj e))]; exact e
  · by_cases z : x = b
    · subst z; rw [h'] at e; cases e
    · rw [k x z] at e; exact e
theorem sameC (h : Same H H') (hc : ∀ b o, H b = some o → c' b = c b) : Stp I c c' H H' := ⟨fun x o e _ => h x o e, hc, fun x xs e => h x _ e, fun _ e => h.free e⟩
theorem new {p : Addr} {o : HO} (h : H p = none) : Stp I c c H (upd H p o) := same fun b u e => by rw [upd_ne (ne_of_none e h)]; exact e
/-- a new object gets its owner -/
def paint (c : Addr → Nat) (p : Addr) (i : Nat) : Addr → Nat := fun b => if b = p then i else c b
theorem paint_same {p : Addr} {i : Nat} : paint c p i p = i := by unfold paint; rw [if_pos rfl]
theorem paint_ne {p b : Addr} {i : Nat} (h : b ≠ p) : paint c p i b = c b := by unfold paint; rw [if_neg h]
theorem newc {p : Addr} {o : HO} {i : Nat} (h : H p = none) : Stp I c (paint c p i) H (upd H p o) :=
  ⟨fun b u e _ => by rw [upd_ne (ne_of_none e h)]; exact e, fun b u e => paint_ne (ne_of_none e h), fun b xs e => by rw [upd_ne (ne_of_none e h)]; exact e, fun b e => by
    by_cases z : b = p
    · subst z; rw [upd_same] at e; cases e
    · rw [upd_ne z] at e; exact e⟩
end Stp
end Lw
namespace Lw
open PySem L2
open PyProof.Rows (envOfC)
theorem lk_eq {k : Str} {v : V} {l : List (Str × V)} : List.lookup k ((k, v) :: l) = some v := by simp [List.lookup]
theorem lk_ne {k k' : Str} {v : V} {l : List (Str × V)} (h : (k == k') = false) : List.lookup k ((k', v) :: l) = l.lookup k := by simp [List.lookup, h]
theorem lk_no {m : Str} : ∀ {l : List (Str × V)}, (l.map (·.1)).all (fun f => !(m == f)) = true → l.lookup m = none
  | [], _ => rfl
  | (k, v) :: l, h => by
    have h : (!(m == k) && (l.map (·.1)).all (fun f => !(m == f))) = true := h
    rw [Bool.and_eq_true, Bool.not_eq_true'] at h
    rw [lk_ne h.1]
    exact lk_no h.2
theorem pf_eq {k : Str} {y v : V} {l : List (Str × V)} : putF k y ((k, v) :: l) = (k, y) :: l := by
  show (if k = k then _ else _) = _
  rw [if_pos rfl]
theorem pf_ne {k k' : Str} {y v : V} {l : List (Str × V)} (h : ¬ k' = k) : putF k y ((k', v) :: l) = (k', v) :: putF k y l := by
  show (if k' = k then _ else _) = _
  rw [if_neg h]
theorem empty_S : ("" : Str) = SX.S [] := by decide +kernel
theorem join_empty (l : List Nat) : Txt.join ("" : Str) (l.map fun c => SX.S [c]) = SX.S l := by
  have e : (l.map fun c => SX.S [c]) = (l.map fun c => [c]).map SX.S := by rw [List.map_map]; rfl
  rw [empty_S, e, SX.join_S]
  have h : ∀ l : List Nat, TL.joinL [] (l.map fun c => [c]) = l := by
    intro l
    induction l with
    | nil => rfl
    | cons a r ih =>
      cases r with
      | nil => rfl
      | cons b r => 
        show [a] ++ ([] ++ TL.joinL [] ((b :: r).map fun c => [c])) = a :: b :: r
        rw [ih]
        rfl
  rw [h]
theorem sum_ones (l : List Nat) : ((l.map fun c => SX.S [c]).map (·.length)).sum = l.length := by
  induction l with
  | nil => rfl
  | cons a r ih =>
    rw [List.map_cons, List.map_cons, List.sum_cons, ih, SX.S_len, List.length_cons]
    simp only [List.length_cons, List.length_nil]
    omega
theorem L2x_sameN {I : Nat → Prop} {c : Addr → Nat} {H H' : Hp} {p : Addr} {i : Nat} (s : Same H H') (n : H p = none) : Stp I c (Stp.paint c p i) H H' := Stp.sameC s fun b o e => Stp.paint_ne (ne_of_none e n)
end Lw
local macro_rules | `(tactic| walk_at "lw side") => `(tactic| first | assumption | decide | omega | exact Or.inr ⟨by decide, by decide⟩ | exact Or.inl ⟨by decide, by decide⟩ | exact ⟨by decide, by decide⟩ | exact ⟨by omega, by omega⟩)
local macro_rules | `(tactic| walk_at "lw ne") => `(tactic| first | assumption | exact Ne.symm (by assumption) | exact L2.ne_of_none (by assumption) (by assumption) | exact Ne.symm (L2.ne_of_none (by assumption) (by assumption)))
local macro_rules | `(tactic| walk_at "lw hp") => `(tactic| first | assumption | exact L2.upd_same | (refine Eq.trans (L2.upd_ne (by walk_at "lw ne")) ?_; walk_at "lw hp"))
local macro_rules | `(tactic| walk_at "lw sq") => `(tactic| first | assumption | exact L2.SqL.of (by walk_at "lw hp") | exact L2.SqT.of (by walk_at "lw hp"))
local macro_rules | `(tactic| walk_at "lw go") => `(tactic| first
  | (with_reducible refine Lw.g_seq ?_)
  | ((with_reducible refine' Lw.g_var ?h1 ?k1); (case h1 => rfl))
  | (with_reducible refine Lw.g_c ?_)
  | (with_reducible refine Lw.g_op ?_)
  | (with_reducible refine Lw.g_I0 ?_)
  | ((with_reducible refine' Lw.g_I ?h1 ?k1); (case h1 => walk_at "lw side"))
  | ((with_reducible refine' Lw.g_eq ?h1 ?k1); (case h1 => rfl))
  | ((with_reducible refine' Lw.g_ne ?h1 ?k1); (case h1 => rfl))
  | (with_reducible refine Lw.g_nil ?_)
  | (with_reducible refine Lw.g_cons ?_)
  | (with_reducible refine Lw.g_cb ?_)
  | (with_reducible refine Lw.g_call ?_)
  | (with_reducible refine Lw.g_test ?_)
  | (with_reducible refine Lw.g_B ?_)
  | (with_reducible refine Lw.g_exb ?_)
  | (with_reducible refine Lw.g_not ?_)
  | (with_reducible refine Lw.g_and ?_)
  | (with_reducible refine Lw.g_or ?_)
  | (with_reducible refine Lw.g_tup ?_)
  | (with_reducible refine Lw.g_lst ?_)
  | (with_reducible refine Lw.g_ifx ?_)
  | (with_reducible refine Lw.g_fld ?_)
  | (with_reducible refine Lw.g_asg ?_)
  | (with_reducible refine Lw.g_name ?_)
  | (with_reducible refine Lw.g_ret ?_)
  | (with_reducible refine Lw.g_drop ?_)
  | (with_reducible refine Lw.g_next ?_)
  | (with_reducible refine Lw.g_ifs ?_)
  | (with_reducible refine Lw.g_pnx ?_)
  | (with_reducible refine Lw.g_prt ?_)
  | (with_reducible refine Lw.g_pbk ?_)
  | (with_reducible refine Lw.g_pct ?_)
  | (with_reducible refine Lw.g_sl ?_)
  | (with_reducible refine Lw.g_nopart ?_)
  | (with_reducible refine Lw.g_part ?_)
  | (with_reducible refine Lw.g_rpart ?_)
  | (with_reducible refine Lw.g_m1 ?_)
  | (with_reducible refine Lw.g_m0 ?_)
  | (with_reducible refine Lw.g_rstr ?_)
  | (with_reducible refine Lw.g_bm0 ?_)
  | (with_reducible refine Lw.g_bm ?_)
  | (with_reducible refine Lw.g_isN ?_)
  | (with_reducible refine Lw.g_notN ?_)
  | (with_reducible refine L2.iteT ?_)
  | (with_reducible refine L2.iteF ?_)
  | (with_reducible refine Lw.g_int1 ?_)
  | (with_reducible refine Lw.g_int1b ?_)
  | (with_reducible refine Lw.g_sub ?_)
  | (with_reducible refine Lw.g_forR ?_)
  | (with_reducible refine Lw.g_for ?_)
  | (with_reducible refine Lw.g_lc ?_)
  | (with_reducible refine Lw.g_iStr ?_)
  | (with_reducible refine Lw.g_ritS ?_)
  | (with_reducible refine Lw.g_tyS ?_)
  | (with_reducible refine Lw.g_iList ?_)
  | (with_reducible refine Lw.g_iTup ?_)
  | (with_reducible refine Lw.g_iRng ?_)
  | (with_reducible refine Lw.g_inSg ?_)
  | (with_reducible refine Lw.g_notInSg ?_)
  | (with_reducible refine Lw.g_ord ?_)
  | (with_reducible refine Lw.g_reprB ?_)
  | (with_reducible refine Lw.g_sfld ?_)
  | (with_reducible refine Lw.g_meth ?_)
  | (with_reducible refine Lw.g_make ?_)
  | (with_reducible refine Lw.g_dget ?_)
  | (with_reducible refine Lw.g_din ?_)
  | (with_reducible refine Lw.g_dnotin ?_)
  | (with_reducible refine Lw.g_dput ?_)
  | (with_reducible refine Lw.g_ddel ?_)
  | (with_reducible refine Lw.g_dpop1 ?_)
  | (with_reducible refine Lw.g_dget1 ?_)
  | (with_reducible refine Lw.g_iKeys ?_)
  | (with_reducible refine Lw.g_fldaug ?_)
  | ((with_reducible refine' Lw.g_lenL ?h1 ?k1); (case h1 => walk_at "lw sq"))
  | ((with_reducible refine' Lw.g_lenD ?h1 ?k1); (case h1 => walk_at "lw hp")))
local macro_rules | `(tactic| walk_at "lw") => `(tactic| repeat walk_at "lw go")

/-! ## dicts: the steps -/
namespace Lw
open PySem L2 PySem.Spec
open PyProof.Rows (envOfC sortedS risingS)
/-- the key behind a value -/
def kI (i : Int) : Key := .inl i
def kS (x : Str) : Key := .inr x
section
variable {σ : L2.St} {H : Hp} {Q : VK} {K : PySem.W.Frag} {D : Ends} {ta tb te tx : TE} {tl : TA} {t u : TS} {i : Nat} {v : V} {g : TG}
def rDGet (x y : V) (H : Hp) (Q : VK) : Prop := ∃ a v, x = .ref a ∧ DGet H a y (some v) ∧ Q v H
theorem g_dget (k : ta σ H fun x H1 => tb σ H1 fun y H2 => rDGet x y H2 Q) : tDGet ta tb σ H Q := k
theorem g_rdgetI {a : Addr} {kvs : List (Key × V)} {j : Int} (h : Rd H a (.dK kvs)) (hv : valV kvs (kI j) = some v) (k : Q v H) : rDGet (.ref a) (.int j) H Q := ⟨a, v, rfl, .inl ⟨kvs, kI j, h, rfl, hv.symm⟩, k⟩
theorem g_rdgetS {a : Addr} {kvs : List (Key × V)} {z : Str} (h : Rd H a (.dK kvs)) (hv : valV kvs (kS z) = some v) (k : Q v H) : rDGet (.ref a) (.str z) H Q := ⟨a, v, rfl, .inl ⟨kvs, kS z, h, rfl, hv.symm⟩, k⟩
def rDIn (y x : V) (H : Hp) (Q : VK) : Prop := ∃ a o, x = .ref a ∧ DGet H a y o ∧ Q (.bl o.isSome) H
theorem g_din (k : ta σ H fun y H1 => tb σ H1 fun x H2 => rDIn y x H2 Q) : tDIn ta tb σ H Q := k
theorem g_rdinI {a : Addr} {kvs : List (Key × V)} {j : Int} (h : Rd H a (.dK kvs)) (k : Q (.bl (valV kvs (kI j)).isSome) H) : rDIn (.int j) (.ref a) H Q := ⟨a, _, rfl, .inl ⟨kvs, kI j, h, rfl, rfl⟩, k⟩
theorem g_rdinS {a : Addr} {kvs : List (Key × V)} {z : Str} (h : Rd H a (.dK kvs)) (k : Q (.bl (valV kvs (kS z)).isSome) H) : rDIn (.str z) (.ref a) H Q := ⟨a, _, rfl, .inl ⟨kvs, kS z, h, rfl, rfl⟩, k⟩
def rDNotIn (y x : V) (H : Hp) (Q : VK) : Prop := ∃ a o, x = .ref a ∧ DGet H a y o ∧ Q (.bl (!o.isSome)) H
theorem g_dnotin (k : ta σ H fun y H1 => tb σ H1 fun x H2 => rDNotIn y x H2 Q) : tDNotIn ta tb σ H Q := k
theorem g_rdnotinI {a : Addr} {kvs : List (Key × V)} {j : Int} (h : Rd H a (.dK kvs)) (k : Q (.bl (!(valV kvs (kI j)).isSome)) H) : rDNotIn (.int j) (.ref a) H Q := ⟨a, _, rfl, .inl ⟨kvs, kI j, h, rfl, rfl⟩, k⟩
theorem g_rdnotinS {a : Addr} {kvs : List (Key × V)} {z : Str} (h : Rd H a (.dK kvs)) (k : Q (.bl (!(valV kvs (kS z)).isSome)) H) : rDNotIn (.str z) (.ref a) H Q := ⟨a, _, rfl, .inl ⟨kvs, kS z, h, rfl, rfl⟩, k⟩
def rDPut (x y v : V) (H : Hp) (R : Hp → Prop) : Prop := ∃ a H', x = .ref a ∧ DPut H a y v H' ∧ R H'
theorem g_dput (k : te σ H fun v H1 => ta σ H1 fun x H2 => tb σ H2 fun y H3 => rDPut x y v H3 fun H4 => D.nx σ H4) : sDPut ta tb te D σ H := k
theorem g_rdputI {a : Addr} {kvs : List (Key × V)} {j : Int} {R : Hp → Prop} (h : H a = some (.dK kvs)) (hl : kvs.length < 100000) (k : ∀ H', H' a = some (.dK (putK kvs (kI j) v)) → (∀ b, b ≠ a → H' b = H b) → R H') : rDPut (.ref a) (.int j) v H R :=
  ⟨a, _, rfl, .inl ⟨kvs, kI j, h, rfl, Nat.lt_of_lt_of_le hl (by decide), rfl⟩, k _ upd_same fun b hb => upd_ne hb⟩
theorem g_rdputS {a : Addr} {kvs : List (Key × V)} {z : Str} {R : Hp → Prop} (h : H a = some (.dK kvs)) (hl : kvs.length < 100000) (k : ∀ H', H' a = some (.dK (putK kvs (kS z) v)) → (∀ b, b ≠ a → H' b = H b) → R H') : rDPut (.ref a) (.str z) v H R :=
  ⟨a, _, rfl, .inl ⟨kvs, kS z, h, rfl, Nat.lt_of_lt_of_le hl (by decide), rfl⟩, k _ upd_same fun b hb => upd_ne hb⟩
def rDDel (x y : V) (H : Hp) (R : Hp → Prop) : Prop := ∃ a kvs k, x = .ref a ∧ H a = some (.dK kvs) ∧ y = kV k ∧ (valV kvs k).isSome = true ∧ R (upd H a (.dK (dropK kvs k)))
theorem g_ddel (k : ta σ H fun x H1 => tb σ H1 fun y H2 => rDDel x y H2 fun H3 => D.nx σ H3) : sDDel ta tb D σ H := k
theorem g_rddelI {a : Addr} {kvs : List (Key × V)} {j : Int} {R : Hp → Prop} (h : H a = some (.dK kvs)) (hs : (valV kvs (kI j)).isSome = true) (k : ∀ H', H' a = some (.dK (dropK kvs (kI j))) → (∀ b, b ≠ a → H' b = H b) → R H') : rDDel (.ref a) (.int j) H R :=
  ⟨a, kvs, kI j, rfl, h, rfl, hs, k _ upd_same fun b hb => upd_ne hb⟩
theorem g_rddelS {a : Addr} {kvs : List (Key × V)} {z : Str} {R : Hp → Prop} (h : H a = some (.dK kvs)) (hs : (valV kvs (kS z)).isSome = true) (k : ∀ H', H' a = some (.dK (dropK kvs (kS z))) → (∀ b, b ≠ a → H' b = H b) → R H') : rDDel (.ref a) (.str z) H R :=
  ⟨a, kvs, kS z, rfl, h, rfl, hs, k _ upd_same fun b hb => upd_ne hb⟩
def rIsD (x : V) (H : Hp) (A : Addr → Prop) : Prop := ∃ a, x = .ref a ∧ IsD H a ∧ A a
theorem g_risd {a : Addr} {kvs : List (Key × V)} {A : Addr → Prop} (h : Rd H a (.dK kvs)) (k : A a) : rIsD (.ref a) H A := ⟨a, rfl, .inl ⟨kvs, h⟩, k⟩
def rDPop (a : Addr) (y : V) (H : Hp) (Q : VK) : Prop := ∃ kvs k v, H a = some (.dK kvs) ∧ y = kV k ∧ valV kvs k = some v ∧ Q v (upd H a (.dK (dropK kvs k)))
theorem g_dpop1 (k : ta σ H fun x H1 => rIsD x H1 fun a => tb σ H1 fun y H2 => rDPop a y H2 Q) : tDPop1 ta tb σ H Q := k
theorem g_rdpopI {a : Addr} {kvs : List (Key × V)} {j : Int} (h : H a = some (.dK kvs)) (hv : valV kvs (kI j) = some v) (k : ∀ H', H' a = some (.dK (dropK kvs (kI j))) → (∀ b, b ≠ a → H' b = H b) → Q v H') : rDPop a (.int j) H Q :=
  ⟨kvs, kI j, v, h, rfl, hv, k _ upd_same fun b hb => upd_ne hb⟩
theorem g_rdpopS {a : Addr} {kvs : List (Key × V)} {z : Str} (h : H a = some (.dK kvs)) (hv : valV kvs (kS z) = some v) (k : ∀ H', H' a = some (.dK (dropK kvs (kS z))) → (∀ b, b ≠ a → H' b = H b) → Q v H') : rDPop a (.str z) H Q :=
  ⟨kvs, kS z, v, h, rfl, hv, k _ upd_same fun b hb => upd_ne hb⟩
def rDGet1 (a : Addr) (y : V) (H : Hp) (Q : VK) : Prop := ∃ o, DGet H a y o ∧ Q (o.getD .non) H
theorem g_dget1 (k : ta σ H fun x H1 => rIsD x H1 fun a => tb σ H1 fun y H2 => rDGet1 a y H2 Q) : tDGet1 ta tb σ H Q := k
theorem g_rdget1I {a : Addr} {kvs : List (Key × V)} {j : Int} (h : Rd H a (.dK kvs)) (k : Q ((valV kvs (kI j)).getD .non) H) : rDGet1 a (.int j) H Q := ⟨_, .inl ⟨kvs, kI j, h, rfl, rfl⟩, k⟩
theorem g_rdget1S {a : Addr} {kvs : List (Key × V)} {z : Str} (h : Rd H a (.dK kvs)) (k : Q ((valV kvs (kS z)).getD .non) H) : rDGet1 a (.str z) H Q := ⟨_, .inl ⟨kvs, kS z, h, rfl, rfl⟩, k⟩
theorem g_dnew (k : ∀ p H', H p = none → Same H H' → H' p = some (.dK []) → Q (.ref p) H') : tDNewK σ H Q := New.to (Q := fun p H' => Q (.ref p) H') k
/-- a loop over a dict's keys -/
theorem g_lock {d : Addr} {kvs : List (Key × V)} (h : H d = some (.dK kvs)) (k : ∀ od H', H' d = some (.frz od (.dK kvs)) → (∀ b, b ≠ d → H' b = H b) →
    t ⟨fun σ' H' => H' d = some (.frz od (.dK kvs)) ∧ D.nx σ' (upd H' d (.dK kvs)), fun v H' => H' d = some (.frz od (.dK kvs)) ∧ D.rt v (upd H' d (.dK kvs)), fun σ' H' => H' d = some (.frz od (.dK kvs)) ∧ D.bk σ' (upd H' d (.dK kvs)), fun σ' H' => H' d = some (.frz od (.dK kvs)) ∧ D.ct σ' (upd H' d (.dK kvs))⟩ σ H') : tLock t D σ H :=
  ⟨d, _, h, trivial, fun od => k od _ upd_same fun b hb => upd_ne hb⟩
def rItK (x : V) (H : Hp) (R : It → Hp → Prop) : Prop := ∃ d o, x = .ref d ∧ ((∃ kvs, H d = some (.frz o (.dK kvs)) ∧ R (Itk d o kvs) H) ∨ ∃ kvs, H d = some (.frz o (.dT kvs)) ∧ R (Itkt d o kvs) H)
theorem g_iKeys {R : It → Hp → Prop} (k : te σ H fun v H1 => rItK v H1 R) : iKeys te σ H R := k
theorem g_ritK {d : Addr} {o : Obj} {kvs : List (Key × V)} {R : It → Hp → Prop} (h : H d = some (.frz o (.dK kvs))) (k : R (Itk d o kvs) H) : rItK (.ref d) H R := ⟨d, o, rfl, .inl ⟨kvs, h, k⟩⟩
theorem walk_ks {d : Addr} {o : Obj} {kvs : List (Key × V)} : Walk (Itk d o kvs) (kvs.map fun kv => kV kv.1).length (fun H => H d = some (.frz o (.dK kvs))) (YAt (kvs.map fun kv => kV kv.1)) := by
  rw [List.length_map]
  refine walk_keys.mono (fun _ h => h) fun i H x H' hi _ h => ?_
  obtain ⟨h1, k, v, h2, h3⟩ := h
  refine ⟨h1, ?_⟩
  rw [List.getElem?_map, h2, h3]
  rfl
def rFldAug (K : PySem.W.Frag) (f : Str) (x : V) (tv : TE) (rd : V → V → Hp → VK → Prop) (D : Ends) (σ : L2.St) (H1 : Hp) : Prop := ∃ a C dx fs v, x = .ref a ∧ H1 a = some (.ins C dx fs) ∧ Cls K C ∧ NoAttr K C f ∧ fs.lookup f = some v ∧
  tv σ H1 fun y H2 => rd v y H2 fun z H3 => ∃ dx' fs', H3 a = some (.ins C dx' fs') ∧ fs'.length < 1000 ∧ D.nx σ (upd H3 a (.ins C dx' (putF f z fs')))
theorem g_fldaug {rd : V → V → Hp → VK → Prop} {f : Str} (k : ta σ H fun x H1 => rFldAug K f x te rd D σ H1) : sFldAug K ta te rd f D σ H := k
/-- self.f += an int -/
theorem g_rfldaugI {f : Str} {a C dx : Addr} {fs : List (Str × V)} {m j : Int} (h : H a = some (.ins C dx fs)) (hc : Cls K C) (hn : NoAttr K C f) (hl : fs.lookup f = some (.int m)) (hz : fs.length < 1000)
    (hv : ∀ R : VK, R (.int j) H → te σ H R) (k : ∀ H', H' a = some (.ins C dx (putF f (.int (m + j)) fs)) → (∀ b, b ≠ a → H' b = H b) → D.nx σ H') : rFldAug K f (.ref a) te rAdd D σ H :=
  ⟨a, C, dx, fs, _, rfl, h, hc, hn, hl, hv _ ⟨m, j, rfl, rfl, dx, fs, h, hz, k _ upd_same fun b hb => upd_ne hb⟩⟩
end
/-! ### dicts whose keys stand in a list, their values a function -/
section
variable {α : Type} {F : α → Key} {G : α → V}
theorem valV_cons {p : Key × V} {r : List (Key × V)} {k : Key} : valV (p :: r) k = if p.1 = k then some p.2 else valV r k := by
  by_cases h : p.1 = k
  · rw [if_pos h, valV_pos h]
  · rw [if_neg h, valV_neg h]
/-- a dict of the keys ks with the values A -/
def mkD (ks : List Int) (A : Int → V) : List (Key × V) := ks.map fun i => (kI i, A i)
theorem mkD_len {ks : List Int} {A : Int → V} : (mkD ks A).length = ks.length := List.length_map _
theorem valV_mkD {ks : List Int} {A : Int → V} {i : Int} : valV (mkD ks A) (kI i) = if i ∈ ks then some (A i) else none := by
  induction ks with
  | nil => rfl
  | cons j r ih =>
    show valV ((kI j, A j) :: mkD r A) (kI i) = _
    rw [valV_cons, ih]
    by_cases h : j = i
    · subst h
      simp [kI]
    · have h2 : ¬ (kI j = kI i) := fun z => h (Sum.inl.inj z)
      have h3 : ¬ (i = j) := fun z => h z.symm
      simp [h2, h3]
theorem mkD_congr {ks : List Int} {A B : Int → V} (h : ∀ i ∈ ks, A i = B i) : mkD ks A = mkD ks B := List.map_congr_left fun i hi => by rw [h i hi]
theorem putK_mkD_new {ks : List Int} {A : Int → V} {i : Int} {v : V} (h : i ∉ ks) : putK (mkD ks A) (kI i) v = mkD (ks ++ [i]) (fun j => if j = i then v else A j) := by
  unfold putK
  rw [valV_any, valV_mkD, if_neg h]
  have e : mkD ks (fun j => if j = i then v else A j) = mkD ks A := mkD_congr fun j hj => if_neg fun z => h (by rw [← z]; exact hj)
  show (if none.isSome = true then _ else _) = _
  rw [if_neg (by decide)]
  show mkD ks A ++ [(kI i, v)] = (ks ++ [i]).map _
  rw [List.map_append, ← e]
  show _ = _ ++ [(kI i, if i = i then v else A i)]
  rw [if_pos rfl]
  rfl
theorem putK_mkD_old {ks : List Int} {A : Int → V} {i : Int} {v : V} (h : i ∈ ks) : putK (mkD ks A) (kI i) v = mkD ks (fun j => if j = i then v else A j) := by
  unfold putK
  rw [valV_any, valV_mkD, if_pos h]
  show (if (some (A i)).isSome = true then _ else _) = _
  rw [if_pos (show (some (A i)).isSome = true from rfl)]
  unfold mkD
  rw [List.map_map]
  refine List.map_congr_left fun j _ => ?_
  show (if kI j = kI i then (kI j, v) else (kI j, A j)) = (kI j, if j = i then v else A j)
  by_cases hj : j = i
  · rw [if_pos (by rw [hj]), if_pos hj]
  · rw [if_neg (show ¬ kI j = kI i from fun z => hj (Sum.inl.inj z)), if_neg hj]
theorem dropK_mkD {ks : List Int} {A : Int → V} {i : Int} : dropK (mkD ks A) (kI i) = mkD (ks.filter fun j => decide (j ≠ i)) A := by
  unfold dropK mkD
  rw [List.filter_map]
  congr 1
  refine List.filter_congr fun j _ => ?_
  show decide (kI j ≠ kI i) = decide (j ≠ i)
  rw [decide_eq_decide]
  exact ⟨fun h z => h (by rw [z]), fun h z => h (Sum.inl.inj z)⟩
theorem mkD_keys {ks : List Int} {A : Int → V} : (mkD ks A).map (·.1) = ks.map Sum.inl := by
  unfold mkD
  rw [List.map_map]
  rfl
theorem mkD_kV {ks : List Int} {A : Int → V} : ((mkD ks A).map fun kv => kV kv.1) = ks.map V.int := by
  unfold mkD
  rw [List.map_map]
  rfl
/-- .. of texts -/
def mkS (ks : List Str) (A : Str → V) : List (Key × V) := ks.map fun i => (kS i, A i)
theorem mkS_len {ks : List Str} {A : Str → V} : (mkS ks A).length = ks.length := List.length_map _
theorem valV_mkS {ks : List Str} {A : Str → V} {i : Str} : valV (mkS ks A) (kS i) = if i ∈ ks then some (A i) else none := by
  induction ks with
  | nil => rfl
  | cons j r ih =>
    show valV ((kS j, A j) :: mkS r A) (kS i) = _
    rw [valV_cons, ih]
    by_cases h : j = i
    · subst h
      simp [kS]
    · have h2 : ¬ (kS j = kS i) := fun z => h (Sum.inr.inj z)
      have h3 : ¬ (i = j) := fun z => h z.symm
      simp [h2, h3]
theorem mkS_congr {ks : List Str} {A B : Str → V} (h : ∀ i ∈ ks, A i = B i) : mkS ks A = mkS ks B := List.map_congr_left fun i hi => by rw [h i hi]
theorem putK_mkS_new {ks : List Str} {A : Str → V} {i : Str} {v : V} (h : i ∉ ks) : putK (mkS ks A) (kS i) v = mkS (ks ++ [i]) (fun j => if j = i then v else A j) := by
  unfold putK
  rw [valV_any, valV_mkS, if_neg h]
  have e : mkS ks (fun j => if j = i then v else A j) = mkS ks A := mkS_congr fun j hj => if_neg fun z => h (by rw [← z]; exact hj)
  show (if none.isSome = true then _ else _) = _
  rw [if_neg (by decide)]
  show mkS ks A ++ [(kS i, v)] = (ks ++ [i]).map _
  rw [List.map_append, ← e]
  show _ = _ ++ [(kS i, if i = i then v else A i)]
  rw [if_pos rfl]
  rfl
theorem putK_mkS_old {ks : List Str} {A : Str → V} {i : Str} {v : V} (h : i ∈ ks) : putK (mkS ks A) (kS i) v = mkS ks (fun j => if j = i then v else A j) := by
  unfold putK
  rw [valV_any, valV_mkS, if_pos h]
  show (if (some (A i)).isSome = true then _ else _) = _
  rw [if_pos (show (some (A i)).isSome = true from rfl)]
  unfold mkS
  rw [List.map_map]
  refine List.map_congr_left fun j _ => ?_
  show (if kS j = kS i then (kS j, v) else (kS j, A j)) = (kS j, if j = i then v else A j)
  by_cases hj : j = i
  · rw [if_pos (by rw [hj]), if_pos hj]
  · rw [if_neg (show ¬ kS j = kS i from fun z => hj (Sum.inr.inj z)), if_neg hj]
theorem dropK_mkS {ks : List Str} {A : Str → V} {i : Str} : dropK (mkS ks A) (kS i) = mkS (ks.filter fun j => decide (j ≠ i)) A := by
  unfold dropK mkS
  rw [List.filter_map]
  congr 1
  refine List.filter_congr fun j _ => ?_
  show decide (kS j ≠ kS i) = decide (j ≠ i)
  rw [decide_eq_decide]
  exact ⟨fun h z => h (by rw [z]), fun h z => h (Sum.inr.inj z)⟩
theorem mkS_keys {ks : List Str} {A : Str → V} : (mkS ks A).map (·.1) = ks.map Sum.inr := by
  unfold mkS
  rw [List.map_map]
  rfl
theorem mkS_kV {ks : List Str} {A : Str → V} : ((mkS ks A).map fun kv => kV kv.1) = ks.map V.str := by
  unfold mkS
  rw [List.map_map]
  rfl
end
/-! ### sorted lists that hold the same are the same -/
theorem int_sorted_eq {a b : List Int} (h : a.Perm b) (ha : a.Pairwise (· ≤ ·)) (hb : b.Pairwise (· ≤ ·)) : a = b :=
  List.Perm.eq_of_pairwise (le := (· ≤ ·)) (fun x y _ _ h1 h2 => Int.le_antisymm h1 h2) ha hb h
theorem sortedS_pw : ∀ (l : List Str), sortedS l = true → l.Pairwise (fun a b => a.cps.toList ≤ b.cps.toList)
  | [], _ => .nil
  | [x], _ => .cons (fun y hy => nomatch hy) .nil
  | x :: y :: r, h => by
    have h1 : (!ltCps y.cps.toList x.cps.toList && risingS y r) = true := h
    rw [Bool.and_eq_true, Bool.not_eq_true', PyProof.Rows.ltCps_eq, decide_eq_false_iff_not, List.not_lt] at h1
    have ih := sortedS_pw (y :: r) h1.2
    refine .cons (fun z hz => ?_) ih
    rcases List.mem_cons.mp hz with e | hz
    · subst e; exact h1.1
    · exact List.le_trans h1.1 (List.rel_of_pairwise_cons ih hz)
theorem str_ext {a b : Str} (h : a.cps.toList = b.cps.toList) : a = b := by
  cases a; cases b
  simp only [Str.mk.injEq]
  exact Array.toList_inj.mp h
theorem str_sorted_eq {a b : List Str} (h : a.Perm b) (ha : sortedS a = true) (hb : sortedS b = true) : a = b :=
  List.Perm.eq_of_pairwise (le := fun a b => a.cps.toList ≤ b.cps.toList) (fun x y _ _ h1 h2 => str_ext (List.le_antisymm h1 h2)) (sortedS_pw a ha) (sortedS_pw b hb) h
theorem nodup_few {α : Type} [DecidableEq α] : ∀ {l D : List α}, l.Nodup → (∀ x ∈ l, x ∈ D) → l.length ≤ D.length
  | [], _, _, _ => Nat.zero_le _
  | x :: l, D, hn, h => by
    obtain ⟨h1, h2⟩ := List.nodup_cons.mp hn
    have hx := h x List.mem_cons_self
    have ih := nodup_few (l := l) (D := D.erase x) h2 fun y hy => (List.mem_erase_of_ne (fun z => h1 (by rw [← z]; exact hy))).mpr (h y (List.mem_cons_of_mem _ hy))
    rw [List.length_erase_of_mem hx] at ih
    have : 0 < D.length := List.length_pos_of_mem hx
    rw [List.length_cons]
    omega
theorem nodup_take {α : Type} {l : List α} {i : Nat} {x : α} (h : l.Nodup) (e : l[i]? = some x) : x ∉ l.take i := by
  obtain ⟨hl, hx⟩ := List.getElem?_eq_some_iff.mp e
  have h2 : l.take i ++ x :: l.drop (i + 1) = l := by
    rw [← hx, ← List.drop_eq_getElem_cons hl, List.take_append_drop]
  rw [← h2, List.nodup_append] at h
  exact fun z => h.2.2 x z x List.mem_cons_self rfl
theorem perm_same {α : Type} [DecidableEq α] {a b : List α} (ha : a.Nodup) (hb : b.Nodup) (h : ∀ x, x ∈ a ↔ x ∈ b) : a.Perm b := (List.perm_ext_iff_of_nodup ha hb).mpr h
end Lw
local macro_rules | `(tactic| walk_at "lw side") => `(tactic| first | assumption | decide | omega | exact Or.inr ⟨by decide, by decide⟩ | exact Or.inl ⟨by decide, by decide⟩ | exact ⟨by decide, by decide⟩ | exact ⟨by omega, by omega⟩)
local macro_rules | `(tactic| walk_at "lw ne") => `(tactic| first | assumption | exact Ne.symm (by assumption) | exact L2.ne_of_none (by assumption) (by assumption) | exact Ne.symm (L2.ne_of_none (by assumption) (by assumption)))
local macro_rules | `(tactic| walk_at "lw hp") => `(tactic| first | assumption | exact L2.upd_same | (refine Eq.trans (L2.upd_ne (by walk_at "lw ne")) ?_; walk_at "lw hp"))
local macro_rules | `(tactic| walk_at "lw sq") => `(tactic| first | assumption | exact L2.SqL.of (by walk_at "lw hp") | exact L2.SqT.of (by walk_at "lw hp"))
local macro_rules | `(tactic| walk_at "lw go") => `(tactic| first
  | (with_reducible refine Lw.g_seq ?_)
  | ((with_reducible refine' Lw.g_var ?h1 ?k1); (case h1 => rfl))
  | (with_reducible refine Lw.g_c ?_)
  | (with_reducible refine Lw.g_op ?_)
  | (with_reducible refine Lw.g_I0 ?_)
  | ((with_reducible refine' Lw.g_I ?h1 ?k1); (case h1 => walk_at "lw side"))
  | ((with_reducible refine' Lw.g_eq ?h1 ?k1); (case h1 => rfl))
  | ((with_reducible refine' Lw.g_ne ?h1 ?k1); (case h1 => rfl))
  | (with_reducible refine Lw.g_nil ?_)
  | (with_reducible refine Lw.g_cons ?_)
  | (with_reducible refine Lw.g_cb ?_)
  | (with_reducible refine Lw.g_call ?_)
  | (with_reducible refine Lw.g_test ?_)
  | (with_reducible refine Lw.g_B ?_)
  | (with_reducible refine Lw.g_exb ?_)
  | (with_reducible refine Lw.g_not ?_)
  | (with_reducible refine Lw.g_and ?_)
  | (with_reducible refine Lw.g_or ?_)
  | (with_reducible refine Lw.g_tup ?_)
  | (with_reducible refine Lw.g_lst ?_)
  | (with_reducible refine Lw.g_ifx ?_)
  | (with_reducible refine Lw.g_fld ?_)
  | (with_reducible refine Lw.g_asg ?_)
  | (with_reducible refine Lw.g_name ?_)
  | (with_reducible refine Lw.g_ret ?_)
  | (with_reducible refine Lw.g_drop ?_)
  | (with_reducible refine Lw.g_next ?_)
  | (with_reducible refine Lw.g_ifs ?_)
  | (with_reducible refine Lw.g_pnx ?_)
  | (with_reducible refine Lw.g_prt ?_)
  | (with_reducible refine Lw.g_pbk ?_)
  | (with_reducible refine Lw.g_pct ?_)
  | (with_reducible refine Lw.g_sl ?_)
  | (with_reducible refine Lw.g_nopart ?_)
  | (with_reducible refine Lw.g_part ?_)
  | (with_reducible refine Lw.g_rpart ?_)
  | (with_reducible refine Lw.g_m1 ?_)
  | (with_reducible refine Lw.g_m0 ?_)
  | (with_reducible refine Lw.g_rstr ?_)
  | (with_reducible refine Lw.g_bm0 ?_)
  | (with_reducible refine Lw.g_bm ?_)
  | (with_reducible refine Lw.g_isN ?_)
  | (with_reducible refine Lw.g_notN ?_)
  | (with_reducible refine L2.iteT ?_)
  | (with_reducible refine L2.iteF ?_)
  | (with_reducible refine Lw.g_int1 ?_)
  | (with_reducible refine Lw.g_int1b ?_)
  | (with_reducible refine Lw.g_sub ?_)
  | (with_reducible refine Lw.g_forR ?_)
  | (with_reducible refine Lw.g_for ?_)
  | (with_reducible refine Lw.g_lc ?_)
  | (with_reducible refine Lw.g_iStr ?_)
  | (with_reducible refine Lw.g_ritS ?_)
  | (with_reducible refine Lw.g_tyS ?_)
  | (with_reducible refine Lw.g_iList ?_)
  | (with_reducible refine Lw.g_iTup ?_)
  | (with_reducible refine Lw.g_iRng ?_)
  | (with_reducible refine Lw.g_inSg ?_)
  | (with_reducible refine Lw.g_notInSg ?_)
  | (with_reducible refine Lw.g_ord ?_)
  | (with_reducible refine Lw.g_reprB ?_)
  | (with_reducible refine Lw.g_sfld ?_)
  | (with_reducible refine Lw.g_meth ?_)
  | (with_reducible refine Lw.g_make ?_)
  | (with_reducible refine Lw.g_dget ?_)
  | (with_reducible refine Lw.g_din ?_)
  | (with_reducible refine Lw.g_dnotin ?_)
  | (with_reducible refine Lw.g_dput ?_)
  | (with_reducible refine Lw.g_ddel ?_)
  | (with_reducible refine Lw.g_dpop1 ?_)
  | (with_reducible refine Lw.g_dget1 ?_)
  | (with_reducible refine Lw.g_iKeys ?_)
  | (with_reducible refine Lw.g_fldaug ?_)
  | ((with_reducible refine' Lw.g_lenL ?h1 ?k1); (case h1 => walk_at "lw sq"))
  | ((with_reducible refine' Lw.g_lenD ?h1 ?k1); (case h1 => walk_at "lw hp")))
local macro_rules | `(tactic| walk_at "lw") => `(tactic| repeat walk_at "lw go")

/-! ## sets of texts: set(list), sorted(set) -/
namespace Lw
open PySem PySem.Spec PyProof.Rows L2
def txOf (e : Int × Value) : Str := match e.2 with | .str x _ => x | _ => Str.empty
def GoodS (P : Program) (w : World) (e : Int × Value) : Prop := ∃ x tk, e.2 = Value.str x tk ∧ e.1 = (PySem.strKind P w).hash x
/-- the set of texts at a: its members m, without doubles -/
def TSet (P : Program) (w : World) (h : Heap) (a : Addr) (m : Str → Bool) (n : Nat) : Prop :=
  ∃ o es ep t, h.get? a = some o ∧ o.ExactSet ∧ o.data = .set es ep t ∧ (∀ e ∈ es.toList, GoodS P w e) ∧ (es.toList.map txOf).Nodup ∧ (∀ k, m k = true ↔ k ∈ es.toList.map txOf) ∧
    es.size < scanBound ∧ t.fits es.size = true ∧ es.size = n ∧ Ris t.place.toList ∧ (w.params.followText "set-order" = true ∨ t.led = true)
section
variable {P : Program} {w : World} {h h' : Heap} {a : Addr} {m : Str → Bool} {n : Nat}
theorem TSet.keep (R : TSet P w h a m n) (k : ∀ o, h.get? a = some o → h'.get? a = some o) : TSet P w h' a m n := by
  obtain ⟨o, es, ep, t, ho, r⟩ := R
  exact ⟨o, es, ep, t, k o ho, r⟩
theorem goodS_elems {l : List (Int × Value)} (g : ∀ e ∈ l, GoodS P w e) : ElemsOf (PySem.strKind P w) l := fun e he => by
  obtain ⟨x, tk, h1, h2⟩ := g e he
  exact ⟨⟨x, by rw [h1]; exact strKind_is _ _ _ _, h2⟩, by rw [h1] <;> rfl⟩
theorem goodS_is {e : Int × Value} (g : GoodS P w e) (k : Str) : (PySem.strKind P w).is k e.2 = true ↔ txOf e = k := by
  obtain ⟨x, tk, h1, _⟩ := g
  unfold txOf
  rw [h1]
  constructor
  · intro q
    have := Value.isStrOf_shape (x := k) (v := Value.str x tk) q
    obtain ⟨t, e⟩ := this
    cases e
    rfl
  · intro q
    subst q
    exact strKind_is _ _ _ _
theorem goodS_mem {l : List (Int × Value)} (g : ∀ e ∈ l, GoodS P w e) (k : Str) : k ∈ l.map txOf ↔ ∃ e ∈ l, (PySem.strKind P w).is k e.2 = true := by
  rw [List.mem_map]
  exact ⟨fun ⟨e, he, q⟩ => ⟨e, he, (goodS_is (g e he) k).2 q⟩, fun ⟨e, he, q⟩ => ⟨e, he, (goodS_is (g e he) k).1 q⟩⟩
end
section
variable {P : Program} {w : World} {A : Around} {E : Value → Shared → Prop} {s : Shared} {a : Addr} {m : Str → Bool} {n : Nat}
theorem tset_tail {g : Bool → Sem Unit} (hg : ∀ (b : Bool) (s₁ : Shared) (Q' : Unit → Shared → Prop), Q' () s₁ → wpAny (model P w) A (g b) Q' E s₁)
    {o : Obj} {es : Array (Int × Value)} {ep : Nat} {t : SetTable} (ho : s.heap.get? a = some o) (hex : o.ExactSet) (hd : o.data = .set es ep t)
    {es1 : Array (Int × Value)} {t2 : SetTable} {m' : Str → Bool} (g1 : ∀ e ∈ es1.toList, GoodS P w e) (nd1 : (es1.toList.map txOf).Nodup) (m1 : ∀ k, m' k = true ↔ k ∈ es1.toList.map txOf)
    (hb1 : es1.size < scanBound) (hf2 : t2.fits es1.size = true) (hr : Ris t2.place.toList) (hl : w.params.followText "set-order" = true ∨ t2.led = true) {wasDummy : Bool} {R : Option Bool → Shared → Prop}
    (hR : ∀ h', Heap.SameBut a s.heap h' → TSet P w h' a m' es1.size → R (some true) { s with heap := h' }) :
    wpAny (model P w) A (do
        storeSet a es1 t2
        if (!wasDummy && t2.tooFull) = true then do
            g (relayAll t2 es1 (SetTable.grown es1.size)).2.2
            storeSet a (relayAll t2 es1 (SetTable.grown es1.size)).1 (relayAll t2 es1 (SetTable.grown es1.size)).2.1
            pure (some true)
          else pure (some true)) R E s := by
  refine wpAny_bind (wpAny_storeSet_of ho hd ?_ (fits_of_scanBound hb1))
  have ho1 := store_at (es' := es1) (t' := t2) ho hd
  have sb1 := Heap.SameBut.update s.heap a (Obj.putSet es1 t2)
  split
  · have pm := relayAll_perm t2 es1 (SetTable.grown es1.size)
    have hf3 := relayAll_fits t2 es1 (SetTable.grown es1.size)
    have hr3 := relayAll_ris t2 es1 (SetTable.grown es1.size)
    have hl3 := relayAll_led t2 es1 (SetTable.grown es1.size)
    generalize relayAll t2 es1 (SetTable.grown es1.size) = Z at pm hf3 hr3 hl3 ⊢
    obtain ⟨es2, t3, gave⟩ := Z
    dsimp only at pm hf3 hr3 hl3 ⊢
    have hsz : es2.size = es1.size := by rw [← Array.length_toList, pm.length_eq, Array.length_toList]
    have hb2 : es2.size < scanBound := by rw [hsz]; exact hb1
    refine wpAny_bind (hg _ _ _ ?_)
    refine wpAny_bind (wpAny_storeSet_of ho1 rfl ?_ (fits_of_scanBound hb2))
    have ho2 := store_at (es' := es2) (t' := t3) ho1 rfl
    refine wpAny_pure (hR _ (sb1.trans (Heap.SameBut.update _ a _)) ?_)
    exact ⟨_, es2, _, t3, ho2, hex, rfl, fun e he => g1 e (pm.mem_iff.mp he), (pm.map txOf).nodup_iff.mpr nd1, fun k => (m1 k).trans (pm.map txOf).mem_iff.symm, hb2, hf3, hsz, hr3, hl.imp id fun z => by rw [hl3]; exact z⟩
  · exact wpAny_pure (hR _ sb1 ⟨_, es1, _, t2, ho1, hex, rfl, g1, nd1, m1, hb1, hf2, rfl, hr, hl⟩)
theorem tset_add {k : Str} {tk : Tok} {Q : Bool → Shared → Prop} (R : TSet P w s.heap a m n) (room : n + 1 < scanBound)
    (hQ : ∀ h', Heap.SameBut a s.heap h' → TSet P w h' a (fun j => m j || decide (j = k)) (if m k = true then n else n + 1) → Q (!m k) { s with heap := h' }) :
    wpAny (model P w) A (setAddHashed a (.str k tk) ((PySem.strKind P w).hash k)) Q E s := by
  obtain ⟨o, es, ep, t, ho, hex, hd, g, nd, hm, hb, hf, hn, hr, hl⟩ := R
  have hkey : (PySem.strKind P w).is k (.str k tk) = true := strKind_is _ _ _ _
  have hsc : (Value.str k tk).scannable = true := rfl
  have hel : ElemsOf (PySem.strKind P w) es.toList := goodS_elems g
  unfold setAddHashed setAddHashedIn
  refine wpAny_holding (wpAny_bind (wpAny_setState_of ho hd hf ?_))
  dsimp only
  rw [byScan_of hsc hb hel]
  simp only [↓reduceIte]
  unfold setAddByScan
  refine wpAny_bind ?_
  refine wpAny_bind (wpAny_rule ?_)
  refine wpAny_bind (wpAny_setScan_of hkey ho hd hf hel ?_)
  cases hfi : List.findIdx? (fun e => (PySem.strKind P w).is k e.2) es.toList with
  | some j =>
    dsimp only
    obtain ⟨hj, pj, _⟩ := List.findIdx?_eq_some_iff_getElem.mp hfi
    have hSk : m k = true := (hm k).2 ((goodS_mem (P := P) (w := w) g k).2 ⟨es.toList[j], List.getElem_mem hj, pj⟩)
    refine wpAny_pure (wpAny_pure ?_)
    have q := hQ s.heap (Heap.SameBut.refl a s.heap) ⟨o, es, ep, t, ho, hex, hd, g, nd, fun i => by
      rw [Bool.or_eq_true, decide_eq_true_eq, ← hm i]
      exact ⟨fun z => z.elim id (fun e => e ▸ hSk), .inl⟩, hb, hf, by rw [if_pos hSk]; exact hn, hr, hl⟩
    rw [hSk] at q
    exact q
  | none =>
    dsimp only
    have hnk : k ∉ es.toList.map txOf := fun z => by
      obtain ⟨e, he, q⟩ := (goodS_mem (P := P) (w := w) g k).1 z
      have c := List.findIdx?_eq_none_iff.mp hfi e he
      rw [q] at c
      cases c
    have hSk : m k = false := by
      cases q : m k with
      | false => rfl
      | true => exact absurd ((hm k).1 q) hnk
    have hgw : ∀ (b : Bool) {s₁ : Shared} {Q' : Unit → Shared → Prop}, Q' () s₁ → wpAny (model P w) A (match b with | true => rule "set.scan.the-table-gave-way" | false => pure ()) Q' E s₁ :=
      fun b s₁ Q' q => by cases b <;> first | exact wpAny_pure q | exact wpAny_rule q
    have pm := layNew_perm t es ((PySem.strKind P w).hash k) (.str k tk)
    have hf1 := layNew_fits t es ((PySem.strKind P w).hash k) (.str k tk)
    have hr1 := layNew_ris t es ((PySem.strKind P w).hash k) (.str k tk) hr
    have hl1 := layNew_led t es ((PySem.strKind P w).hash k) (.str k tk)
    generalize layNew t es ((PySem.strKind P w).hash k) (.str k tk) = Z at pm hf1 hr1 hl1 ⊢
    obtain ⟨es1, t1, wasDummy, gave⟩ := Z
    dsimp only at pm hf1 hr1 hl1 ⊢
    rw [Array.toList_push] at pm
    have pc : es1.toList.Perm (((PySem.strKind P w).hash k, Value.str k tk) :: es.toList) := pm.trans (List.perm_append_singleton _ _)
    have pk : (es1.toList.map txOf).Perm (k :: es.toList.map txOf) := pc.map txOf
    have g1 : ∀ e ∈ es1.toList, GoodS P w e := fun e he => by
      rcases List.mem_cons.mp (pc.mem_iff.mp he) with z | z
      · rw [z]; exact ⟨k, tk, rfl, rfl⟩
      · exact g e z
    have nd1 : (es1.toList.map txOf).Nodup := pk.nodup_iff.mpr (List.nodup_cons.mpr ⟨hnk, nd⟩)
    have m1 : ∀ i, (m i || decide (i = k)) = true ↔ i ∈ es1.toList.map txOf := fun i => by
      rw [Bool.or_eq_true, decide_eq_true_eq, hm i, pk.mem_iff, List.mem_cons]
      exact Or.comm
    have hsz : es1.size = n + 1 := by rw [← Array.length_toList, pc.length_eq, List.length_cons, Array.length_toList, hn]
    have hb1 : es1.size < scanBound := by rw [hsz]; exact room
    have hled : w.params.followText "set-order" = true ∨ t1.led = true := hl.imp id fun z => by rw [hl1]; exact z
    have fin : ∀ h', Heap.SameBut a s.heap h' → TSet P w h' a (fun j => m j || decide (j = k)) es1.size → Q true { s with heap := h' } := fun h' sb r => by
      have q := hQ h' sb
      rw [hSk] at q
      rw [hsz] at r
      exact q r
    refine wpAny_bind (hgw _ ?_)
    split
    · refine wpAny_bind ?_
      rw [hashByValue_scannable 8 hsc]
      refine wpAny_pure ?_
      refine tset_tail ?_ ho hex hd g1 nd1 m1 hb1 ?_ ?_ ?_ ?_
      · intro b s₁ Q' q; cases b <;> first | exact wpAny_pure q | exact wpAny_rule q
      · first | (split <;> first | exact hf1 | exact SetTable.fits_plain_off hf1) | exact hf1
      · first | (split <;> exact hr1) | exact hr1
      · first | (split <;> exact hled) | exact hled
      · intro h' sb r; dsimp only; exact wpAny_pure (fin h' sb r)
    · refine wpAny_bind (wpAny_pure ?_)
      simp only [↓reduceIte]
      refine tset_tail ?_ ho hex hd g1 nd1 m1 hb1 hf1 hr1 hled ?_
      · intro b s₁ Q' q; cases b <;> first | exact wpAny_pure q | exact wpAny_rule q
      · intro h' sb r; dsimp only; exact wpAny_pure (fin h' sb r)
theorem tset_fresh {h : Heap} {a : Addr} (ho : h.get? a = some { cls := .type "set", dict := none, data := .set #[] 0 (.fresh 0 0 (!w.params.followText "set-order")) }) : TSet P w h a (fun _ => false) 0 :=
  ⟨_, #[], 0, _, ho, ⟨rfl, rfl, rfl⟩, rfl, (fun e he => by simp at he), (by simp), (fun k => by simp), (by decide), (by rfl), rfl, List.Pairwise.nil, by
    show _ ∨ (!w.params.followText "set-order") = true
    cases w.params.followText "set-order"
    · exact .inr rfl
    · exact .inl rfl⟩
/-- the members among the first i of xs -/
def inS (xs : List Str) (i : Nat) (k : Str) : Bool := decide (k ∈ xs.take i)
theorem inS_next {xs : List Str} {i : Nat} {x : Str} (h : xs[i]? = some x) (k : Str) : (inS xs i k || decide (k = x)) = inS xs (i + 1) k := by
  unfold inS
  rw [take_ok h, Bool.eq_iff_iff]
  simp
theorem tset_loop {I : Addr} {fp wr : List Addr} {G : Array GenState → Array GenState → Prop} {n : Nat} {Pv : Nat → Value → Prop} {St : Nat → Shared → Prop} {R : Result → Shared → Prop}
    (W : WalksS P w A.in1 I fp wr G n Pv St) (S : Addr) (hSf : S ∉ fp) (xs : List Str) (hn : n = xs.length) (hfew : xs.length < 4000) (hval : ∀ i v, Pv i v → ∃ x t, xs[i]? = some x ∧ v = .str x t) :
    ∀ (k i : Nat) (s : Shared), n - i = k → i ≤ n → St i s → (∃ c, c ≤ i ∧ TSet P w s.heap S (inS xs i) c) →
      (∀ s' c, Moved (S :: wr) G s s' → c ≤ n → TSet P w s'.heap S (inS xs n) c → R (.ok (.ret .none)) s') →
      codeAny (model P w) A (.builtin "set.update.loop" ⟨[.ref S, .ref I], []⟩) R s := by
  have hSw : S ∉ wr := fun h => hSf (W.sub _ h)
  have hsub : ∀ b ∈ wr, b ∈ S :: wr := fun b hb => List.mem_cons_of_mem _ hb
  intro k
  induction k with
  | zero =>
    intro i s hk hi hst ⟨c, hc, hS⟩ hR
    have hin : i = n := by omega
    subst hin
    refine codeAny_builtin F.entry_set_update_loop ?_
    rw [Around.under_plainId F.plain_set_update_loop _]
    show wpAny _ A.in1 (pyNext (.ref I) >>= _) _ _ s
    refine wpAny_bind (W.done s _ _ hst fun s' hm => ?_)
    show wpAny _ A.in1 (ret Value.none) _ _ s'
    exact wpAny_pure (hR s' c (hm.mono hsub) hc (hS.keep fun o e => hm.heap S o hSw e))
  | succ k ih =>
    intro i s hk hi hst ⟨c, hc, hS⟩ hR
    have hlt : i < n := by omega
    refine codeAny_builtin F.entry_set_update_loop ?_
    rw [Around.under_plainId F.plain_set_update_loop _]
    show wpAny _ A.in1 (pyNext (.ref I) >>= _) _ _ s
    refine wpAny_bind (W.item i s _ _ hlt hst fun v s' hP hst' hm => ?_)
    obtain ⟨x, t, hx, rfl⟩ := hval i v hP
    have hS' : TSet P w s'.heap S (inS xs i) c := hS.keep fun o e => hm.heap S o hSw e
    show wpAny _ A.in1 (holding [Value.str x t] (setAdd S (.str x t)) >>= _) _ _ s'
    refine wpAny_bind (wpAny_holding ?_)
    unfold setAdd
    refine wpAny_holding ?_
    refine wpAny_bind ((PySem.strKind P w).pyHash (k := x) (strKind_is _ _ _ _) ?_)
    refine tset_add (s := { s' with toks := s'.toks + 1 }) hS' (by unfold scanBound; omega) fun h' hsb hS2 => ?_
    have e : (fun j => inS xs i j || decide (j = x)) = inS xs (i + 1) := funext (inS_next hx)
    rw [e] at hS2
    refine wpAny_pure ⟨plainId_quiet F.plain_set_update_loop _, ih (i + 1) _ (by omega) hlt (W.frame _ s' _ _ hst' (Nat.le_succ _) fun b hb o e => ?_) ⟨_, ?_, hS2⟩ fun s'' c'' hm'' hc'' hS'' => ?_⟩
    · rw [hsb.2 b (fun h : b = S => hSf (by rw [← h]; exact hb))]; exact e
    · split <;> omega
    · refine hR s'' c'' (Moved.trans W.gtrans ((hm.mono hsub).then_heap (Nat.le_succ _) fun b o hb e => ?_) hm'') hc'' hS''
      rw [hsb.2 b (fun h : b = S => hb (by rw [h]; exact List.mem_cons_self))]; exact e
set_option maxRecDepth 100000 in
set_option maxHeartbeats 3200000 in
/-- set(xs), xs a list of texts -/
theorem call_set_texts {l : Addr} {items : Array Value} (xs : List Str) {Q : Value → Shared → Prop} (hh : A.handled = none) (hl : s.heap.IsList l items) (hit : StrsAre items.toList xs) (hfew : xs.length < 4000)
    (h : ∀ (h' : Heap) (tk : Nat) c, c ≤ xs.length → TSet P w h' s.heap.objs.size (inS xs xs.length) c → (∀ b o, s.heap.get? b = some o → h'.get? b = some o) → Q (.ref s.heap.objs.size) { s with heap := h', toks := tk }) :
    wpAny (model P w) A (call (.type "set") [.ref l]) Q E s := by
  have hisz : items.size = xs.length := by rw [← StrsAre.len_eq hit, Array.length_toList]
  obtain ⟨c, tl, hmro⟩ := F.called_set.mro
  have hmade := F.called_set.made
  have hsub := F.called_set.sub
  refine wpAny_call (codeAny_of_tree ?_)
  show wpAny _ _ (callAny (.type "set") _) _ _ _
  refine wpAny_pure ⟨Code.quiet_builtin _ (by decide +kernel), codeAny_builtin F.entry_type_call ?_⟩
  rw [Around.under_plain (weight_type_call_type "set" [.ref l] []) rfl]
  have h1 := F.called_set.notType
  have h2 := F.called_set.canCreate
  have hct := F.typeCall_set_1 (.ref l)
  repeat (any_goals (first | assumption | wp_step))
  refine codeAny_mono (code_set_led1 (.ref l) (E := E) (Q₁ := fun obj s₁ => obj = .ref s.heap.objs.size ∧ s₁ = { s with heap := s.heap.push { cls := .type "set", dict := none, data := .set #[] 0 (.fresh 0 0 (!w.params.followText "set-order")) } }) ⟨rfl, rfl⟩) fun r s₁ hr => ?_
  cases r with
  | error e => exact hr
  | ok fl =>
    cases fl with
    | ret obj =>
      obtain ⟨rfl, rfl⟩ := hr
      have hS : (s.heap.push { cls := .type "set", dict := none, data := .set #[] 0 (.fresh 0 0 (!w.params.followText "set-order")) }).get? s.heap.objs.size = some { cls := .type "set", dict := none, data := .set #[] 0 (.fresh 0 0 (!w.params.followText "set-order")) } := Heap.get?_push_size _ rfl
      have hT : Shared.TypeIs { s with heap := s.heap.push { cls := .type "set", dict := none, data := .set #[] 0 (.fresh 0 0 (!w.params.followText "set-order")) } } (.ref s.heap.objs.size) "set" := ⟨_, hS, rfl⟩
      have hli := F.called_set.init.lookup
      have hbi := F.called_set.init.bind (.ref s.heap.objs.size)
      repeat (any_goals (first | assumption | wp_step))
      refine codeAny_mono (codeAny_call_builtin (R := wants (fun r s₂ => r = .none ∧ ∃ h' tk c, s₂ = { s with heap := h', toks := tk } ∧ c ≤ xs.length ∧ TSet P w h' s.heap.objs.size (inS xs xs.length) c ∧
          (∀ b o, s.heap.get? b = some o → h'.get? b = some o)) E) F.called_set.init.plain F.entry_set_init (check_set_init_1 hT ?_)) fun r₂ s₂ hr₂ => ?_
      · obtain ⟨ol, hol, hcl, nl, hdl⟩ := hl
        obtain ⟨ocls, odict, odata, oslots⟩ := ol
        simp only at hcl hdl
        subst hcl; subst hdl
        have hol' : (s.heap.push { cls := .type "set", dict := none, data := .set #[] 0 (.fresh 0 0 (!w.params.followText "set-order")) }).get? l = some { cls := .type "list", dict := odict, data := .seq items nl, slots := oslots } := Heap.get?_push_of_some _ hol
        have hsls := F.sub_list_set
        have hslf := F.sub_list_frozenset
        have hne : (Value.type "list" == Value.type "dict") = false := by decide
        have hl1 : (s.heap.push { cls := .type "set", dict := none, data := .set #[] 0 (.fresh 0 0 (!w.params.followText "set-order")) }).IsList l items := ⟨_, hol', rfl, nl, rfl⟩
        unfold Builtin.«set.__init__» noKeywords Builtin.Frozenset.updateFrom
        generalize hPI : pyIter = PI
        wp_walk
        subst hPI
        refine wpAny_pyIter_list hl1 ?_
        refine wpAny_bind (wpAny_runValue ?_)
        have hlS : l < s.heap.objs.size := Heap.lt_size hol
        have hh3 : A.in1.in1.in1.handled = none := by simp [hh]
        have hneI : l ≠ (s.heap.push { cls := .type "set", dict := none, data := .set #[] 0 (.fresh 0 0 (!w.params.followText "set-order")) }).objs.size := by
          rw [Heap.size_push]; exact Nat.ne_of_lt (Nat.lt_succ_of_lt hlS)
        have hSf : s.heap.objs.size ∉ [(s.heap.push { cls := .type "set", dict := none, data := .set #[] 0 (.fresh 0 0 (!w.params.followText "set-order")) }).objs.size, l] := by
          rw [Heap.size_push]; simp only [List.mem_cons, List.mem_singleton, List.not_mem_nil, or_false, not_or]
          exact ⟨Nat.ne_of_lt (Nat.lt_succ_self _), Nat.ne_of_gt hlS⟩
        have hval : ∀ (i : Nat) (v : Value), items[i]? = some v → ∃ x t, xs[i]? = some x ∧ v = .str x t := fun i v hv => by
          obtain ⟨t, e⟩ := SS.strs_at hit i v (by rw [Array.getElem?_toList]; exact hv)
          have hi : i < xs.length := by
            rw [← hisz]
            exact (Array.getElem?_eq_some_iff.mp hv).1
          exact ⟨xs[i], t, List.getElem?_eq_getElem hi, by rw [e, List.getD_eq_getElem?_getD, List.getElem?_eq_getElem hi] <;> rfl⟩
        refine tset_loop ((Walks.list hh3 _ l hneI items).toS) s.heap.objs.size
          hSf xs hisz hfew hval (items.size - 0) 0 _ (by omega) (Nat.zero_le _)
          ⟨⟨_, Heap.get?_push_size _ rfl, rfl, rfl⟩, (hl1.push _)⟩ ?hS0 ?hR
        case hS0 =>
          have hget : ((s.heap.push { cls := .type "set", dict := none, data := .set #[] 0 (.fresh 0 0 (!w.params.followText "set-order")) }).push { cls := .type "list_iterator", data := .fields #[.ref l, .int 0 0] }).get? s.heap.objs.size
              = some { cls := .type "set", dict := none, data := .set #[] 0 (.fresh 0 0 (!w.params.followText "set-order")) } := Heap.get?_push_of_some _ hS
          exact ⟨0, Nat.le_refl _, tset_fresh hget⟩
        case hR =>
          intro s' c hm hc hS'
          obtain ⟨h', g2, d', tk', os'⟩ := s'
          have eg : g2 = s.gens := hm.gens
          have ed : d' = s.drawn := hm.drawn
          have eo : os' = s.os := hm.os
          subst eg; subst ed; subst eo
          show wpAny _ _ _ _ _ _
          refine wpAny_pure ?_
          show wpAny _ _ (ret Value.none) _ _ _
          rw [hisz] at hS' hc
          refine wpAny_pure ⟨rfl, h', tk', c, rfl, hc, hS', fun b o e => ?_⟩
          have hb := Heap.lt_size e
          have hb1 : b ≠ s.heap.objs.size := Nat.ne_of_lt hb
          have hb2 : b ≠ (s.heap.push { cls := .type "set", dict := none, data := .set #[] 0 (.fresh 0 0 (!w.params.followText "set-order")) }).objs.size := by
            rw [Heap.size_push]; exact Nat.ne_of_lt (Nat.lt_succ_of_lt hb)
          exact hm.heap b o (by simp only [List.mem_cons, List.mem_singleton, List.not_mem_nil, or_false, not_or]; exact ⟨hb1, hb2⟩) (Heap.get?_push_of_some _ (Heap.get?_push_of_some _ e))
      · cases r₂ with
        | error e => exact hr₂
        | ok fl₂ =>
          cases fl₂ with
          | ret r =>
            obtain ⟨rfl, h', tk, c, rfl, hc, hS', hk'⟩ := hr₂
            repeat (any_goals (first | assumption | wp_step))
            exact h _ _ _ hc hS' hk'
          | _ => exact hr₂.elim
    | _ => exact hr.elim
theorem strs_of : ∀ (l : List Value), (∀ v ∈ l, ∃ x tk, v = Value.str x tk) → StrsAre l (l.map fun v => match v with | .str x _ => x | _ => Str.empty)
  | [], _ => .nil
  | v :: l, h => by
    obtain ⟨x, tk, rfl⟩ := h v List.mem_cons_self
    exact .cons x tk (strs_of l fun u hu => h u (List.mem_cons_of_mem _ hu))
/-- sorted(a set of texts) -/
theorem sorted_texts {m : Str → Bool} {n : Nat} {Q : Value → Shared → Prop} (R : TSet P w s.heap a m n) (hh : A.handled = none) (h64 : n < 64)
    (hQ : ∀ s' p (out : Array Value) (c : Nat) (ns : List Str), (∀ b o, s.heap.get? b = some o → s'.heap.get? b = some o) → s'.gens = s.gens → s'.os = s.os → s.heap.objs.size ≤ p →
      s'.heap.get? p = some (seqObj "list" out c) → StrsAre out.toList ns → sortedS ns = true → ns.Nodup → (∀ k, k ∈ ns ↔ m k = true) → ns.length = n → Q (.ref p) s') :
    wpAny (model P w) A (call (.builtin "sorted") [.ref a]) Q E s := by
  obtain ⟨o, es, ep, t, ho, hex, hd, g, nd, hm, hb, hf, hn, hr, hl⟩ := R
  refine Calls.call_function_entry kind_sorted plain_sorted entry_sorted (args_sorted1 _) ?_
  unfold Builtin.«sorted»
  refine wpAny_bind (m := checkCount "sorted" 1 1 _) (wpAny_pure ?_)
  refine wpAny_bind (collect_set (A := A.in1) hh ⟨o, ho, hex.1, hd⟩ hf hb hr hl fun s1 vs k1 hz g1 o1 pm => ?_)
  have hvl : vs.length = n := by rw [pm.length_eq, List.length_map, Array.length_toList]; exact hn
  have hI : StrsAre vs (vs.map fun v => match v with | .str x _ => x | _ => Str.empty) := strs_of vs fun v hv => by
    obtain ⟨e, he, q⟩ := List.mem_map.mp (pm.mem_iff.mp hv)
    obtain ⟨k, tk, h1, _⟩ := g e he
    exact ⟨k, tk, by rw [← q]; exact h1⟩
  have pk : (vs.map fun v => match v with | .str x _ => x | _ => Str.empty).Perm (es.toList.map txOf) := by
    have q := pm.map fun v => match v with | .str x _ => x | _ => Str.empty
    rw [List.map_map] at q
    exact q
  refine wpAny_bind (wpAny_newList ?_ (by rw [hvl, sizeLine_eq]; omega))
  have hoL : (s1.heap.push (seqObj "list" vs.toArray 0)).get? s1.heap.objs.size = some (seqObj "list" vs.toArray 0) := Heap.get?_push_size _ rfl
  show wpAny _ _ _ _ _ { s1 with heap := s1.heap.push (seqObj "list" vs.toArray 0) }
  refine wpAny_bind (wpAny_holding (wpAny_call_entry PyProof.Rows.slot_list_sort ⟨_, hoL, rfl⟩ PyProof.Rows.entry_list_sort
    (list_sort_treeK strKind_oneLt (s := { s1 with heap := s1.heap.push (seqObj "list" vs.toArray 0) }) hoL hI.keysOf (fun v₁ v₂ rest e => keyKind_strs (by rw [← e]; exact hI)) (by rw [hvl]; exact h64) fun st' hp hs => ⟨_, rfl, ?_⟩)
    (PyProof.Rows.args_list_sort _)))
  obtain ⟨ys, a1, a2, a3⟩ := sorted_out_str hI hp hs
  obtain ⟨c, hc⟩ := PyProof.Rows.sortedHeap_at (vs := vs) (out := (arrOf st').map (·.2)) hoL
  have pn : ys.Perm (es.toList.map txOf) := a2.trans pk
  refine wpAny_pure ⟨_, rfl, hQ _ s1.heap.objs.size _ c ys (fun b u e => ?_) g1 o1 hz hc a1 a3 (pn.nodup_iff.mpr nd) (fun k => by rw [pn.mem_iff, ← hm k]) ?_⟩
  · have q := k1 b u e
    have hlt := Heap.lt_size q
    show (sortedHeap (s1.heap.push (seqObj "list" vs.toArray 0)) s1.heap.objs.size vs _).get? b = some u
    rw [sortedHeap_old (Nat.ne_of_lt hlt) (by rw [Heap.size_push]; exact Nat.lt_succ_of_lt hlt)]
    exact Heap.get?_push_of_some _ q
  · rw [pn.length_eq, List.length_map, Array.length_toList]; exact hn
end
/-- a set of texts on the hand layer's heap -/
def TSetO (P : Program) (w : World) (a : Addr) (m : Str → Bool) (n : Nat) : HO := .ext fun h => TSet P w h a m n
theorem tsetO_new {P : Program} {w : World} {H : Hp} {h : Heap} {a : Addr} {m : Str → Bool} {n : Nat} (R : TSet P w h a m n) : ObjOk P w H h a (TSetO P w a m n) := by
  have ⟨o, es, ep, t, ho, r⟩ := R
  exact ⟨R, ⟨o, ho⟩, fun h1 h2 p k => TSet.keep p k⟩
section
variable {X : Cx}
/-- set(xs), xs a list of texts -/
def rSetOfS (K : PySem.W.Frag) (P : Program) (w : World) : List V → Hp → VK → Prop := fun xs H Q => ∃ (l : Addr) (ks : List Str), xs = [V.ref l] ∧ SqL K H l (ks.map V.str) ∧ ks.length < 4000 ∧
  ∀ a c, c ≤ ks.length → H a = none → Q (.ref a) (upd H a (TSetO P w a (fun k => decide (k ∈ ks)) c))
theorem cr_setOfS (hc : X.calm = true) : CallR X (.type "set") (rSetOfS X.K X.prog X.w) := by
  intro pins s σ H xs us Q I r h
  obtain ⟨l, ks, rfl, hl, hf, q⟩ := h
  rw [Vals.ref1 r]
  obtain ⟨its, rv, pl, hz⟩ := I.list hl
  have hn : H s.heap.objs.size = none := I.hok.fresh (Nat.le_refl _)
  refine call_set_texts (P := X.prog) (w := X.w) ks (I.ok.hd hc) pl.isList (by simpa using rv.strs) hf fun h' tk c hc' R k => ?_
  have e : inS ks ks.length = fun k => decide (k ∈ ks) := by
    funext k
    unfold inS
    rw [List.take_length]
  rw [e] at R
  exact ⟨.ref s.heap.objs.size, upd H s.heap.objs.size (TSetO X.prog X.w s.heap.objs.size _ c), I.laid (t' := tk) k (Nat.le_refl _) (tsetO_new R), rfl, q _ c hc' hn⟩
/-- sorted(set of texts) -/
def rSortedSS (P : Program) (w : World) : List V → Hp → VK → Prop := fun vs H Q => ∃ (a : Addr) (m : Str → Bool) (n : Nat), vs = [V.ref a] ∧ H a = some (TSetO P w a m n) ∧ (∃ D : List Str, D.length < 64 ∧ ∀ k, m k = true → k ∈ D) ∧
  ∀ (ys : List Str) (p : Addr), sortedS ys = true → ys.Nodup → (∀ k, k ∈ ys ↔ m k = true) → H p = none → Q (.ref p) (upd H p (.lst (ys.map V.str)))
theorem cr_sortedSS (hc : X.calm = true) : CallR X (.builtin "sorted") (rSortedSS X.prog X.w) := by
  intro pins s σ H vs us Q I r h
  obtain ⟨a, m, n, rfl, ha, ⟨D, hD1, hD2⟩, q⟩ := h
  have R : TSet X.prog X.w s.heap a m n := (I.hok a _ ha).1
  have h64 : n < 64 := by
    obtain ⟨_, es, _, _, _, _, _, _, nd, hm, _, _, hn, _⟩ := id R
    have := nodup_few nd fun x hx => hD2 x ((hm x).mpr hx)
    rw [List.length_map, Array.length_toList, hn] at this
    omega
  rw [Vals.ref1 r]
  refine sorted_texts R (I.ok.hd hc) h64 fun s' p out c ys k g o hp hg hs h1 h2 h3 h4 => ?_
  have hlen : (ys.map V.str).length ≤ sizeLine := by rw [List.length_map, sizeLine_eq]; omega
  have hn : H p = none := I.hok.fresh hp
  have J : Inv X pins σ (upd H p (.lst (ys.map V.str))) { s with heap := s'.heap, gens := s'.gens, drawn := s'.drawn, toks := s'.toks } :=
    I.call (ch := []) (Un.laid k hp hn) (I.hok.laid k hp ⟨hlen, out.toList, c, vals_of_strs hs, hg⟩) (by rw [g]; exact I.bare) (fun _ z => nomatch z)
  have e : s' = { s with heap := s'.heap, gens := s'.gens, drawn := s'.drawn, toks := s'.toks } := by
    cases s'
    cases s
    cases o
    rfl
  rw [e]
  exact ⟨.ref p, _, J, rfl, q ys p h1 h2 h3 hn⟩
end
end Lw

namespace Lw
open PySem L2
open PyProof.Rows (envOfC)
def top (i : Nat) : Stmt := PySem.Challenge.pw_layerwharf_k04_claims_and_uploads.main.body.getD i (.Pass ⟨0, 0, 0, 0⟩)
abbrev s_Claims___init__ : Stmt := inClass (top 1) 0
abbrev n_Claims___init__ : List Str := ["self"]
theorem sc_Claims___init__ : FnScope n_Claims___init__ ["self"] (defScope s_Claims___init__) := ⟨rfl, rfl, rfl, by decide +kernel, rfl, by decide +kernel, by decide +kernel⟩
abbrev s_Claims_begin : Stmt := inClass (top 1) 1
abbrev n_Claims_begin : List Str := ["self"]
theorem sc_Claims_begin : FnScope n_Claims_begin ["self"] (defScope s_Claims_begin) := ⟨rfl, rfl, rfl, by decide +kernel, rfl, by decide +kernel, by decide +kernel⟩
abbrev s_Claims_is_open : Stmt := inClass (top 1) 2
abbrev n_Claims_is_open : List Str := ["self", "claim"]
theorem sc_Claims_is_open : FnScope n_Claims_is_open ["self", "claim"] (defScope s_Claims_is_open) := ⟨rfl, rfl, rfl, by decide +kernel, rfl, by decide +kernel, by decide +kernel⟩
abbrev s_Claims_pin : Stmt := inClass (top 1) 3
abbrev n_Claims_pin : List Str := ["self", "claim", "address"]
theorem sc_Claims_pin : FnScope n_Claims_pin ["self", "claim", "address"] (defScope s_Claims_pin) := ⟨rfl, rfl, rfl, by decide +kernel, rfl, by decide +kernel, by decide +kernel⟩
abbrev s_Claims_end : Stmt := inClass (top 1) 4
abbrev n_Claims_end : List Str := ["self", "claim"]
theorem sc_Claims_end : FnScope n_Claims_end ["self", "claim"] (defScope s_Claims_end) := ⟨rfl, rfl, rfl, by decide +kernel, rfl, by decide +kernel, by decide +kernel⟩
abbrev s_Claims_numbers : Stmt := inClass (top 1) 5
abbrev n_Claims_numbers : List Str := ["self"]
theorem sc_Claims_numbers : FnScope n_Claims_numbers ["self"] (defScope s_Claims_numbers) := ⟨rfl, rfl, rfl, by decide +kernel, rfl, by decide +kernel, by decide +kernel⟩
abbrev s_Claims_pinned : Stmt := inClass (top 1) 6
abbrev n_Claims_pinned : List Str := ["self", "found", "claim", "address"]
theorem sc_Claims_pinned : FnScope n_Claims_pinned ["self"] (defScope s_Claims_pinned) := ⟨rfl, rfl, rfl, by decide +kernel, rfl, by decide +kernel, by decide +kernel⟩
abbrev s_Uploads___init__ : Stmt := inClass (top 3) 0
abbrev n_Uploads___init__ : List Str := ["self"]
theorem sc_Uploads___init__ : FnScope n_Uploads___init__ ["self"] (defScope s_Uploads___init__) := ⟨rfl, rfl, rfl, by decide +kernel, rfl, by decide +kernel, by decide +kernel⟩
abbrev s_Uploads_begin : Stmt := inClass (top 3) 1
abbrev n_Uploads_begin : List Str := ["self"]
theorem sc_Uploads_begin : FnScope n_Uploads_begin ["self"] (defScope s_Uploads_begin) := ⟨rfl, rfl, rfl, by decide +kernel, rfl, by decide +kernel, by decide +kernel⟩
abbrev s_Uploads_add_part : Stmt := inClass (top 3) 2
abbrev n_Uploads_add_part : List Str := ["self", "upload", "at", "part"]
theorem sc_Uploads_add_part : FnScope n_Uploads_add_part ["self", "upload", "at", "part"] (defScope s_Uploads_add_part) := ⟨rfl, rfl, rfl, by decide +kernel, rfl, by decide +kernel, by decide +kernel⟩
abbrev s_Uploads_finish : Stmt := inClass (top 3) 3
abbrev n_Uploads_finish : List Str := ["self", "upload", "text"]
theorem sc_Uploads_finish : FnScope n_Uploads_finish ["self", "upload"] (defScope s_Uploads_finish) := ⟨rfl, rfl, rfl, by decide +kernel, rfl, by decide +kernel, by decide +kernel⟩
abbrev s_Uploads_forget : Stmt := inClass (top 3) 4
abbrev n_Uploads_forget : List Str := ["self"]
theorem sc_Uploads_forget : FnScope n_Uploads_forget ["self"] (defScope s_Uploads_forget) := ⟨rfl, rfl, rfl, by decide +kernel, rfl, by decide +kernel, by decide +kernel⟩
abbrev s__law_state : Stmt := top 5
abbrev n__law_state : List Str := ["_law_script", "_law_cells", "_law_cell"]
theorem sc__law_state : FnScope n__law_state ["_law_script"] (defScope s__law_state) := ⟨rfl, rfl, rfl, by decide +kernel, rfl, by decide +kernel, by decide +kernel⟩
abbrev s__law_take : Stmt := top 6
abbrev n__law_take : List Str := ["_law_state_here", "_law_most", "_law_cells", "_law_at", "_law_cell", "_law_mixed"]
theorem sc__law_take : FnScope n__law_take ["_law_state_here", "_law_most"] (defScope s__law_take) := ⟨rfl, rfl, rfl, by decide +kernel, rfl, by decide +kernel, by decide +kernel⟩
abbrev s__law_text : Stmt := top 8
abbrev n__law_text : List Str := ["_law_state_here", "_law_most", "_law_k"]
theorem sc__law_text : FnScope n__law_text ["_law_state_here", "_law_most"] (defScope s__law_text) := ⟨rfl, rfl, rfl, by decide +kernel, rfl, by decide +kernel, by decide +kernel⟩
abbrev s__law_claim_step : Stmt := top 9
abbrev n__law_claim_step : List Str := ["_law_state_here", "_law_claims", "_law_pins", "_law_count", "_law_kind", "_law_claim", "_law_address"]
theorem sc__law_claim_step : FnScope n__law_claim_step ["_law_state_here", "_law_claims", "_law_pins", "_law_count"] (defScope s__law_claim_step) := ⟨rfl, rfl, rfl, by decide +kernel, rfl, by decide +kernel, by decide +kernel⟩
abbrev s__law_pinned : Stmt := top 10
abbrev n__law_pinned : List Str := ["_law_pins", "_law_found", "_law_claim"]
theorem sc__law_pinned : FnScope n__law_pinned ["_law_pins"] (defScope s__law_pinned) := ⟨rfl, rfl, rfl, by decide +kernel, rfl, by decide +kernel, by decide +kernel⟩
abbrev s__law_upload_step : Stmt := top 11
abbrev n__law_upload_step : List Str := ["_law_state_here", "_law_uploads", "_law_texts", "_law_count", "_law_kind", "_law_upload", "_law_due", "_law_number", "_law_part", "_law_at"]
theorem sc__law_upload_step : FnScope n__law_upload_step ["_law_state_here", "_law_uploads", "_law_texts", "_law_count"] (defScope s__law_upload_step) := ⟨rfl, rfl, rfl, by decide +kernel, rfl, by decide +kernel, by decide +kernel⟩
abbrev s_law : Stmt := top 12
abbrev n_law : List Str := ["_law_script", "_law_state_here", "_law_claims", "_law_pins", "_law_begun", "_law_uploads", "_law_texts", "_law_started", "_law_turn", "_law_before", "_law_upload"]
theorem sc_law : FnScope n_law ["_law_script"] (defScope s_law) := ⟨rfl, rfl, rfl, by decide +kernel, rfl, by decide +kernel, by decide +kernel⟩
/-- the fields of Claims -/
def f_Claims (x_last x_pins : V) : List (Str × V) := [("last", x_last), ("pins", x_pins)]
theorem f_Claims_last {x_last x_pins : V} : (f_Claims x_last x_pins).lookup ("last" : Str) = some x_last := lk_eq
theorem f_Claims_put_last {x_last x_pins y : V} : putF "last" y (f_Claims x_last x_pins) = f_Claims y x_pins := pf_eq
theorem f_Claims_pins {x_last x_pins : V} : (f_Claims x_last x_pins).lookup ("pins" : Str) = some x_pins := (lk_ne (by decide +kernel)).trans (lk_eq)
theorem f_Claims_put_pins {x_last x_pins y : V} : putF "pins" y (f_Claims x_last x_pins) = f_Claims x_last y := (pf_ne (by decide +kernel)).trans (congrArg _ (pf_eq))
theorem f_Claims_no {x_last x_pins : V} {m : Str} (h : (["last", "pins"] : List Str).all (fun f => !(m == f)) = true) : (f_Claims x_last x_pins).lookup m = none := lk_no h
theorem f_Claims_len {x_last x_pins : V} : (f_Claims x_last x_pins).length < 1000 := (by decide : 2 < 1000)
theorem f_Claims_mk {x_last x_pins : V} : putF "pins" x_pins (putF "last" x_last ([])) = f_Claims x_last x_pins := by
  unfold f_Claims; simp only [putF]; first | rfl | (repeat' (first | rfl | rw [if_neg (by decide +kernel)]))
/-- the fields of Uploads -/
def f_Uploads (x_last x_texts : V) : List (Str × V) := [("last", x_last), ("texts", x_texts)]
theorem f_Uploads_last {x_last x_texts : V} : (f_Uploads x_last x_texts).lookup ("last" : Str) = some x_last := lk_eq
theorem f_Uploads_put_last {x_last x_texts y : V} : putF "last" y (f_Uploads x_last x_texts) = f_Uploads y x_texts := pf_eq
theorem f_Uploads_texts {x_last x_texts : V} : (f_Uploads x_last x_texts).lookup ("texts" : Str) = some x_texts := (lk_ne (by decide +kernel)).trans (lk_eq)
theorem f_Uploads_put_texts {x_last x_texts y : V} : putF "texts" y (f_Uploads x_last x_texts) = f_Uploads x_last y := (pf_ne (by decide +kernel)).trans (congrArg _ (pf_eq))
theorem f_Uploads_no {x_last x_texts : V} {m : Str} (h : (["last", "texts"] : List Str).all (fun f => !(m == f)) = true) : (f_Uploads x_last x_texts).lookup m = none := lk_no h
theorem f_Uploads_len {x_last x_texts : V} : (f_Uploads x_last x_texts).length < 1000 := (by decide : 2 < 1000)
theorem f_Uploads_mk {x_last x_texts : V} : putF "texts" x_texts (putF "last" x_last ([])) = f_Uploads x_last x_texts := by
  unfold f_Uploads; simp only [putF]; first | rfl | (repeat' (first | rfl | rw [if_neg (by decide +kernel)]))
structure Txt (w : World) (K : PySem.W.Frag) (mg : Str → Option Value) (C_Claims : Addr) (C_Uploads : Addr) : Prop where
  cl_Claims : Cls K C_Claims
  na_Claims_last : NoAttr K C_Claims "last"
  na_Claims_pins : NoAttr K C_Claims "pins"
  i_Claims : IniAt K mg "Claims" C_Claims "Claims.__init__" s_Claims___init__ ["self"]
  m_Claims_begin : MetAt K C_Claims "begin" "Claims.begin" s_Claims_begin ["self"]
  m_Claims_is_open : MetAt K C_Claims "is_open" "Claims.is_open" s_Claims_is_open ["self", "claim"]
  m_Claims_pin : MetAt K C_Claims "pin" "Claims.pin" s_Claims_pin ["self", "claim", "address"]
  m_Claims_end : MetAt K C_Claims "end" "Claims.end" s_Claims_end ["self", "claim"]
  m_Claims_numbers : MetAt K C_Claims "numbers" "Claims.numbers" s_Claims_numbers ["self"]
  m_Claims_pinned : MetAt K C_Claims "pinned" "Claims.pinned" s_Claims_pinned ["self"]
  cl_Uploads : Cls K C_Uploads
  na_Uploads_last : NoAttr K C_Uploads "last"
  na_Uploads_texts : NoAttr K C_Uploads "texts"
  i_Uploads : IniAt K mg "Uploads" C_Uploads "Uploads.__init__" s_Uploads___init__ ["self"]
  m_Uploads_begin : MetAt K C_Uploads "begin" "Uploads.begin" s_Uploads_begin ["self"]
  m_Uploads_add_part : MetAt K C_Uploads "add_part" "Uploads.add_part" s_Uploads_add_part ["self", "upload", "at", "part"]
  m_Uploads_finish : MetAt K C_Uploads "finish" "Uploads.finish" s_Uploads_finish ["self", "upload"]
  m_Uploads_forget : MetAt K C_Uploads "forget" "Uploads.forget" s_Uploads_forget ["self"]
  d__law_state : DefAt K mg "_law_state" s__law_state ["_law_script"]
  d__law_take : DefAt K mg "_law_take" s__law_take ["_law_state_here", "_law_most"]
  d__law_text : DefAt K mg "_law_text" s__law_text ["_law_state_here", "_law_most"]
  d__law_claim_step : DefAt K mg "_law_claim_step" s__law_claim_step ["_law_state_here", "_law_claims", "_law_pins", "_law_count"]
  d__law_pinned : DefAt K mg "_law_pinned" s__law_pinned ["_law_pins"]
  d__law_upload_step : DefAt K mg "_law_upload_step" s__law_upload_step ["_law_state_here", "_law_uploads", "_law_texts", "_law_count"]
  n_abs : mg "abs" = none
  n_int : mg "int" = none
  n_len : mg "len" = none
  n_max : mg "max" = none
  n_range : mg "range" = none
  n_repr : mg "repr" = none
  n_set : mg "set" = none
  n_sorted : mg "sorted" = none
end Lw
/-! ## the law's draws: any number below the bound may come -/
namespace Lw
open PySem L2
open PyProof.Rows (envOfC)
theorem at_in {α : Type} {xs : List α} {i : Int} (h0 : 0 ≤ i) (h1 : i < xs.length) : ∃ v, xs[i.toNat]? = some v ∧ atI xs i = some v := by
  have hl : i.toNat < xs.length := by omega
  refine ⟨xs[i.toNat], List.getElem?_eq_getElem hl, ?_⟩
  have := atI_nat (xs := xs) (j := i.toNat) (v := xs[i.toNat]) (List.getElem?_eq_getElem hl)
  rw [show ((i.toNat : Nat) : Int) = i by omega] at this
  exact this
theorem ix_in {n : Nat} {i : Int} (h0 : 0 ≤ i) (h1 : i < n) : ixN n i = some i.toNat := by
  unfold ixN
  rw [if_pos h0, if_pos h1]
theorem map_int_set (l : List Int) (j : Nat) (z : Int) : (l.map V.int).set j (.int z) = (l.set j z).map V.int := by rw [List.map_set]
/-- the state of the draws at S: its place, its cells at C -/
structure StateAt (c : Addr → Nat) (H : Hp) (S : Addr) : Prop where
  ex : ∃ (C : Addr) (pos : Int) (cells : List Int), c S = 0 ∧ c C = 0 ∧ S ≠ C ∧ H S = some (.lst [.int pos, .ref C]) ∧ H C = some (.lst (cells.map V.int)) ∧ cells ≠ [] ∧ (∀ x ∈ cells, 0 ≤ x) ∧ 0 ≤ pos
theorem StateAt.frame {I : Nat → Prop} {c c' : Addr → Nat} {H H' : Hp} {S : Addr} (h : StateAt c H S) (s : Stp I c c' H H') (hi : ¬ I 0 := by decide) : StateAt c' H' S := by
  obtain ⟨C, pos, cells, h1, h2, h3, h4, h5, h6⟩ := h.ex
  exact ⟨C, pos, cells, by rw [s.col _ _ h4, h1], by rw [s.col _ _ h5, h2], h3, s.keep _ _ h4 (by rw [h1]; exact hi), s.keep _ _ h5 (by rw [h2]; exact hi), h6⟩
def spState (K : PySem.W.Frag) : Sp := fun vs H Q _ => ∃ (a : Addr) (ns : List Int) (c : Addr → Nat), vs = [.ref a] ∧ SqL K H a (ns.map V.int) ∧ ns.length ≤ 63 ∧
  ∀ S c' H', StateAt c' H' S → Stp (fun _ => False) c c' H H' → Q (.ref S) H'
def spTake : Sp := fun vs H Q _ => ∃ (c : Addr → Nat) (S : Addr) (m : Int), vs = [.ref S, .int m] ∧ StateAt c H S ∧ 0 < m ∧ m < 1073741824 ∧
  ∀ (r : Int) c' H', 0 ≤ r → r < m → StateAt c' H' S → Stp (fun i => i = 0) c c' H H' → Q (.int r) H'
section
variable {P : Program} {w : World} {K : PySem.W.Frag} {mg : Str → Option Value} {base : Heap} {C_Claims C_Uploads : Addr}
theorem ok__law_state (T : Txt w K mg C_Claims C_Uploads) : Cal P w K mg base 1 "_law_state" (spState K) := by
  refine cal_mk T.d__law_state sc__law_state (fun vs H Q E h => ?_) (fun f cdv A outer s H vs Q E hr h => ?_)
  · obtain ⟨a, ns, c, rfl, _⟩ := h
    rfl
  · obtain ⟨a, ns, c, rfl, hS, hlen, k⟩ := h
    refine ⟨_, (pss_cons (ps_setLc (i := 1) (own := [("_law_cell", 2)]) (g := (gName 2)) (by rfl) sc__law_state.nd rfl rfl (sw_true rfl rfl rfl (by decide +kernel)) (pi_list (pe_slice sl_list (pv 0) po_none (po_some (pe_int)))) (blkOk_by (own := [("_law_cell", 2)]) (N := n__law_state) (sc := defScope s__law_state) (by decide +kernel)) (fun _ _ _ _ _ => (pg_name (i := 2) sc__law_state.nd rfl (by first | exact Or.inl rfl | exact Or.inr rfl))) (fun _ _ _ _ _ => pts_nil) (fun _ _ _ _ _ => (pe_callB call_abs (by rfl) T.n_abs (by decide +kernel) (pa_cons (pv 2) pa_nil))))
      (pss_cons (ps_if (pt_cmpR op_eq (pe_callB call_len_seq' (by rfl) T.n_len (by decide +kernel) (pa_cons (pv 1) pa_nil)) (pe_int) (nomark _)) (pss_one (ps_set (i := 1) sc__law_state.nd rfl (by first | exact Or.inl rfl | exact Or.inr rfl) (pe_lst (pa_cons (pe_int) pa_nil)))) pss_nil)
      (pss_one (ps_ret (pe_lst (pa_cons (pe_int) (pa_cons (pv 1) pa_nil))))))), ?_⟩
    refine ⟨_, rfl, 63, rfl, a, _, rfl, hS, fun p np => ?_⟩
    have e63 : (cutV (ns.map V.int) none (some 63)) = ns.map V.int := by
      unfold cutV
      rw [HT.sIx_none, show ((63 : Int)) = ((63 : Nat) : Int) from rfl, HT.sIx_nat, List.drop_zero, List.take_of_length_le (by rw [List.length_map]; omega)]
    rw [e63]
    refine ⟨p, rfl, ⟨_, SqL.of upd_same⟩, fun D hD => ?_⟩
    have hDp : D ≠ p := fun z => by subst z; rw [upd_same] at hD; cases hD
    have hD0 : H D = none := by rw [upd_ne hDp] at hD; exact hD
    refine lc_list (K := K) (a := p) (xs := ns.map V.int) (fun i H2 => ∃ l : List Int, l.length = i ∧ (∀ x ∈ l, 0 ≤ x) ∧ Same H H2 ∧ H2 p = some (.lst (ns.map V.int)) ∧ H2 D = some (.lst (l.map V.int)))
      ⟨[], rfl, by simp, (Same.new np).thenNew hD, by rw [upd_ne (Ne.symm hDp)]; exact upd_same, upd_same⟩
      (fun i H2 hi h => by obtain ⟨l, _, _, _, h2, _⟩ := h; exact SqL.of h2) (fun i x H2 hx h => ?_) (fun H2 h => ?_)
    · obtain ⟨l, h1, h2, h3, h4, h5⟩ := h
      obtain ⟨z, hz, rfl⟩ : ∃ z, ns[i]? = some z ∧ V.int z = x := by
        rw [List.getElem?_map] at hx
        cases e : ns[i]? with
        | none => rw [e] at hx; cases hx
        | some z => rw [e] at hx; exact ⟨z, rfl, Option.some.inj hx⟩
      refine ⟨rfl, ?_⟩
      refine ⟨_, rfl, z, rfl, l.map V.int, h5, ?_, l ++ [if z < 0 then -z else z], by simp [h1], ?_, h3.grow hD0, by rw [upd_ne (Ne.symm hDp)]; exact h4, by rw [upd_same]; simp⟩
      · have hi := (List.getElem?_eq_some_iff.mp hz).1
        rw [List.length_map, h1]
        exact small1000 (by omega)
      · intro x hx
        rcases List.mem_append.mp hx with q | q
        · exact h2 x q
        · rw [List.mem_singleton.mp q]
          split <;> omega
    · obtain ⟨l, h1, h2, h3, h4, h5⟩ := h
      rw [List.length_map] at h1
      refine ⟨_, rfl, D, l.map V.int, rfl, Or.inl (SqL.of h5), ?_⟩
      refine ⟨rfl, _, rfl, ?_⟩
      refine if2 (fun hz => ?_) (fun hz => ?_)
      · refine ⟨(by show 1 ≤ sizeLine; decide), fun q nq => ?_⟩
        refine ⟨_, rfl, (by show 2 ≤ sizeLine; decide), fun S nS => ?_⟩
        have hqS : q ≠ S := fun z => by subst z; rw [upd_same] at nS; cases nS
        refine k S (Stp.paint (Stp.paint c q 0) S 0) _ ⟨q, 0, [0], Stp.paint_same, by rw [Stp.paint_ne hqS]; exact Stp.paint_same, Ne.symm hqS, upd_same, by rw [upd_ne hqS]; exact upd_same, by simp, by simp, by decide⟩ ?_
        exact ((Stp.same h3).trans (Stp.newc nq)).trans (Stp.newc nS)
      · refine ⟨_, rfl, (by show 2 ≤ sizeLine; decide), fun S nS => ?_⟩
        have hDS : D ≠ S := ne_of_none h5 nS
        refine k S (Stp.paint (Stp.paint c D 0) S 0) _ ⟨D, 0, l, Stp.paint_same, by rw [Stp.paint_ne hDS]; exact Stp.paint_same, Ne.symm hDS, upd_same, by rw [upd_ne hDS]; exact h5, fun e => hz (by rw [int_eq, e]; rfl), h2, by decide⟩ ?_
        have s1 : Stp (fun _ => False) c (Stp.paint c D 0) H H2 := ⟨fun b o e _ => h3 b o e, fun b o e => Stp.paint_ne (ne_of_none e hD0), fun b xs e => h3 b _ e, fun b e => h3.free e⟩
        exact s1.trans (Stp.newc nS)
theorem ok__law_take (T : Txt w K mg C_Claims C_Uploads) : Cal P w K mg base 1 "_law_take" spTake := by
  refine cal_mk T.d__law_take sc__law_take (fun vs H Q E h => ?_) (fun f cdv A outer s H vs Q E hr h => ?_)
  · obtain ⟨c, S, m, rfl, _⟩ := h
    rfl
  · obtain ⟨c, S, m, rfl, hS, hm0, hm1, k⟩ := h
    obtain ⟨C, pos, cells, c1, c2, ne, h1, h2, h3, h4, h5⟩ := hS.ex
    have hcl : 0 < cells.length := List.length_pos_iff.mpr h3
    refine ⟨_, (pss_cons (ps_set (i := 2) sc__law_take.nd rfl (by first | exact Or.inl rfl | exact Or.inr rfl) (pe_ix ix_list (pv 0) (pe_int) (fun _ _ => rfl)))
      (pss_cons (ps_set (i := 3) sc__law_take.nd rfl (by first | exact Or.inl rfl | exact Or.inr rfl) (pe_op op_mod (pe_ix ix_list (pv 0) (pe_int) (fun _ _ => rfl)) (pe_callB call_len_seq' (by rfl) T.n_len (by decide +kernel) (pa_cons (pv 2) pa_nil))))
      (pss_cons (ps_set (i := 4) sc__law_take.nd rfl (by first | exact Or.inl rfl | exact Or.inr rfl) (pe_ix ix_list (pv 2) (pv 3) (fun _ _ => rfl)))
      (pss_cons (ps_if (pt_cmpR op_ge (pv 4) (pe_int) (nomark _)) (pss_cons (ps_asg (pe_op op_fdiv (pv 4) (pv 1)) (pg_sub (pv 2) (pv 3) set_list))
      (pss_one (ps_ret (pe_op op_mod (pv 4) (pv 1))))) pss_nil)
      (pss_cons (ps_asg (pe_op op_add (pe_ix ix_list (pv 0) (pe_int) (fun _ _ => rfl)) (pe_int)) (pg_sub (pv 0) (pe_int) set_list))
      (pss_cons (ps_set (i := 5) sc__law_take.nd rfl (by first | exact Or.inl rfl | exact Or.inr rfl) (pe_op op_mod (pe_callTy call_int1' (by rfl) T.n_int (by decide +kernel) (pa_cons (pe_op op_add (pe_op op_mul (pv 4) (pe_int)) (pe_op op_mul (pe_ix ix_list (pv 0) (pe_int) (fun _ _ => rfl)) (pe_int))) pa_nil)) (pe_int)))
      (pss_cons (ps_set (i := 5) sc__law_take.nd rfl (by first | exact Or.inl rfl | exact Or.inr rfl) (pe_op op_mod (pe_callTy call_int1' (by rfl) T.n_int (by decide +kernel) (pa_cons (pe_op op_add (pe_op op_mul (pv 5) (pe_int)) (pe_op op_mul (pe_ix ix_list (pv 0) (pe_int) (fun _ _ => rfl)) (pe_int))) pa_nil)) (pe_int)))
      (pss_one (ps_ret (pe_op op_mod (pe_op op_fdiv (pv 5) (pe_int)) (pv 1))))))))))), ?_⟩
    refine ⟨_, rfl, S, _, 1, .ref C, rfl, rfl, SqL.of h1, atI_nat (j := 1) rfl, ?_⟩
    refine ⟨_, rfl, S, _, 0, .int pos, rfl, rfl, SqL.of h1, atI_nat (j := 0) rfl, ?_⟩
    have hpl : 0 ≤ pos % (cells.length : Int) ∧ pos % (cells.length : Int) < (cells.length : Int) := ⟨Int.emod_nonneg _ (by omega), Int.emod_lt_of_pos _ (by omega)⟩
    refine ⟨_, rfl, C, _, rfl, Or.inl (SqL.of h2), _, _, rfl, rfl, by show (0 : Int) < ((cells.map V.int).length : Int); rw [List.length_map]; omega, ?_⟩
    rw [List.length_map]
    obtain ⟨v, hv, hat⟩ := at_in (xs := cells.map V.int) (i := pos % (cells.length : Int)) hpl.1 (by rw [List.length_map]; exact hpl.2)
    obtain ⟨x, hx, rfl⟩ : ∃ x, x ∈ cells ∧ V.int x = v := by
      rw [List.getElem?_map] at hv
      cases e : cells[(pos % (cells.length : Int)).toNat]? with
      | none => rw [e] at hv; cases hv
      | some x => rw [e] at hv; exact ⟨x, List.mem_of_getElem? e, Option.some.inj hv⟩
    have hx0 := h4 x hx
    refine ⟨_, rfl, _, rfl, C, _, _, _, rfl, rfl, SqL.of h2, hat, ?_⟩
    refine ⟨_, rfl, _, _, rfl, rfl, _, rfl, ?_⟩
    refine if2 (fun hz => ?_) (fun hz => ?_)
    · refine ⟨_, rfl, _, rfl, _, _, rfl, rfl, ⟨hm0, hm1⟩, ?_⟩
      refine ⟨_, rfl, _, rfl, C, _, _, _, rfl, rfl, h2, by rw [List.length_map]; exact ix_in hpl.1 hpl.2, ?_⟩
      refine ⟨_, rfl, _, rfl, _, _, rfl, rfl, hm0, ?_⟩
      refine k _ c _ (Int.emod_nonneg _ (by omega)) (Int.emod_lt_of_pos _ hm0) ⟨C, pos, cells.set (pos % (cells.length : Int)).toNat (x / m), c1, c2, ne, by rw [upd_ne ne]; exact h1, by rw [upd_same, map_int_set], ?_, ?_, h5⟩ ?_
      · intro e
        have := congrArg List.length e
        rw [List.length_set, List.length_nil] at this
        omega
      · intro y hy
        rcases List.mem_or_eq_of_mem_set hy with q | q
        · exact h4 y q
        · rw [q]; exact Int.ediv_nonneg hx0 (by omega)
      · exact Stp.own h2 c2 (fun xs z => by cases z)
    · refine ⟨_, rfl, S, _, 0, .int pos, rfl, rfl, SqL.of h1, atI_nat (j := 0) rfl, _, _, rfl, rfl, ?_⟩
      refine ⟨_, rfl, S, _, _, 0, rfl, rfl, h1, rfl, ?_⟩
      have h1' : (upd H S (.lst [.int (pos + 1), .ref C])) S = some (.lst [.int (pos + 1), .ref C]) := upd_same
      refine ⟨_, rfl, _, _, rfl, rfl, .inr ⟨by decide, by decide⟩, ?_⟩
      refine ⟨_, rfl, S, _, 0, .int (pos + 1), rfl, rfl, SqL.of h1', atI_nat (j := 0) rfl, _, _, rfl, rfl, .inr ⟨by decide, by decide⟩, _, _, rfl, rfl, ?_⟩
      refine Or.inl ⟨_, rfl, _, _, rfl, rfl, (by show (0 : Int) < 2147483647; decide), ?_⟩
      refine ⟨_, rfl, _, _, rfl, rfl, .inr ⟨by decide, by decide⟩, ?_⟩
      refine ⟨_, rfl, S, _, 0, .int (pos + 1), rfl, rfl, SqL.of h1', atI_nat (j := 0) rfl, _, _, rfl, rfl, .inr ⟨by decide, by decide⟩, _, _, rfl, rfl, ?_⟩
      refine Or.inl ⟨_, rfl, _, _, rfl, rfl, (by show (0 : Int) < 1000000007; decide), ?_⟩
      refine ⟨_, rfl, _, _, rfl, rfl, ⟨by decide, by decide⟩, ?_⟩
      refine ⟨_, rfl, _, _, rfl, rfl, hm0, ?_⟩
      refine k _ c _ (Int.emod_nonneg _ (by omega)) (Int.emod_lt_of_pos _ hm0) ⟨C, pos + 1, cells, c1, c2, ne, h1', by rw [upd_ne ne.symm]; exact h2, h3, h4, by omega⟩ ?_
      exact Stp.own h1 c1 (fun xs z => by cases z)
end
end Lw
namespace Lw
open PySem L2
/-- a comprehension whose items are drawn -/
theorem lc_draw {α : Type} {J : It} {xs : List V} {vs : List Nat} {σ : L2.St} {te : TE} {j : Nat} {Q : VK} {c : Addr → Nat} {H : Hp} {S : Addr} (w : Walk J xs.length (fun _ => True) (YAt xs)) (hz : xs.length ≤ 100000) (F : α → V) (G : α → Prop) (hS : StateAt c H S)
    (hw : ∀ x, wipe ((wipe σ vs).set j (some x)) vs = wipe σ vs)
    (he : ∀ x c1 H1 (R : VK), StateAt c1 H1 S → Stp (fun i => i = 0) c c1 H H1 → (∀ a c2 H2, G a → StateAt c2 H2 S → Stp (fun i => i = 0) c1 c2 H1 H2 → R (F a) H2) → te ((wipe σ vs).set j (some x)) H1 R)
    (k : ∀ q (l : List α) c' H', H q = none → l.length = xs.length → (∀ a ∈ l, G a) → StateAt c' H' S → Stp (fun i => i = 0) c c' H H' → H' q = some (.lst (l.map F)) → c' q = 9 → Q (.ref q) H') : kLc (gName j) tYes te vs σ Q J H := by
  intro D hD
  refine lc_it w (fun i H2 => ∃ (l : List α) (c2 : Addr → Nat), l.length = i ∧ (∀ a ∈ l, G a) ∧ StateAt c2 H2 S ∧ Stp (fun i => i = 0) c c2 H H2 ∧ c2 D = 9 ∧ H2 D = some (.lst (l.map F)))
    ⟨[], Stp.paint c D 9, rfl, by simp, hS.frame (I := fun _ => False) (Stp.newc hD) (by decide), Stp.newc hD, Stp.paint_same, upd_same⟩ (fun _ _ _ _ => trivial) (fun i x H2 H2' hi h y => ?_) (fun H2 h => ?_)
  · obtain ⟨e, hx⟩ := y
    subst e
    obtain ⟨l, c2, h1, h2, S2, st2, cD, hl⟩ := h
    refine ⟨hw x, ?_⟩
    show te _ H2' _
    refine he x c2 H2' _ S2 st2 fun a c3 H3 ga S3 st3 => ?_
    have hD3 := st3.keep _ _ hl (by rw [cD]; decide)
    refine ⟨_, hD3, ?_, l ++ [a], c3, by rw [List.length_append, h1]; rfl, fun b hb => ?_, S3.frame (I := fun i => i = 9) (Stp.own hD3 (by rw [st3.col _ _ hl, cD]) (fun xs z => by cases z)) (by decide), ?_, by rw [st3.col _ _ hl, cD], by rw [upd_same, List.map_append]; rfl⟩
    · rw [List.length_map, h1]
      exact Nat.lt_of_lt_of_le (show i < 200000 by omega) (by decide)
    · rcases List.mem_append.mp hb with z | z
      · exact h2 b z
      · rw [List.mem_singleton.mp z]; exact ga
    · have st4 := st2.trans st3
      exact ⟨fun b o e n => by rw [upd_ne (ne_of_none e hD)]; exact st4.keep b o e n, st4.col, fun b xs e => by rw [upd_ne (ne_of_none e hD)]; exact st4.tup b xs e, fun b e => by
        by_cases z : b = D
        · subst z; rw [upd_same] at e; cases e
        · rw [upd_ne z] at e; exact st4.fre b e⟩
  · obtain ⟨l, c2, h1, h2, S2, st2, cD, hl⟩ := h
    exact k D l c2 H2 hD h1 h2 S2 st2 hl cD
end Lw

/-! ## a drawn text -/
namespace Lw
open PySem L2
open PyProof.Rows (envOfC)
def signs8 : List Nat := [97, 98, 99, 88, 89, 32, 48, 49]
theorem signs8_eq : ("abcXY 01" : Str) = SX.S signs8 := by decide +kernel
def spText : Sp := fun vs H Q _ => ∃ (c : Addr → Nat) (S : Addr) (m : Int), vs = [.ref S, .int m] ∧ StateAt c H S ∧ 0 ≤ m ∧ m ≤ 1000 ∧
  ∀ (l : List Nat) c' H', (l.length : Int) ≤ m → (∀ x ∈ l, x ∈ signs8) → StateAt c' H' S → Stp (fun i => i = 0) c c' H H' → Q (.str (SX.S l)) H'
section
variable {P : Program} {w : World} {K : PySem.W.Frag} {mg : Str → Option Value} {base : Heap} {C_Claims C_Uploads : Addr}
theorem ok__law_text (T : Txt w K mg C_Claims C_Uploads) : Cal P w K mg base 2 "_law_text" spText := by
  have c__law_take : Cal P w K mg base 1 "_law_take" spTake := ok__law_take T
  refine cal_mk T.d__law_text sc__law_text (fun vs H Q E h => ?_) (fun f cdv A outer s H vs Q E hr h => ?_)
  · obtain ⟨c, S, m, rfl, _⟩ := h
    rfl
  · obtain ⟨c, S, m, rfl, hS, hm0, hm1, k⟩ := h
    refine ⟨_, (pss_one (ps_ret (pe_join (pe_str) (pe_lc (own := [("_law_k", 2)]) (g := (gName 2)) (by rfl) sc__law_text.nd (pi_range1 (by rfl) T.n_range (pa_cons (pe_c c__law_take hr (by decide) rfl (pa_cons (pv 0) (pa_cons (pe_op op_add (pv 1) (pe_int)) pa_nil))) pa_nil)) (blkOk_by (own := [("_law_k", 2)]) (N := n__law_text) (sc := defScope s__law_text) (by decide +kernel)) (fun _ _ _ _ _ => (pg_name (i := 2) sc__law_text.nd rfl (by first | exact Or.inl rfl | exact Or.inr rfl))) (fun _ _ _ _ _ => pts_nil) (fun _ _ _ _ _ => (pe_ix ix_str (pe_str) (pe_c c__law_take hr (by decide) rfl (pa_cons (pv 0) (pa_cons (pe_int) pa_nil))) (fun _ _ => rfl))))))), ?_⟩
    refine ⟨⟨_, rfl⟩, ?_⟩
    refine ⟨_, rfl, _, rfl, _, _, rfl, rfl, ?_⟩
    refine ⟨c, S, m + 1, rfl, hS, by omega, by omega, fun r c1 H1 r0 r1 S1 st1 => ?_⟩
    refine ⟨r, rfl, by omega, by omega, fun D hD => ?_⟩
    refine lc_range (lo := 0) (n := r.toNat) (fun i H2 => ∃ (l : List Nat) (c2 : Addr → Nat), l.length = i ∧ (∀ x ∈ l, x ∈ signs8) ∧ StateAt c2 H2 S ∧ Stp (fun i => i = 0) c1 c2 H1 H2 ∧ c2 D = 9 ∧ H2 D = some (.lst ((l.map fun c => SX.S [c]).map V.str)))
      ⟨[], Stp.paint c1 D 9, rfl, by simp, S1.frame (I := fun _ => False) (Stp.newc hD) (by decide), Stp.newc hD, Stp.paint_same, upd_same⟩ (fun i H2 hi h => ?_) (fun H2 h => ?_)
    · obtain ⟨l, c2, h1, h2, S2, st2, cD, hl⟩ := h
      refine ⟨rfl, _, rfl, ?_⟩
      refine ⟨c2, S, 8, rfl, S2, by decide, by decide, fun q c3 H3 q0 q1 S3 st3 => ?_⟩
      have hD3 := st3.keep _ _ hl (by rw [cD]; decide)
      obtain ⟨ch, hch, hat⟩ := at_in (xs := signs8) (i := q) q0 q1
      refine ⟨"abcXY 01", q, ch, rfl, rfl, by decide +kernel, by rw [signs8_eq]; exact hat, ?_⟩
      refine ⟨_, hD3, ?_, l ++ [ch], c3, by rw [List.length_append, h1]; rfl, fun x hx => ?_, S3.frame (I := fun i => i = 9) (Stp.own hD3 (by rw [st3.col _ _ hl, cD]) (fun xs z => by cases z)) (by decide), ?_, by rw [st3.col _ _ hl, cD], ?_⟩
      · rw [List.length_map, List.length_map, h1]
        exact small1000 (by omega)
      · rcases List.mem_append.mp hx with z | z
        · exact h2 x z
        · rw [List.mem_singleton.mp z]
          exact List.mem_of_getElem? hch
      · have st4 : Stp (fun i => i = 0) c1 c3 H1 H3 := st2.trans st3
        have hDn : H1 D = none := hD
        exact ⟨fun b o e n => by rw [upd_ne (ne_of_none e hDn)]; exact st4.keep b o e n, st4.col, fun b xs e => by rw [upd_ne (ne_of_none e hDn)]; exact st4.tup b xs e, fun b e => by
          by_cases z : b = D
          · subst z; rw [upd_same] at e; cases e
          · rw [upd_ne z] at e; exact st4.fre b e⟩
      · rw [upd_same, List.map_append, List.map_append]
        rfl
    · obtain ⟨l, c2, h1, h2, S2, st2, cD, hl⟩ := h
      refine ⟨"", D, _, rfl, rfl, Or.inl (SqL.of hl), ?_, ?_⟩
      · rw [sum_ones, List.length_map, h1]
        show r.toNat + r.toNat * 0 ≤ 16777216
        omega
      · rw [join_empty]
        exact k l c2 H2 (by omega) h2 S2 (st1.trans st2)
end
end Lw

/-! ## Claims and Uploads -/
namespace Lw
open PySem L2
open PyProof.Rows (envOfC sortedS)
def addTo (acc l : List Str) : List Str := l.foldl (fun acc x => if x ∈ acc then acc else acc ++ [x]) acc
def ded (l : List Str) : List Str := addTo [] l
theorem addTo_snoc (acc l : List Str) (x : Str) : addTo acc (l ++ [x]) = if x ∈ addTo acc l then addTo acc l else addTo acc l ++ [x] := by
  unfold addTo
  rw [List.foldl_append]
  rfl
theorem addTo_mem (l : List Str) : ∀ (acc : List Str) (x : Str), x ∈ addTo acc l ↔ x ∈ acc ∨ x ∈ l := by
  induction l with
  | nil => intro acc x; simp [addTo]
  | cons y r ih =>
    intro acc x
    show x ∈ addTo (if y ∈ acc then acc else acc ++ [y]) r ↔ _
    rw [ih]
    split
    · rename_i h
      constructor
      · rintro (a | a)
        · exact .inl a
        · exact .inr (List.mem_cons_of_mem _ a)
      · rintro (a | a)
        · exact .inl a
        · rcases List.mem_cons.mp a with e | e
          · rw [e]; exact .inl h
          · exact .inr e
    · rw [List.mem_append, List.mem_singleton, List.mem_cons, or_assoc]
theorem addTo_nodup (l : List Str) : ∀ (acc : List Str), acc.Nodup → (addTo acc l).Nodup := by
  induction l with
  | nil => intro acc h; exact h
  | cons y r ih =>
    intro acc h
    show (addTo (if y ∈ acc then acc else acc ++ [y]) r).Nodup
    refine ih _ ?_
    split
    · exact h
    · rename_i hy
      rw [List.nodup_append]
      refine ⟨h, by simp, fun a ha b hb => ?_⟩
      rw [List.mem_singleton.mp hb]
      exact fun z => hy (z ▸ ha)
def setD (l : List Str) : List (Key × V) := mkS (ded l) fun _ => .bl true
theorem setD_put (l : List Str) (x : Str) : putK (setD l) (kS x) (.bl true) = setD (l ++ [x]) := by
  unfold setD ded
  rw [addTo_snoc]
  by_cases h : x ∈ addTo [] l
  · rw [putK_mkS_old h, if_pos h]
    exact mkS_congr fun j _ => by split <;> rfl
  · rw [putK_mkS_new h, if_neg h]
    exact mkS_congr fun j _ => by split <;> rfl
structure ClaimsAt (C : Addr) (c : Addr → Nat) (H : Hp) (p : Addr) (n : Int) (ks : List Int) (L : Int → List Str) : Prop where
  ex : ∃ (dx d : Addr) (A : Int → Addr), c p = 1 ∧ H p = some (.ins C dx (f_Claims (.int n) (.ref d))) ∧ c d = 1 ∧ H d = some (.dK (mkD ks fun i => .ref (A i))) ∧ (∀ i ∈ ks, c (A i) = 1 ∧ H (A i) = some (.dK (setD (L i)))) ∧
    (∀ i ∈ ks, ∀ j ∈ ks, A i = A j → i = j) ∧ ∀ i ∈ ks, A i ≠ d
theorem ClaimsAt.frame {C : Addr} {I : Nat → Prop} {c c' : Addr → Nat} {H H' : Hp} {p : Addr} {n : Int} {ks : List Int} {L : Int → List Str} (h : ClaimsAt C c H p n ks L) (s : Stp I c c' H H') (hi : ¬ I 1) : ClaimsAt C c' H' p n ks L := by
  obtain ⟨dx, d, A, h1, h2, h3, h4, h5, h6⟩ := h.ex
  refine ⟨dx, d, A, by rw [s.col _ _ h2, h1], s.keep _ _ h2 (by rw [h1]; exact hi), by rw [s.col _ _ h4, h3], s.keep _ _ h4 (by rw [h3]; exact hi), fun i hm => ?_, h6⟩
  obtain ⟨a, b⟩ := h5 i hm
  exact ⟨by rw [s.col _ _ b, a], s.keep _ _ b (by rw [a]; exact hi)⟩
structure UpAt (C : Addr) (c : Addr → Nat) (H : Hp) (p : Addr) (n : Int) (ts : List Int) (X : Int → List Nat) : Prop where
  ex : ∃ (dx d : Addr), c p = 3 ∧ H p = some (.ins C dx (f_Uploads (.int n) (.ref d))) ∧ c d = 3 ∧ H d = some (.dK (mkD ts fun i => .str (SX.S (X i))))
theorem UpAt.frame {C : Addr} {I : Nat → Prop} {c c' : Addr → Nat} {H H' : Hp} {p : Addr} {n : Int} {ks : List Int} {L : Int → List Nat} (h : UpAt C c H p n ks L) (s : Stp I c c' H H') (hi : ¬ I 3) : UpAt C c' H' p n ks L := by
  obtain ⟨dx, d, h1, h2, h3, h4⟩ := h.ex
  exact ⟨dx, d, by rw [s.col _ _ h2, h1], s.keep _ _ h2 (by rw [h1]; exact hi), by rw [s.col _ _ h4, h3], s.keep _ _ h4 (by rw [h3]; exact hi)⟩
def spCInit (C : Addr) : Sp := fun vs H Q _ => ∃ (p dx : Addr), vs = [.ref p] ∧ H p = some (.ins C dx []) ∧ ∀ d H', H d = none → H' p = some (.ins C dx (f_Claims (.int 0) (.ref d))) → H' d = some (.dK []) → (∀ b o, H b = some o → b ≠ p → H' b = some o) → Q .non H'
def spUInit (C : Addr) : Sp := fun vs H Q _ => ∃ (p dx : Addr), vs = [.ref p] ∧ H p = some (.ins C dx []) ∧ ∀ d H', H d = none → H' p = some (.ins C dx (f_Uploads (.int 0) (.ref d))) → H' d = some (.dK []) → (∀ b o, H b = some o → b ≠ p → H' b = some o) → Q .non H'
def spCBegin (C : Addr) : Sp := fun vs H Q _ => ∃ (c : Addr → Nat) (p : Addr) (n : Int) (ks : List Int) (L : Int → List Str), vs = [.ref p] ∧ ClaimsAt C c H p n ks L ∧ n + 1 ∉ ks ∧ ks.length ≤ 1000 ∧
  ∀ c' H', ClaimsAt C c' H' p (n + 1) (ks ++ [n + 1]) (fun j => if j = n + 1 then [] else L j) → Stp (fun i => i = 1) c c' H H' → Q (.int (n + 1)) H'
def spCOpen (C : Addr) : Sp := fun vs H Q _ => ∃ (c : Addr → Nat) (p : Addr) (n i : Int) (ks : List Int) (L : Int → List Str), vs = [.ref p, .int i] ∧ ClaimsAt C c H p n ks L ∧ Q (.bl (decide (i ∈ ks))) H
def spCPin (C : Addr) : Sp := fun vs H Q _ => ∃ (c : Addr → Nat) (p : Addr) (n i : Int) (x : Str) (ks : List Int) (L : Int → List Str), vs = [.ref p, .int i, .str x] ∧ ClaimsAt C c H p n ks L ∧ i ∈ ks ∧ (ded (L i)).length ≤ 1000 ∧
  ∀ H', ClaimsAt C c H' p n ks (fun j => if j = i then L i ++ [x] else L j) → Stp (fun i => i = 1) c c H H' → Q .non H'
def spCEnd (C : Addr) : Sp := fun vs H Q _ => ∃ (c : Addr → Nat) (p : Addr) (n i : Int) (ks : List Int) (L : Int → List Str), vs = [.ref p, .int i] ∧ ClaimsAt C c H p n ks L ∧
  ∀ H', ClaimsAt C c H' p n (ks.filter fun j => decide (j ≠ i)) L → Stp (fun i => i = 1) c c H H' → Q .non H'
def spCNumbers (C : Addr) : Sp := fun vs H Q _ => ∃ (c : Addr → Nat) (p : Addr) (n : Int) (ks : List Int) (L : Int → List Str), vs = [.ref p] ∧ ClaimsAt C c H p n ks L ∧ ks.length < 64 ∧
  ∀ (r : Addr) (ys : List Int) H', ys.Perm ks → ys.Pairwise (· ≤ ·) → Same H H' → H' r = some (.lst (ys.map V.int)) → Q (.ref r) H'
def spCPinned (C : Addr) : Sp := fun vs H Q _ => ∃ (c : Addr → Nat) (p : Addr) (n : Int) (ks : List Int) (L : Int → List Str) (D : List Str), vs = [.ref p] ∧ ClaimsAt C c H p n ks L ∧ (∀ i ∈ ks, ∀ x ∈ L i, x ∈ D) ∧ D.length < 64 ∧
  ∀ (r : Addr) (ys : List Str) H', ys.Nodup → sortedS ys = true → (∀ x, x ∈ ys ↔ ∃ i ∈ ks, x ∈ L i) → Same H H' → H' r = some (.lst (ys.map V.str)) → Q (.ref r) H'
def spUBegin (C : Addr) : Sp := fun vs H Q _ => ∃ (c : Addr → Nat) (p : Addr) (n : Int) (ts : List Int) (X : Int → List Nat), vs = [.ref p] ∧ UpAt C c H p n ts X ∧ n + 1 ∉ ts ∧ ts.length ≤ 1000 ∧
  ∀ H', UpAt C c H' p (n + 1) (ts ++ [n + 1]) (fun j => if j = n + 1 then [] else X j) → Stp (fun i => i = 3) c c H H' → Q (.int (n + 1)) H'
def spUAdd (C : Addr) : Sp := fun vs H Q _ => ∃ (c : Addr → Nat) (p : Addr) (n u a : Int) (t : List Nat) (ts : List Int) (X : Int → List Nat), vs = [.ref p, .int u, .int a, .str (SX.S t)] ∧ UpAt C c H p n ts X ∧ ts.length ≤ 1000 ∧ (X u).length + t.length ≤ 100000 ∧
  (u ∉ ts → Q .non H) ∧ (u ∈ ts → a ≠ (X u).length → Q (.int (X u).length) H) ∧
  (u ∈ ts → a = (X u).length → ∀ H', UpAt C c H' p n ts (fun j => if j = u then X u ++ t else X j) → Stp (fun i => i = 3) c c H H' → Q (.int (X u ++ t).length) H')
def spUFin (C : Addr) : Sp := fun vs H Q _ => ∃ (c : Addr → Nat) (p : Addr) (n u : Int) (ts : List Int) (X : Int → List Nat), vs = [.ref p, .int u] ∧ UpAt C c H p n ts X ∧
  (u ∉ ts → Q .non H) ∧ (u ∈ ts → ∀ H', UpAt C c H' p n (ts.filter fun j => decide (j ≠ u)) X → Stp (fun i => i = 3) c c H H' → Q (.str (SX.S (X u))) H')
def spUForget (C : Addr) : Sp := fun vs H Q _ => ∃ (c : Addr → Nat) (p : Addr) (n : Int) (ts : List Int) (X : Int → List Nat), vs = [.ref p] ∧ UpAt C c H p n ts X ∧
  ∀ c' H', UpAt C c' H' p n [] X → Stp (fun i => i = 3) c c' H H' → Q .non H'
section
variable {P : Program} {w : World} {K : PySem.W.Frag} {mg : Str → Option Value} {base : Heap} {C_Claims C_Uploads : Addr}
theorem ok_Claims___init__ (T : Txt w K mg C_Claims C_Uploads) : Mak P w K mg base 1 "Claims" C_Claims (spCInit C_Claims) := by
  refine mak_mk T.i_Claims sc_Claims___init__ (fun vs H Q E h => ?_) (fun f cdv A outer s H vs Q E hr h => ?_)
  · obtain ⟨p, dx, rfl, _⟩ := h
    rfl
  · obtain ⟨p, dx, rfl, hp, k⟩ := h
    refine ⟨_, (pss_cons (ps_fld (pv 0) (pe_int) rfl)
      (pss_one (ps_fld (pv 0) (pe_dnewK) rfl))), ?_⟩
    walk_at "lw"
    refine g_rsfld hp T.cl_Claims T.na_Claims_last (by decide) fun H2 h2 k2 => ?_
    walk_at "lw"
    refine g_dnew fun d H3 nd s3 hd => ?_
    walk_at "lw"
    refine g_rsfld (s3 _ _ h2) T.cl_Claims T.na_Claims_pins (by decide) fun H4 h4 k4 => ?_
    walk_at "lw"
    have ne : d ≠ p := Ne.symm (ne_of_none h2 nd)
    rw [f_Claims_mk] at h4
    refine k d H4 (by rw [← k2 d ne]; exact nd) h4 (by rw [k4 d ne]; exact hd) fun b o e hb => ?_
    rw [k4 b hb]
    refine s3 _ _ ?_
    rw [k2 b hb]; exact e
theorem ok_Uploads___init__ (T : Txt w K mg C_Claims C_Uploads) : Mak P w K mg base 1 "Uploads" C_Uploads (spUInit C_Uploads) := by
  refine mak_mk T.i_Uploads sc_Uploads___init__ (fun vs H Q E h => ?_) (fun f cdv A outer s H vs Q E hr h => ?_)
  · obtain ⟨p, dx, rfl, _⟩ := h
    rfl
  · obtain ⟨p, dx, rfl, hp, k⟩ := h
    refine ⟨_, (pss_cons (ps_fld (pv 0) (pe_int) rfl)
      (pss_one (ps_fld (pv 0) (pe_dnewK) rfl))), ?_⟩
    walk_at "lw"
    refine g_rsfld hp T.cl_Uploads T.na_Uploads_last (by decide) fun H2 h2 k2 => ?_
    walk_at "lw"
    refine g_dnew fun d H3 nd s3 hd => ?_
    walk_at "lw"
    refine g_rsfld (s3 _ _ h2) T.cl_Uploads T.na_Uploads_texts (by decide) fun H4 h4 k4 => ?_
    walk_at "lw"
    have ne : d ≠ p := Ne.symm (ne_of_none h2 nd)
    rw [f_Uploads_mk] at h4
    refine k d H4 (by rw [← k2 d ne]; exact nd) h4 (by rw [k4 d ne]; exact hd) fun b o e hb => ?_
    rw [k4 b hb]
    refine s3 _ _ ?_
    rw [k2 b hb]; exact e
theorem ok_Claims_begin (T : Txt w K mg C_Claims C_Uploads) : Met P w K mg base 1 C_Claims "begin" (spCBegin C_Claims) := by
  refine met_mk T.cl_Claims T.m_Claims_begin sc_Claims_begin (fun vs H Q E h => ?_) (fun f cdv A outer s H vs Q E hr h => ?_)
  · obtain ⟨c, p, n, ks, L, rfl, _⟩ := h
    rfl
  · obtain ⟨c, p, n, ks, L, rfl, W, hn, hz, k⟩ := h
    obtain ⟨dx, d, B, h1, h2, h3, h4, h5, h6, h7⟩ := W.ex
    have hu := hu_of hr
    refine ⟨_, (pss_cons (ps_fldaug (pv 0) (pe_int) in_add)
      (pss_cons (ps_dput hu (pe_fld (pv 0) rfl) (pe_fld (pv 0) rfl) (pe_dnewK) rfl)
      (pss_one (ps_ret (pe_fld (pv 0) rfl))))), ?_⟩
    walk_at "lw"
    refine g_rfldaugI h2 T.cl_Claims T.na_Claims_last f_Claims_last f_Claims_len (fun R r => by walk_at "lw"; exact r) fun H2 p2 k2 => ?_
    rw [f_Claims_put_last] at p2
    have npd : d ≠ p := Ne.symm (ne_of h2 h4 (by intro z; cases z))
    have d2 : H2 d = some (.dK (mkD ks fun i => .ref (B i))) := by rw [k2 d npd]; exact h4
    walk_at "lw"
    refine g_dnew fun q H3 nq s3 hq => ?_
    walk_at "lw"
    refine g_rfld (s3 _ _ p2) T.cl_Claims T.na_Claims_pins f_Claims_pins ?_
    walk_at "lw"
    refine g_rfld (s3 _ _ p2) T.cl_Claims T.na_Claims_last f_Claims_last ?_
    refine g_rdputI (s3 _ _ d2) (by rw [mkD_len]; omega) fun H4 d4 k4 => ?_
    rw [putK_mkD_new hn] at d4
    have p4 : H4 p = some (.ins C_Claims dx (f_Claims (.int (n + 1)) (.ref d))) := by rw [k4 p npd.symm]; exact s3 _ _ p2
    walk_at "lw"
    refine g_rfld p4 T.cl_Claims T.na_Claims_last f_Claims_last ?_
    walk_at "lw"
    have qd : q ≠ d := Ne.symm (ne_of_none d2 nq)
    have qp : q ≠ p := Ne.symm (ne_of_none p2 nq)
    have nq0 : H q = none := by rw [← k2 q qp]; exact nq
    have q4 : H4 q = some (.dK []) := by rw [k4 q qd]; exact hq
    have st1 : Stp (fun i => i = 1) c c H H2 := Stp.ch h2 h1 (fun xs z => by cases z) p2 k2
    have st2 : Stp (fun i => i = 1) c (Stp.paint c q 1) H2 H3 := L2x_sameN s3 nq
    have st3 : Stp (fun i => i = 1) (Stp.paint c q 1) (Stp.paint c q 1) H3 H4 := Stp.ch (s3 _ _ d2) (by rw [Stp.paint_ne (Ne.symm qd)]; exact h3) (fun xs z => by cases z) d4 k4
    refine k (Stp.paint c q 1) H4 ⟨dx, d, fun j => if j = n + 1 then q else B j, by rw [Stp.paint_ne qp.symm]; exact h1, p4, by rw [Stp.paint_ne qd.symm]; exact h3, ?_, ?_, ?_, ?_⟩ ((st1.trans st2).trans st3)
    · rw [d4]
      congr 2
      refine mkD_congr fun j hj => ?_
      by_cases e : j = n + 1 <;> simp [e]
    · intro i hi
      by_cases e : i = n + 1
      · simp only [if_pos e]
        exact ⟨Stp.paint_same, q4⟩
      · simp only [if_neg e]
        have hi' : i ∈ ks := by
          rcases List.mem_append.mp hi with z | z
          · exact z
          · exact absurd (List.mem_singleton.mp z) e
        obtain ⟨a, b⟩ := h5 i hi'
        have b2 : H2 (B i) = some (.dK (setD (L i))) := by rw [k2 _ (ne_of b h2 (by intro z; cases z))]; exact b
        exact ⟨by rw [Stp.paint_ne (ne_of_none b2 nq)]; exact a, by rw [k4 _ (h7 i hi')]; exact s3 _ _ b2⟩
    · intro i hi j hj e
      have mem : ∀ i, i ∈ ks ++ [n + 1] → i ≠ n + 1 → i ∈ ks ∧ B i ≠ q := fun i hi e => by
        have hi' : i ∈ ks := by
          rcases List.mem_append.mp hi with z | z
          · exact z
          · exact absurd (List.mem_singleton.mp z) e
        exact ⟨hi', ne_of_none (h5 i hi').2 nq0⟩
      by_cases e1 : i = n + 1
      · by_cases e2 : j = n + 1
        · rw [e1, e2]
        · simp only [if_pos e1, if_neg e2] at e
          exact absurd e.symm (mem j hj e2).2
      · by_cases e2 : j = n + 1
        · simp only [if_neg e1, if_pos e2] at e
          exact absurd e (mem i hi e1).2
        · simp only [if_neg e1, if_neg e2] at e
          exact h6 i (mem i hi e1).1 j (mem j hj e2).1 e
    · intro i hi
      by_cases e : i = n + 1
      · simp only [if_pos e]
        exact qd
      · simp only [if_neg e]
        rcases List.mem_append.mp hi with z | z
        · exact h7 i z
        · exact absurd (List.mem_singleton.mp z) e
theorem ok_Claims_is_open (T : Txt w K mg C_Claims C_Uploads) : Met P w K mg base 1 C_Claims "is_open" (spCOpen C_Claims) := by
  refine met_mk T.cl_Claims T.m_Claims_is_open sc_Claims_is_open (fun vs H Q E h => ?_) (fun f cdv A outer s H vs Q E hr h => ?_)
  · obtain ⟨c, p, n, i, ks, L, rfl, _⟩ := h
    rfl
  · obtain ⟨c, p, n, i, ks, L, rfl, W, k⟩ := h
    obtain ⟨dx, d, B, h1, h2, h3, h4, h5, h6, h7⟩ := W.ex
    have hu := hu_of hr
    refine ⟨_, (pss_one (ps_ret (pe_cmp (pc_din hu (pv 1) (pe_fld (pv 0) rfl)) rfl))), ?_⟩
    walk_at "lw"
    refine g_rfld h2 T.cl_Claims T.na_Claims_pins f_Claims_pins ?_
    refine g_rdinI (.of h4) ?_
    walk_at "lw"
    rw [valV_mkD, show (if i ∈ ks then some (V.ref (B i)) else none).isSome = decide (i ∈ ks) by split <;> simp_all]
    exact k
theorem ok_Claims_pin (T : Txt w K mg C_Claims C_Uploads) : Met P w K mg base 1 C_Claims "pin" (spCPin C_Claims) := by
  refine met_mk T.cl_Claims T.m_Claims_pin sc_Claims_pin (fun vs H Q E h => ?_) (fun f cdv A outer s H vs Q E hr h => ?_)
  · obtain ⟨c, p, n, i, x, ks, L, rfl, _⟩ := h
    rfl
  · obtain ⟨c, p, n, i, x, ks, L, rfl, W, hi, hz, k⟩ := h
    obtain ⟨dx, d, B, h1, h2, h3, h4, h5, h6, h7⟩ := W.ex
    have hu := hu_of hr
    refine ⟨_, (pss_one (ps_dput hu (pe_dget hu (pe_fld (pv 0) rfl) (pv 1) (fun _ _ => rfl)) (pv 2) (pe_bl) rfl)), ?_⟩
    walk_at "lw"
    refine g_rfld h2 T.cl_Claims T.na_Claims_pins f_Claims_pins ?_
    walk_at "lw"
    refine g_rdgetI (.of h4) (by rw [valV_mkD, if_pos hi]) ?_
    walk_at "lw"
    obtain ⟨ca, ha⟩ := h5 i hi
    refine g_rdputS ha (by unfold setD; rw [mkS_len]; omega) fun H2 a2 k2 => ?_
    rw [setD_put] at a2
    walk_at "lw"
    refine k H2 ⟨dx, d, B, h1, by rw [k2 _ (ne_of h2 ha (by intro z; cases z))]; exact h2, h3, by rw [k2 _ (Ne.symm (h7 i hi))]; exact h4, fun j hj => ?_, h6, h7⟩ (Stp.ch ha ca (fun xs z => by cases z) a2 k2)
    by_cases e : j = i
    · subst e
      simp only [if_pos]
      exact ⟨ca, a2⟩
    · simp only [if_neg e]
      obtain ⟨cj, hj'⟩ := h5 j hj
      exact ⟨cj, by rw [k2 _ (fun z => e (h6 j hj i hi z))]; exact hj'⟩
theorem ok_Claims_end (T : Txt w K mg C_Claims C_Uploads) : Met P w K mg base 1 C_Claims "end" (spCEnd C_Claims) := by
  refine met_mk T.cl_Claims T.m_Claims_end sc_Claims_end (fun vs H Q E h => ?_) (fun f cdv A outer s H vs Q E hr h => ?_)
  · obtain ⟨c, p, n, i, ks, L, rfl, _⟩ := h
    rfl
  · obtain ⟨c, p, n, i, ks, L, rfl, W, k⟩ := h
    obtain ⟨dx, d, B, h1, h2, h3, h4, h5, h6, h7⟩ := W.ex
    have hu := hu_of hr
    refine ⟨_, (pss_one (ps_if (pt_cmp (pc_din hu (pv 1) (pe_fld (pv 0) rfl))) (pss_one (ps_ddel (pe_fld (pv 0) rfl) (pv 1))) pss_nil)), ?_⟩
    walk_at "lw"
    refine g_rfld h2 T.cl_Claims T.na_Claims_pins f_Claims_pins ?_
    refine g_rdinI (.of h4) ?_
    rw [valV_mkD]
    by_cases hi : i ∈ ks
    · rw [if_pos hi]
      refine ⟨true, rfl, ?_⟩
      walk_at "lw"
      refine g_rfld h2 T.cl_Claims T.na_Claims_pins f_Claims_pins ?_
      walk_at "lw"
      refine g_rddelI h4 (by rw [valV_mkD, if_pos hi]; rfl) fun H2 d2 k2 => ?_
      rw [dropK_mkD] at d2
      walk_at "lw"
      have sub : ∀ j, j ∈ ks.filter (fun j => decide (j ≠ i)) → j ∈ ks := fun j hj => (List.mem_filter.mp hj).1
      refine k H2 ⟨dx, d, B, h1, by rw [k2 _ (ne_of h2 h4 (by intro z; cases z))]; exact h2, h3, d2, fun j hj => ?_, fun j hj l hl => h6 j (sub j hj) l (sub l hl), fun j hj => h7 j (sub j hj)⟩ (Stp.ch h4 h3 (fun xs z => by cases z) d2 k2)
      obtain ⟨a, b⟩ := h5 j (sub j hj)
      exact ⟨a, by rw [k2 _ (h7 j (sub j hj))]; exact b⟩
    · rw [if_neg hi]
      refine ⟨false, rfl, ?_⟩
      walk_at "lw"
      have e : ks.filter (fun j => decide (j ≠ i)) = ks := List.filter_eq_self.mpr fun j hj => decide_eq_true fun z => hi (by rw [← z]; exact hj)
      rw [e] at k
      exact k H W Stp.refl
theorem ok_Claims_numbers (T : Txt w K mg C_Claims C_Uploads) : Met P w K mg base 1 C_Claims "numbers" (spCNumbers C_Claims) := by
  refine met_mk T.cl_Claims T.m_Claims_numbers sc_Claims_numbers (fun vs H Q E h => ?_) (fun f cdv A outer s H vs Q E hr h => ?_)
  · obtain ⟨c, p, n, ks, L, rfl, _⟩ := h
    rfl
  · obtain ⟨c, p, n, ks, L, rfl, W, hz, k⟩ := h
    obtain ⟨dx, d, B, h1, h2, h3, h4, h5, h6, h7⟩ := W.ex
    refine ⟨_, (pss_one (ps_ret (pe_callB (call_sortedDI rfl) (by rfl) T.n_sorted (by decide +kernel) (pa_cons (pe_fld (pv 0) rfl) pa_nil)))), ?_⟩
    walk_at "lw"
    refine g_rfld h2 T.cl_Claims T.na_Claims_pins f_Claims_pins ?_
    walk_at "lw"
    refine ⟨d, _, ks, rfl, .of h4, mkD_keys, hz, fun ys r hp hs hr => ?_⟩
    walk_at "lw"
    exact k r ys _ hp hs (Same.new hr) upd_same
/-- what is found behind the first i claims -/
def fnd (ks : List Int) (L : Int → List Str) (i : Nat) : List Str := (ks.take i).foldl (fun a k => addTo a (ded (L k))) []
theorem fnd_next {ks : List Int} {L : Int → List Str} {i : Nat} {x : Int} (h : ks[i]? = some x) : fnd ks L (i + 1) = addTo (fnd ks L i) (ded (L x)) := by
  unfold fnd
  rw [take_ok h, List.foldl_append]
  rfl
theorem fnd_nodup {ks : List Int} {L : Int → List Str} : ∀ {i : Nat}, (fnd ks L i).Nodup := by
  intro i
  unfold fnd
  generalize ks.take i = l
  have : ∀ (l : List Int) (a : List Str), a.Nodup → (l.foldl (fun a k => addTo a (ded (L k))) a).Nodup := by
    intro l
    induction l with
    | nil => intro a h; exact h
    | cons y r ih => intro a h; exact ih _ (addTo_nodup _ _ h)
  exact this l [] List.nodup_nil
theorem ded_mem {l : List Str} {x : Str} : x ∈ ded l ↔ x ∈ l := by
  unfold ded
  rw [addTo_mem]
  simp
theorem fnd_mem {ks : List Int} {L : Int → List Str} {x : Str} : x ∈ fnd ks L ks.length ↔ ∃ i ∈ ks, x ∈ L i := by
  unfold fnd
  rw [List.take_length]
  have : ∀ (l : List Int) (a : List Str), x ∈ l.foldl (fun a k => addTo a (ded (L k))) a ↔ x ∈ a ∨ ∃ i ∈ l, x ∈ L i := by
    intro l
    induction l with
    | nil => intro a; simp
    | cons y r ih =>
      intro a
      show x ∈ r.foldl _ (addTo a (ded (L y))) ↔ _
      rw [ih, addTo_mem, ded_mem, or_assoc]
      simp
  rw [this]
  simp
theorem fnd_in {ks : List Int} {L : Int → List Str} {D : List Str} (h : ∀ i ∈ ks, ∀ x ∈ L i, x ∈ D) : ∀ {i : Nat}, ∀ x ∈ fnd ks L i, x ∈ D := by
  intro i x
  unfold fnd
  have : ∀ (l : List Int) (a : List Str), (∀ i ∈ l, i ∈ ks) → (∀ y ∈ a, y ∈ D) → ∀ y ∈ l.foldl (fun a k => addTo a (ded (L k))) a, y ∈ D := by
    intro l
    induction l with
    | nil => intro a _ h; exact h
    | cons y r ih =>
      intro a hl ha
      refine ih _ (fun i hi => hl i (List.mem_cons_of_mem _ hi)) fun z hz => ?_
      rcases (addTo_mem _ _ _).mp hz with q | q
      · exact ha z q
      · exact h y (hl y List.mem_cons_self) z (ded_mem.mp q)
  exact this _ [] (fun i hi => List.mem_of_mem_take hi) (fun y hy => nomatch hy) x
theorem ok_Claims_pinned (T : Txt w K mg C_Claims C_Uploads) : Met P w K mg base 1 C_Claims "pinned" (spCPinned C_Claims) := by
  refine met_mk T.cl_Claims T.m_Claims_pinned sc_Claims_pinned (fun vs H Q E h => ?_) (fun f cdv A outer s H vs Q E hr h => ?_)
  · obtain ⟨c, p, n, ks, L, D, rfl, _⟩ := h
    rfl
  · obtain ⟨c, p, n, ks, L, D, rfl, W, hD, hz, k⟩ := h
    obtain ⟨dx, d, B, h1, h2, h3, h4, h5, h6, h7⟩ := W.ex
    have hu := hu_of hr
    refine ⟨_, (pss_cons (ps_set (i := 1) sc_Claims_pinned.nd rfl (by first | exact Or.inl rfl | exact Or.inr rfl) (pe_dnewK))
      (pss_cons (ps_lock (ps_for PassesOwn.never rfl (pi_keys (pe_fld (pv 0) rfl)) (pg_name (i := 2) sc_Claims_pinned.nd rfl (by first | exact Or.inl rfl | exact Or.inr rfl)) (pss_one (ps_lock (ps_for PassesOwn.never rfl (pi_keys (pe_dget hu (pe_fld (pv 0) rfl) (pv 2) (fun _ _ => rfl))) (pg_name (i := 3) sc_Claims_pinned.nd rfl (by first | exact Or.inl rfl | exact Or.inr rfl)) (pss_one (ps_dput hu (pv 1) (pv 3) (pe_bl) rfl)))))))
      (pss_one (ps_ret (pe_callB (call_sortedD rfl) (by rfl) T.n_sorted (by decide +kernel) (pa_cons (pv 1) pa_nil)))))), ?_⟩
    walk_at "lw"
    refine g_dnew fun q H2 nq s2 hq => ?_
    walk_at "lw"
    have p2 := s2 _ _ h2
    have d2 := s2 _ _ h4
    have qd : q ≠ d := Ne.symm (ne_of_none h4 nq)
    have qp : q ≠ p := Ne.symm (ne_of_none h2 nq)
    refine g_lock d2 fun od H3 d3 k3 => ?_
    have p3 : H3 p = some (.ins C_Claims dx (f_Claims (.int n) (.ref d))) := by rw [k3 p (ne_of h2 h4 (by intro z; cases z))]; exact p2
    walk_at "lw"
    refine g_rfld p3 T.cl_Claims T.na_Claims_pins f_Claims_pins ?_
    refine g_ritK d3 ?_
    refine for_at walk_ks (fun i σ H' => H' d = some (.frz od (.dK (mkD ks fun i => .ref (B i)))) ∧ H' q = some (.dK (mkS (fnd ks L i) fun _ => .bl true)) ∧ (∀ b, b ≠ q → H' b = H3 b) ∧ ∃ v2 v3 : Option V, σ = [some (.ref p), some (.ref q), v2, v3]) ⟨d3, by rw [k3 q qd]; exact hq, fun b _ => rfl, none, none, rfl⟩ (fun i σ H' h => h.1) ?_ ?_
    · rintro i x σ H' hxi ⟨d4, q4, k4, v2, v3, rfl⟩
      rw [mkD_kV] at hxi
      obtain ⟨j, hj, rfl⟩ := map_at hxi
      have hjm := List.mem_of_getElem? hj
      obtain ⟨ca, ha⟩ := h5 j hjm
      have aq : B j ≠ q := ne_of_none ha nq
      have ad := h7 j hjm
      have a4 : H' (B j) = some (.dK (setD (L j))) := by rw [k4 _ aq, k3 _ ad]; exact s2 _ _ ha
      have p4 : H' p = some (.ins C_Claims dx (f_Claims (.int n) (.ref d))) := by rw [k4 p qp.symm]; exact p3
      walk_at "lw"
      refine g_lock a4 fun oa H5 a5 k5 => ?_
      walk_at "lw"
      refine g_rfld (a := p) (by rw [k5 p (ne_of p4 a4 (by intro z; cases z))]; exact p4) T.cl_Claims T.na_Claims_pins f_Claims_pins ?_
      walk_at "lw"
      refine g_rdgetI (a := d) (.inr ⟨od, by rw [k5 d ad.symm]; exact d4⟩) (by rw [valV_mkD, if_pos hjm]) ?_
      refine g_ritK a5 ?_
      refine for_at walk_ks (fun m σ H6 => H6 (B j) = some (.frz oa (.dK (setD (L j)))) ∧ H6 q = some (.dK (mkS (addTo (fnd ks L i) ((ded (L j)).take m)) fun _ => .bl true)) ∧ (∀ b, b ≠ q → H6 b = H5 b) ∧ ∃ v3 : Option V, σ = [some (.ref p), some (.ref q), some (.int j), v3]) ⟨a5, by rw [k5 q aq.symm]; exact q4, fun b _ => rfl, _, rfl⟩ (fun i σ H' h => h.1) ?_ ?_
      · rintro m x σ H6 hxm ⟨a6, q6, k6, v3, rfl⟩
        rw [show ((setD (L j)).map fun kv => kV kv.1) = (ded (L j)).map V.str from mkS_kV] at hxm
        obtain ⟨y, hy, rfl⟩ := map_at hxm
        walk_at "lw"
        refine g_rdputS q6 ?_ fun H7 q7 k7 => ?_
        · rw [mkS_len]
          have : (addTo (fnd ks L i) ((ded (L j)).take m)).length ≤ D.length := nodup_few (addTo_nodup _ _ fnd_nodup) fun z hz => by
            rcases (addTo_mem _ _ _).mp hz with e | e
            · exact fnd_in hD z e
            · exact hD j hjm z (ded_mem.mp (List.mem_of_mem_take e))
          omega
        · walk_at "lw"
          refine ⟨by rw [k7 _ aq]; exact a6, ?_, fun b hb => by rw [k7 b hb]; exact k6 b hb, _, rfl⟩
          rw [q7, take_ok hy, addTo_snoc]
          by_cases e : y ∈ addTo (fnd ks L i) ((ded (L j)).take m)
          · rw [if_pos e, putK_mkS_old e]
            congr 2
            exact mkS_congr fun z _ => by split <;> rfl
          · rw [if_neg e, putK_mkS_new e]
            congr 2
            exact mkS_congr fun z _ => by split <;> rfl
      · rintro σ H6 ⟨a6, q6, k6, v3, rfl⟩
        rw [show ((setD (L j)).map fun kv => kV kv.1).length = (ded (L j)).length by unfold setD; rw [mkS_kV, List.length_map], List.take_length, ← fnd_next hj] at q6
        refine ⟨a6, ?_⟩
        have fin : ∀ b, b ≠ q → (upd H6 (B j) (.dK (setD (L j)))) b = H3 b := fun b hb => by
          by_cases e : b = B j
          · subst e
            rw [upd_same, ← k4 _ hb, a4]
          · rw [upd_ne e, k6 b hb, k5 b e, k4 b hb]
        show _ ∧ _
        exact ⟨by rw [fin d qd.symm]; exact d3, by rw [upd_ne aq.symm]; exact q6, fin, _, _, rfl⟩
    · rintro σ H6 ⟨d6, q6, k6, v2, v3, rfl⟩
      rw [mkD_kV, List.length_map] at q6
      refine ⟨d6, ?_⟩
      have fin : ∀ b, b ≠ q → (upd H6 d (.dK (mkD ks fun i => .ref (B i)))) b = H2 b := fun b hb => by
        by_cases e : b = d
        · subst e
          rw [upd_same, d2]
        · rw [upd_ne e, k6 b hb, k3 b e]
      have q7 : (upd H6 d (.dK (mkD ks fun i => .ref (B i)))) q = some (.dK (mkS (fnd ks L ks.length) fun _ => .bl true)) := by rw [upd_ne qd]; exact q6
      generalize upd H6 d (.dK (mkD ks fun i => .ref (B i))) = H7 at fin q7
      walk_at "lw"
      have hl : (fnd ks L ks.length).length ≤ D.length := nodup_few fnd_nodup fun z hz => fnd_in hD z hz
      refine ⟨q, _, _, rfl, .of q7, mkS_keys, by omega, fun ys r hp hs hr => ?_⟩
      walk_at "lw"
      have sm : Same H H7 := fun b o e => by
        rw [fin b (ne_of_none e nq)]
        exact s2 _ _ e
      exact k r ys _ (hp.nodup_iff.mpr fnd_nodup) hs (fun x => by rw [hp.mem_iff, fnd_mem]) (sm.thenNew hr) upd_same
theorem ok_Uploads_begin (T : Txt w K mg C_Claims C_Uploads) : Met P w K mg base 1 C_Uploads "begin" (spUBegin C_Uploads) := by
  refine met_mk T.cl_Uploads T.m_Uploads_begin sc_Uploads_begin (fun vs H Q E h => ?_) (fun f cdv A outer s H vs Q E hr h => ?_)
  · obtain ⟨c, p, n, ts, X, rfl, _⟩ := h
    rfl
  · obtain ⟨c, p, n, ts, X, rfl, W, hn, hz, k⟩ := h
    obtain ⟨dx, d, h1, h2, h3, h4⟩ := W.ex
    have hu := hu_of hr
    refine ⟨_, (pss_cons (ps_fldaug (pv 0) (pe_int) in_add)
      (pss_cons (ps_dput hu (pe_fld (pv 0) rfl) (pe_fld (pv 0) rfl) (pe_str) rfl)
      (pss_one (ps_ret (pe_fld (pv 0) rfl))))), ?_⟩
    walk_at "lw"
    refine g_rfldaugI h2 T.cl_Uploads T.na_Uploads_last f_Uploads_last f_Uploads_len (fun R r => by walk_at "lw"; exact r) fun H2 p2 k2 => ?_
    rw [f_Uploads_put_last] at p2
    have npd : d ≠ p := Ne.symm (ne_of h2 h4 (by intro z; cases z))
    have d2 : H2 d = some (.dK (mkD ts fun i => .str (SX.S (X i)))) := by rw [k2 d npd]; exact h4
    walk_at "lw"
    refine g_rfld p2 T.cl_Uploads T.na_Uploads_texts f_Uploads_texts ?_
    walk_at "lw"
    refine g_rfld p2 T.cl_Uploads T.na_Uploads_last f_Uploads_last ?_
    refine g_rdputI d2 (by rw [mkD_len]; omega) fun H4 d4 k4 => ?_
    rw [putK_mkD_new hn] at d4
    have p4 : H4 p = some (.ins C_Uploads dx (f_Uploads (.int (n + 1)) (.ref d))) := by rw [k4 p npd.symm]; exact p2
    walk_at "lw"
    refine g_rfld p4 T.cl_Uploads T.na_Uploads_last f_Uploads_last ?_
    walk_at "lw"
    have st1 : Stp (fun i => i = 3) c c H H2 := Stp.ch h2 h1 (fun xs z => by cases z) p2 k2
    have st3 : Stp (fun i => i = 3) c c H2 H4 := Stp.ch d2 h3 (fun xs z => by cases z) d4 k4
    refine k H4 ⟨dx, d, h1, p4, h3, ?_⟩ (st1.trans st3)
    rw [d4]
    congr 2
    refine mkD_congr fun j hj => ?_
    by_cases e : j = n + 1
    · simp only [if_pos e]
      rw [← show ("" : Str) = SX.S [] by decide +kernel]
    · simp only [if_neg e]
theorem ok_Uploads_finish (T : Txt w K mg C_Claims C_Uploads) : Met P w K mg base 1 C_Uploads "finish" (spUFin C_Uploads) := by
  refine met_mk T.cl_Uploads T.m_Uploads_finish sc_Uploads_finish (fun vs H Q E h => ?_) (fun f cdv A outer s H vs Q E hr h => ?_)
  · obtain ⟨c, p, n, u, ts, X, rfl, _⟩ := h
    rfl
  · obtain ⟨c, p, n, u, ts, X, rfl, W, kn, ky⟩ := h
    obtain ⟨dx, d, h1, h2, h3, h4⟩ := W.ex
    have hu := hu_of hr
    refine ⟨_, (pss_cons (ps_if (pt_cmp (pc_dnotin hu (pv 1) (pe_fld (pv 0) rfl))) (pss_one (ps_ret (pe_non))) pss_nil)
      (pss_cons (ps_set (i := 2) sc_Uploads_finish.nd rfl (by first | exact Or.inl rfl | exact Or.inr rfl) (pe_dget hu (pe_fld (pv 0) rfl) (pv 1) (fun _ _ => rfl)))
      (pss_cons (ps_ddel (pe_fld (pv 0) rfl) (pv 1))
      (pss_one (ps_ret (pv 2)))))), ?_⟩
    walk_at "lw"
    refine g_rfld h2 T.cl_Uploads T.na_Uploads_texts f_Uploads_texts ?_
    refine g_rdnotinI (.of h4) ?_
    rw [valV_mkD]
    by_cases hi : u ∈ ts
    · rw [if_pos hi]
      refine ⟨false, rfl, ?_⟩
      walk_at "lw"
      refine g_rfld h2 T.cl_Uploads T.na_Uploads_texts f_Uploads_texts ?_
      walk_at "lw"
      refine g_rdgetI (.of h4) (by rw [valV_mkD, if_pos hi]) ?_
      walk_at "lw"
      refine g_rfld h2 T.cl_Uploads T.na_Uploads_texts f_Uploads_texts ?_
      walk_at "lw"
      refine g_rddelI h4 (by rw [valV_mkD, if_pos hi]; rfl) fun H2 d2 k2 => ?_
      rw [dropK_mkD] at d2
      walk_at "lw"
      exact ky hi H2 ⟨dx, d, h1, by rw [k2 _ (ne_of h2 h4 (by intro z; cases z))]; exact h2, h3, d2⟩ (Stp.ch h4 h3 (fun xs z => by cases z) d2 k2)
    · rw [if_neg hi]
      refine ⟨true, rfl, ?_⟩
      walk_at "lw"
      exact kn hi
theorem ok_Uploads_forget (T : Txt w K mg C_Claims C_Uploads) : Met P w K mg base 1 C_Uploads "forget" (spUForget C_Uploads) := by
  refine met_mk T.cl_Uploads T.m_Uploads_forget sc_Uploads_forget (fun vs H Q E h => ?_) (fun f cdv A outer s H vs Q E hr h => ?_)
  · obtain ⟨c, p, n, ts, X, rfl, _⟩ := h
    rfl
  · obtain ⟨c, p, n, ts, X, rfl, W, k⟩ := h
    obtain ⟨dx, d, h1, h2, h3, h4⟩ := W.ex
    refine ⟨_, (pss_one (ps_fld (pv 0) (pe_dnewK) rfl)), ?_⟩
    walk_at "lw"
    refine g_dnew fun q H2 nq s2 hq => ?_
    walk_at "lw"
    have qp : q ≠ p := Ne.symm (ne_of_none h2 nq)
    refine g_rsfld (s2 _ _ h2) T.cl_Uploads T.na_Uploads_texts f_Uploads_len fun H3 p3 k3 => ?_
    rw [f_Uploads_put_texts] at p3
    walk_at "lw"
    have st2 : Stp (fun i => i = 3) c (Stp.paint c q 3) H H2 := L2x_sameN s2 nq
    have st3 : Stp (fun i => i = 3) (Stp.paint c q 3) (Stp.paint c q 3) H2 H3 := Stp.ch (s2 _ _ h2) (by rw [Stp.paint_ne qp.symm]; exact h1) (fun xs z => by cases z) p3 k3
    exact k (Stp.paint c q 3) H3 ⟨dx, q, by rw [Stp.paint_ne qp.symm]; exact h1, p3, Stp.paint_same, by rw [k3 q qp]; exact hq⟩ (st2.trans st3)
theorem ok_Uploads_add_part (T : Txt w K mg C_Claims C_Uploads) : Met P w K mg base 1 C_Uploads "add_part" (spUAdd C_Uploads) := by
  refine met_mk T.cl_Uploads T.m_Uploads_add_part sc_Uploads_add_part (fun vs H Q E h => ?_) (fun f cdv A outer s H vs Q E hr h => ?_)
  · obtain ⟨c, p, n, u, a, t, ts, X, rfl, _⟩ := h
    rfl
  · obtain ⟨c, p, n, u, a, t, ts, X, rfl, W, hz, hl, kn, ke, ky⟩ := h
    obtain ⟨dx, d, h1, h2, h3, h4⟩ := W.ex
    have hu := hu_of hr
    refine ⟨_, (pss_cons (ps_if (pt_cmp (pc_dnotin hu (pv 1) (pe_fld (pv 0) rfl))) (pss_one (ps_ret (pe_non))) pss_nil)
      (pss_cons (ps_if (pt_cmpR op_eq (pv 2) (pe_callB call_len_str' (by rfl) T.n_len (by decide +kernel) (pa_cons (pe_dget hu (pe_fld (pv 0) rfl) (pv 1) (fun _ _ => rfl)) pa_nil)) (nomark _)) (pss_one (ps_dput hu (pe_fld (pv 0) rfl) (pv 1) (pe_op op_cat_str (pe_dget hu (pe_fld (pv 0) rfl) (pv 1) (fun _ _ => rfl)) (pv 3)) rfl)) pss_nil)
      (pss_one (ps_ret (pe_callB call_len_str' (by rfl) T.n_len (by decide +kernel) (pa_cons (pe_dget hu (pe_fld (pv 0) rfl) (pv 1) (fun _ _ => rfl)) pa_nil)))))), ?_⟩
    walk_at "lw"
    refine g_rfld h2 T.cl_Uploads T.na_Uploads_texts f_Uploads_texts ?_
    refine g_rdnotinI (.of h4) ?_
    rw [valV_mkD]
    by_cases hi : u ∈ ts
    · rw [if_pos hi]
      refine ⟨false, rfl, ?_⟩
      walk_at "lw"
      refine g_rfld h2 T.cl_Uploads T.na_Uploads_texts f_Uploads_texts ?_
      walk_at "lw"
      refine g_rdgetI (.of h4) (by rw [valV_mkD, if_pos hi]) ?_
      walk_at "lw"
      refine g_lenT (by rw [SX.S_len]; exact Nat.le_trans (show (X u).length ≤ 100000 by omega) (by decide)) ?_
      rw [SX.S_len]
      walk_at "lw"
      refine if2 (fun he => ?_) (fun he => ?_)
      · have he := int_eq.mp he
        walk_at "lw"
        refine g_rfld h2 T.cl_Uploads T.na_Uploads_texts f_Uploads_texts ?_
        walk_at "lw"
        refine g_rdgetI (.of h4) (by rw [valV_mkD, if_pos hi]) ?_
        walk_at "lw"
        refine g_cat_str (a := SX.S (X u)) (b := SX.S t) (by rw [SX.S_len, SX.S_len]; exact Nat.le_trans hl (by decide)) ?_
        rw [SX.S_cat]
        walk_at "lw"
        refine g_rfld h2 T.cl_Uploads T.na_Uploads_texts f_Uploads_texts ?_
        walk_at "lw"
        refine g_rdputI h4 (by rw [mkD_len]; omega) fun H2 d2 k2 => ?_
        rw [putK_mkD_old hi] at d2
        have p2 : H2 p = some (.ins C_Uploads dx (f_Uploads (.int n) (.ref d))) := by rw [k2 p (ne_of h2 h4 (by intro z; cases z))]; exact h2
        walk_at "lw"
        refine g_rfld p2 T.cl_Uploads T.na_Uploads_texts f_Uploads_texts ?_
        walk_at "lw"
        refine g_rdgetI (.of d2) (by rw [valV_mkD, if_pos hi, if_pos rfl]) ?_
        walk_at "lw"
        refine g_lenT (by rw [SX.S_len, List.length_append]; exact Nat.le_trans hl (by decide)) ?_
        rw [SX.S_len]
        walk_at "lw"
        refine ky hi he H2 ⟨dx, d, h1, p2, h3, ?_⟩ (Stp.ch h4 h3 (fun xs z => by cases z) d2 k2)
        rw [d2]
        congr 2
        refine mkD_congr fun j hj => ?_
        by_cases e : j = u
        · simp only [if_pos e]
        · simp only [if_neg e]
      · have he : a ≠ (X u).length := fun z => he (by rw [z])
        walk_at "lw"
        refine g_rfld h2 T.cl_Uploads T.na_Uploads_texts f_Uploads_texts ?_
        walk_at "lw"
        refine g_rdgetI (.of h4) (by rw [valV_mkD, if_pos hi]) ?_
        walk_at "lw"
        refine g_lenT (by rw [SX.S_len]; exact Nat.le_trans (show (X u).length ≤ 100000 by omega) (by decide)) ?_
        rw [SX.S_len]
        walk_at "lw"
        exact ke hi he
    · rw [if_neg hi]
      refine ⟨true, rfl, ?_⟩
      walk_at "lw"
      exact kn hi
end
end Lw

/-! ## the law's steps -/
namespace Lw
open PySem L2
open PyProof.Rows (envOfC sortedS)
def abcde : List Str := ([97, 98, 99, 100, 101] : List Nat).map fun c => SX.S [c]
structure PinsAt (c : Addr → Nat) (H : Hp) (d : Addr) (ks : List Int) (L : Int → List Str) : Prop where
  ex : ∃ (B : Int → Addr), c d = 2 ∧ H d = some (.dK (mkD ks fun i => .ref (B i))) ∧ ∀ i ∈ ks, c (B i) = 2 ∧ H (B i) = some (.lst ((L i).map V.str))
theorem PinsAt.frame {I : Nat → Prop} {c c' : Addr → Nat} {H H' : Hp} {d : Addr} {ks : List Int} {L : Int → List Str} (h : PinsAt c H d ks L) (s : Stp I c c' H H') (hi : ¬ I 2) : PinsAt c' H' d ks L := by
  obtain ⟨B, h1, h2, h3⟩ := h.ex
  refine ⟨B, by rw [s.col _ _ h2, h1], s.keep _ _ h2 (by rw [h1]; exact hi), fun i hm => ?_⟩
  obtain ⟨a, b⟩ := h3 i hm
  exact ⟨by rw [s.col _ _ b, a], s.keep _ _ b (by rw [a]; exact hi)⟩
structure TxAt (c : Addr → Nat) (H : Hp) (d : Addr) (ts : List Int) (X : Int → List Nat) : Prop where
  cd : c d = 4
  hd : H d = some (.dK (mkD ts fun i => .str (SX.S (X i))))
theorem TxAt.frame {I : Nat → Prop} {c c' : Addr → Nat} {H H' : Hp} {d : Addr} {ts : List Int} {X : Int → List Nat} (h : TxAt c H d ts X) (s : Stp I c c' H H') (hi : ¬ I 4) : TxAt c' H' d ts X :=
  ⟨by rw [s.col _ _ h.hd, h.cd], s.keep _ _ h.hd (by rw [h.cd]; exact hi)⟩
/-- what a step leaves: a new number, or none and no more than there were -/
def Grew (n n' : Int) (l l' : Nat) : Prop := (n' = n + 1 ∧ l' = l + 1) ∨ (n' = n ∧ l' ≤ l)
def spStep (C : Addr) : Sp := fun vs H Q _ => ∃ (c : Addr → Nat) (S p d : Addr) (n : Int) (ks : List Int) (L : Int → List Str) (m : Nat), vs = [.ref S, .ref p, .ref d, .int n] ∧ StateAt c H S ∧ ClaimsAt C c H p n ks L ∧ PinsAt c H d ks L ∧
  0 ≤ n ∧ n ≤ 1000 ∧ (∀ k ∈ ks, k ≤ n) ∧ ks.length ≤ 1000 ∧ (∀ i, ∀ x ∈ L i, x ∈ abcde) ∧ (∀ i, (L i).length ≤ m) ∧ m ≤ 1000 ∧
  ∀ c' H' n' ks' L', StateAt c' H' S → ClaimsAt C c' H' p n' ks' L' → PinsAt c' H' d ks' L' → Grew n n' ks.length ks'.length → (∀ k ∈ ks', k ≤ n') → (∀ i, ∀ x ∈ L' i, x ∈ abcde) → (∀ i, (L' i).length ≤ m + 1) → Stp (fun i => i ≤ 2) c c' H H' → Q (.bl true) H'
def spPinned : Sp := fun vs H Q _ => ∃ (c : Addr → Nat) (d : Addr) (ks : List Int) (L : Int → List Str), vs = [.ref d] ∧ PinsAt c H d ks L ∧ (∀ i, ∀ x ∈ L i, x ∈ abcde) ∧ (∀ i, (L i).length ≤ 60) ∧ ks.length ≤ 60 ∧
  ∀ (r : Addr) (ys : List Str) H', ys.Nodup → sortedS ys = true → (∀ x, x ∈ ys ↔ ∃ i ∈ ks, x ∈ L i) → Same H H' → H' r = some (.lst (ys.map V.str)) → Q (.ref r) H'
theorem ded_few {l : List Str} (h : ∀ x ∈ l, x ∈ abcde) : (ded l).length ≤ 1000 := by
  have := nodup_few (addTo_nodup l [] List.nodup_nil) (D := abcde) fun x hx => h x (ded_mem.mp hx)
  exact Nat.le_trans this (by decide)
theorem letter_at {r : Int} (h0 : 0 ≤ r) (h1 : r < 5) : ∃ ch : Nat, atI (("abcde" : Str).cps.toList) r = some ch ∧ SX.S [ch] ∈ abcde := by
  rw [show ("abcde" : Str).cps.toList = [97, 98, 99, 100, 101] by decide +kernel]
  have : r = 0 ∨ r = 1 ∨ r = 2 ∨ r = 3 ∨ r = 4 := by omega
  rcases this with rfl | rfl | rfl | rfl | rfl
  · exact ⟨97, rfl, List.mem_map.mpr ⟨97, by decide, rfl⟩⟩
  · exact ⟨98, rfl, List.mem_map.mpr ⟨98, by decide, rfl⟩⟩
  · exact ⟨99, rfl, List.mem_map.mpr ⟨99, by decide, rfl⟩⟩
  · exact ⟨100, rfl, List.mem_map.mpr ⟨100, by decide, rfl⟩⟩
  · exact ⟨101, rfl, List.mem_map.mpr ⟨101, by decide, rfl⟩⟩
section
variable {P : Program} {w : World} {K : PySem.W.Frag} {mg : Str → Option Value} {base : Heap} {C_Claims C_Uploads : Addr}
theorem ok__law_claim_step (T : Txt w K mg C_Claims C_Uploads) : Cal P w K mg base 2 "_law_claim_step" (spStep C_Claims) := by
  have c__law_take : Cal P w K mg base 1 "_law_take" spTake := ok__law_take T
  have t_Claims_begin : Met P w K mg base 1 C_Claims "begin" (spCBegin C_Claims) := ok_Claims_begin T
  have t_Claims_is_open : Met P w K mg base 1 C_Claims "is_open" (spCOpen C_Claims) := ok_Claims_is_open T
  have t_Claims_pin : Met P w K mg base 1 C_Claims "pin" (spCPin C_Claims) := ok_Claims_pin T
  have t_Claims_end : Met P w K mg base 1 C_Claims "end" (spCEnd C_Claims) := ok_Claims_end T
  refine cal_mk T.d__law_claim_step sc__law_claim_step (fun vs H Q E h => ?_) (fun f cdv A outer s H vs Q E hr h => ?_)
  · obtain ⟨c, S, p, d, n, ks, L, m, rfl, _⟩ := h
    rfl
  · obtain ⟨c, S, p, d, n, ks, L, m, rfl, S0, W0, P0, n0, n1, hks, hkl, hL, hm, hm1, k⟩ := h
    have hu := hu_of hr
    refine ⟨_, (pss_cons (ps_set (i := 4) sc__law_claim_step.nd rfl (by first | exact Or.inl rfl | exact Or.inr rfl) (pe_c c__law_take hr (by decide) rfl (pa_cons (pv 0) (pa_cons (pe_int) pa_nil))))
      (pss_cons (ps_set (i := 5) sc__law_claim_step.nd rfl (by first | exact Or.inl rfl | exact Or.inr rfl) (pe_c c__law_take hr (by decide) rfl (pa_cons (pv 0) (pa_cons (pe_op op_add (pv 3) (pe_int)) pa_nil))))
      (pss_cons (ps_if (pt_cmpR op_eq (pv 4) (pe_int) (nomark _)) (pss_cons (ps_dput hu (pv 2) (pe_op op_add (pv 3) (pe_int)) (pe_lst pa_nil) rfl)
      (pss_one (ps_ret (pe_cmpR op_eq (pe_mt0 t_Claims_begin hr (by decide) (pv 1)) (pe_op op_add (pv 3) (pe_int)) (nomark _))))) pss_nil)
      (pss_cons (ps_if (PW.pt (pw_and (pt_cmpR op_eq (pv 4) (pe_int) (nomark _)) (pw_and1 (pt_cmp (pc_din hu (pv 5) (pv 2)))))) (pss_cons (ps_set (i := 6) sc__law_claim_step.nd rfl (by first | exact Or.inl rfl | exact Or.inr rfl) (pe_ix ix_str (pe_str) (pe_c c__law_take hr (by decide) rfl (pa_cons (pv 0) (pa_cons (pe_int) pa_nil))) (fun _ _ => rfl)))
      (pss_cons (ps_dput hu (pv 2) (pv 5) (pe_op op_cat (pe_dget hu (pv 2) (pv 5) (fun _ _ => rfl)) (pe_lst (pa_cons (pv 6) pa_nil))) rfl)
      (pss_one (ps_ret (pe_cmpR op_isN' (pe_mt t_Claims_pin hr (by decide) (pv 1) (pa_cons (pv 5) (pa_cons (pv 6) pa_nil))) (pe_non) (nomark _)))))) pss_nil)
      (pss_cons (ps_if (pt_cmpR op_eq (pv 4) (pe_int) (nomark _)) (pss_cons (ps_if (pt_cmp (pc_din hu (pv 5) (pv 2))) (pss_one (ps_expr (pe_dpop1 (pv 2) (pv 5) ⟨rfl, by rfl, rfl, rfl⟩))) pss_nil)
      (pss_one (ps_ret (pe_cmpR op_isN' (pe_mt t_Claims_end hr (by decide) (pv 1) (pa_cons (pv 5) pa_nil)) (pe_non) (nomark _))))) pss_nil)
      (pss_one (ps_ret (pe_cmpR op_eq (pe_callB call_repr_bool (by rfl) T.n_repr (by decide +kernel) (pa_cons (pe_mt t_Claims_is_open hr (by decide) (pv 1) (pa_cons (pv 5) pa_nil)) pa_nil)) (pe_callB call_repr_bool (by rfl) T.n_repr (by decide +kernel) (pa_cons (pe_cmp (pc_din hu (pv 5) (pv 2)) rfl) pa_nil)) (nomark _))))))))), ?_⟩
    walk_at "lw"
    refine ⟨c, S, 4, rfl, S0, by decide, by decide, fun kind c1 H1 k0 k1 S1 st1 => ?_⟩
    walk_at "lw"
    refine ⟨c1, S, n + 2, rfl, S1, by omega, by omega, fun cl c2 H2 _ _ S2 st2 => ?_⟩
    have st2 := st1.trans st2
    have W2 := W0.frame st2 (by decide)
    have P2 := P0.frame st2 (by decide)
    have fresh : n + 1 ∉ ks := fun z => by have := hks _ z; omega
    clear S1 st1 W0 P0 S0
    walk_at "lw"
    refine if2 (fun hk => ?_) (fun hk => ?_)
    · obtain ⟨B, b1, b2, b3⟩ := P2.ex
      walk_at "lw"
      refine g_klst (by show 0 ≤ 100; decide) fun q H3 nq s3 hq => ?_
      walk_at "lw"
      refine g_rdputI (s3 _ _ b2) (by rw [mkD_len]; omega) fun H4 d4 k4 => ?_
      rw [putK_mkD_new fresh] at d4
      have qd : q ≠ d := Ne.symm (ne_of_none b2 nq)
      have st3 : Stp (fun i => i = 2) c2 (Stp.paint c2 q 2) H2 H3 := L2x_sameN s3 nq
      have st4 : Stp (fun i => i = 2) (Stp.paint c2 q 2) (Stp.paint c2 q 2) H3 H4 := Stp.ch (s3 _ _ b2) (by rw [Stp.paint_ne qd.symm]; exact b1) (fun xs z => by cases z) d4 k4
      have st34 := st3.trans st4
      have W4 := W2.frame st34 (by decide)
      have S4 := S2.frame st34 (by decide)
      have P4 : PinsAt (Stp.paint c2 q 2) H4 d (ks ++ [n + 1]) (fun j => if j = n + 1 then [] else L j) := by
        refine ⟨fun j => if j = n + 1 then q else B j, by rw [Stp.paint_ne qd.symm]; exact b1, ?_, fun i hi => ?_⟩
        · rw [d4]
          congr 2
          refine mkD_congr fun j hj => ?_
          by_cases e : j = n + 1 <;> simp [e]
        · by_cases e : i = n + 1
          · simp only [if_pos e]
            exact ⟨Stp.paint_same, by rw [k4 q qd]; exact hq⟩
          · simp only [if_neg e]
            have hi' : i ∈ ks := by
              rcases List.mem_append.mp hi with z | z
              · exact z
              · exact absurd (List.mem_singleton.mp z) e
            obtain ⟨a, b⟩ := b3 i hi'
            exact ⟨by rw [Stp.paint_ne (ne_of_none b nq)]; exact a, by rw [k4 _ (ne_of (s3 _ _ b) (s3 _ _ b2) (by intro z; cases z))]; exact s3 _ _ b⟩
      generalize Stp.paint c2 q 2 = c4 at st3 st4 st34 W4 S4 P4
      obtain ⟨dx, _, _, _, hp4, _⟩ := W4.ex
      walk_at "lw"
      refine g_rmeth hp4 (f_Claims_no (by decide +kernel)) ?_
      walk_at "lw"
      refine ⟨c4, p, n, ks, L, rfl, W4, fresh, hkl, fun c5 H5 W5 st5 => ?_⟩
      walk_at "lw"
      rw [decide_eq_true rfl]
      have fin := ((st2.mono (J := fun i => i ≤ 2) (by intro i h; omega)).trans (st34.mono (J := fun i => i ≤ 2) (by intro i h; omega))).trans (st5.mono (J := fun i => i ≤ 2) (by intro i h; omega))
      refine k c5 H5 (n + 1) (ks ++ [n + 1]) _ (S4.frame st5 (by decide)) W5 (P4.frame st5 (by decide)) (.inl ⟨rfl, by rw [List.length_append]; rfl⟩) (fun j hj => ?_) (fun i x hx => ?_) (fun i => ?_) fin
      · rcases List.mem_append.mp hj with z | z
        · have := hks j z; omega
        · rw [List.mem_singleton.mp z]; exact Int.le_refl _
      · split at hx
        · cases hx
        · exact hL i x hx
      · split
        · exact Nat.zero_le _
        · exact Nat.le_succ_of_le (hm i)
    · with_reducible refine g_next ?_
      with_reducible refine g_pnx ?_
      with_reducible refine g_seq ?_
      with_reducible refine g_ifs ?_
      obtain ⟨B, b1, b2, b3⟩ := id P2.ex
      refine g_andD (b1 := decide (V.int kind = V.int 1)) (b2 := decide (cl ∈ ks)) (fun Q q => by walk_at "lw"; exact q) (fun Q q => by
        walk_at "lw"
        refine g_rdinI (.of b2) ?_
        rw [valV_mkD, show (if cl ∈ ks then some (V.ref (B cl)) else none).isSome = decide (cl ∈ ks) by split <;> simp_all]
        exact ⟨_, rfl, q⟩) ?_
      refine ifb (fun hb => ?_) (fun hb => ?_)
      · rw [Bool.and_eq_true, decide_eq_true_eq, decide_eq_true_eq] at hb
        obtain ⟨_, hc⟩ := hb
        walk_at "lw"
        refine ⟨c2, S, 5, rfl, S2, by decide, by decide, fun r c3 H3 r0 r1 S3 st3 => ?_⟩
        obtain ⟨ch, hch, hab⟩ := letter_at r0 r1
        refine g_rixS (by decide +kernel) hch ?_
        have W3 := W2.frame st3 (by decide)
        have P3 := P2.frame st3 (by decide)
        obtain ⟨B, b1, b2, b3⟩ := id P3.ex
        obtain ⟨ca, ha⟩ := b3 cl hc
        walk_at "lw"
        refine g_rdgetI (.of b2) (by rw [valV_mkD, if_pos hc]) ?_
        walk_at "lw"
        refine g_klst (by show 1 ≤ 100; decide) fun q1 H4 n1 s4 hq1 => ?_
        refine g_cat (s4 _ _ ha) hq1 (by rw [List.length_map]; have := hm cl; show _ + 1 ≤ _; omega) fun q H5 nq s5 hq => ?_
        have s45 : Same H3 H5 := s4.trans s5
        walk_at "lw"
        refine g_rdputI (s45 _ _ b2) (by rw [mkD_len]; omega) fun H6 d6 k6 => ?_
        rw [putK_mkD_old hc] at d6
        have nq3 : H3 q = none := s4.free nq
        have qd : q ≠ d := Ne.symm (ne_of_none b2 nq3)
        have st5 : Stp (fun i => i = 2) c3 (Stp.paint c3 q 2) H3 H5 := L2x_sameN s45 nq3
        have st6 : Stp (fun i => i = 2) (Stp.paint c3 q 2) (Stp.paint c3 q 2) H5 H6 := Stp.ch (s45 _ _ b2) (by rw [Stp.paint_ne qd.symm]; exact b1) (fun xs z => by cases z) d6 k6
        have st56 := st5.trans st6
        have W6 := W3.frame st56 (by decide)
        have S6 := S3.frame st56 (by decide)
        have P6 : PinsAt (Stp.paint c3 q 2) H6 d ks (fun j => if j = cl then L cl ++ [SX.S [ch]] else L j) := by
          refine ⟨fun j => if j = cl then q else B j, by rw [Stp.paint_ne qd.symm]; exact b1, ?_, fun i hi => ?_⟩
          · rw [d6]
            congr 2
            refine mkD_congr fun j hj => ?_
            by_cases e : j = cl <;> simp [e]
          · by_cases e : i = cl
            · simp only [if_pos e]
              exact ⟨Stp.paint_same, by rw [k6 q qd, hq, List.map_append]; rfl⟩
            · simp only [if_neg e]
              obtain ⟨a, b⟩ := b3 i hi
              exact ⟨by rw [Stp.paint_ne (ne_of_none b nq3)]; exact a, by rw [k6 _ (ne_of b b2 (by intro z; cases z))]; exact s45 _ _ b⟩
        generalize Stp.paint c3 q 2 = c6 at st5 st6 st56 W6 S6 P6
        obtain ⟨dx, _, _, _, hp6, _⟩ := id W6.ex
        walk_at "lw"
        refine g_rmeth hp6 (f_Claims_no (by decide +kernel)) ?_
        walk_at "lw"
        refine ⟨c6, p, n, cl, SX.S [ch], ks, L, rfl, W6, hc, ded_few (hL cl), fun H7 W7 st7 => ?_⟩
        walk_at "lw"
        rw [decide_eq_true rfl]
        have fin := (((st2.mono (J := fun i => i ≤ 2) (by intro i h; omega)).trans (st3.mono (J := fun i => i ≤ 2) (by intro i h; omega))).trans (st56.mono (J := fun i => i ≤ 2) (by intro i h; omega))).trans (st7.mono (J := fun i => i ≤ 2) (by intro i h; omega))
        refine k c6 H7 n ks _ (S6.frame st7 (by decide)) W7 (P6.frame st7 (by decide)) (.inr ⟨rfl, Nat.le_refl _⟩) hks (fun i x hx => ?_) (fun i => ?_) fin
        · split at hx
          · rcases List.mem_append.mp hx with z | z
            · exact hL cl x z
            · rw [List.mem_singleton.mp z]; exact hab
          · exact hL i x hx
        · split
          · rw [List.length_append]; have := hm cl; show _ + 1 ≤ _; omega
          · exact Nat.le_succ_of_le (hm i)
      · walk_at "lw"
        refine if2 (fun h2 => ?_) (fun h2 => ?_)
        · walk_at "lw"
          refine g_rdinI (.of b2) ?_
          have dr : ∀ (H3 : Hp) , PinsAt c2 H3 d (ks.filter fun j => decide (j ≠ cl)) L → Stp (fun i => i = 2) c2 c2 H2 H3 → ∀ R : VK, (∀ H4, PinsAt c2 H4 d (ks.filter fun j => decide (j ≠ cl)) L → ClaimsAt C_Claims c2 H4 p n (ks.filter fun j => decide (j ≠ cl)) L → StateAt c2 H4 S → Stp (fun i => i ≤ 2) c c2 H H4 → R .non H4) →
              rMeth C_Claims "end" (spCEnd C_Claims) (.ref p) (tCons (tVar 5) tNil) [some (.ref S), some (.ref p), some (.ref d), some (.int n), some (.int kind), some (.int cl), none] H3 R := by
            intro H3 P3 st3 R kk
            have W3 := W2.frame st3 (by decide)
            have S3 := S2.frame st3 (by decide)
            obtain ⟨dx, _, _, _, hp3, _⟩ := id W3.ex
            refine g_rmeth hp3 (f_Claims_no (by decide +kernel)) ?_
            walk_at "lw"
            refine ⟨c2, p, n, cl, ks, L, rfl, W3, fun H4 W4 st4 => ?_⟩
            exact kk H4 (P3.frame st4 (by decide)) W4 (S3.frame st4 (by decide)) (((st2.mono (J := fun i => i ≤ 2) (by intro i h; omega)).trans (st3.mono (J := fun i => i ≤ 2) (by intro i h; omega))).trans (st4.mono (J := fun i => i ≤ 2) (by intro i h; omega)))
          rw [valV_mkD]
          by_cases hc : cl ∈ ks
          · rw [if_pos hc]
            refine ⟨true, rfl, ?_⟩
            walk_at "lw"
            refine g_risd (.of b2) ?_
            walk_at "lw"
            refine g_rdpopI b2 (by rw [valV_mkD, if_pos hc]) fun H3 d3 k3 => ?_
            rw [dropK_mkD] at d3
            have sub : ∀ j, j ∈ ks.filter (fun j => decide (j ≠ cl)) → j ∈ ks := fun j hj => (List.mem_filter.mp hj).1
            walk_at "lw"
            refine dr H3 ⟨B, b1, d3, fun i hi => ?_⟩ (Stp.ch b2 b1 (fun xs z => by cases z) d3 k3) _ fun H4 P4 W4 S4 st4 => ?_
            · obtain ⟨a, b⟩ := b3 i (sub i hi)
              exact ⟨a, by rw [k3 _ (ne_of b b2 (by intro z; cases z))]; exact b⟩
            · walk_at "lw"
              rw [decide_eq_true rfl]
              exact k c2 H4 n _ L S4 W4 P4 (.inr ⟨rfl, List.length_filter_le _ _⟩) (fun j hj => hks j (sub j hj)) hL (fun i => Nat.le_succ_of_le (hm i)) st4
          · rw [if_neg hc]
            refine ⟨false, rfl, ?_⟩
            have e : ks.filter (fun j => decide (j ≠ cl)) = ks := List.filter_eq_self.mpr fun j hj => decide_eq_true fun z => hc (by rw [← z]; exact hj)
            rw [e] at dr
            walk_at "lw"
            refine dr H2 P2 Stp.refl _ fun H4 P4 W4 S4 st4 => ?_
            walk_at "lw"
            rw [decide_eq_true rfl]
            exact k c2 H4 n ks L S4 W4 P4 (.inr ⟨rfl, Nat.le_refl _⟩) hks hL (fun i => Nat.le_succ_of_le (hm i)) st4
        · obtain ⟨dx, _, _, _, hp2, _⟩ := id W2.ex
          walk_at "lw"
          refine g_rmeth hp2 (f_Claims_no (by decide +kernel)) ?_
          walk_at "lw"
          refine ⟨c2, p, n, cl, ks, L, rfl, W2, ?_⟩
          walk_at "lw"
          refine g_rdinI (.of b2) ?_
          rw [valV_mkD, show (if cl ∈ ks then some (V.ref (B cl)) else none).isSome = decide (cl ∈ ks) by split <;> simp_all]
          walk_at "lw"
          rw [decide_eq_true rfl]
          exact k c2 H2 n ks L S2 W2 P2 (.inr ⟨rfl, Nat.le_refl _⟩) hks hL (fun i => Nat.le_succ_of_le (hm i)) (st2.mono (J := fun i => i ≤ 2) (by intro i h; omega))
end
end Lw

namespace Lw
open PySem L2
open PyProof.Rows (envOfC sortedS)
def cats (ks : List Int) (L : Int → List Str) (i : Nat) : List Str := (ks.take i).flatMap L
theorem cats_next {ks : List Int} {L : Int → List Str} {i : Nat} {x : Int} (h : ks[i]? = some x) : cats ks L (i + 1) = cats ks L i ++ L x := by
  unfold cats
  rw [take_ok h, List.flatMap_append]
  simp
theorem cats_len {L : Int → List Str} (h : ∀ i, (L i).length ≤ 60) (l : List Int) : (l.flatMap L).length ≤ l.length * 60 := by
  induction l with
  | nil => simp
  | cons y r ih =>
    rw [List.flatMap_cons, List.length_append, List.length_cons]
    have := h y
    omega
section
variable {P : Program} {w : World} {K : PySem.W.Frag} {mg : Str → Option Value} {base : Heap} {C_Claims C_Uploads : Addr}
theorem ok__law_pinned (T : Txt w K mg C_Claims C_Uploads) : Cal P w K mg base 1 "_law_pinned" spPinned := by
  refine cal_mk T.d__law_pinned sc__law_pinned (fun vs H Q E h => ?_) (fun f cdv A outer s H vs Q E hr h => ?_)
  · obtain ⟨c, d, ks, L, rfl, _⟩ := h
    rfl
  · obtain ⟨c, d, ks, L, rfl, P0, hL, hm, hk, k⟩ := h
    obtain ⟨B, b1, b2, b3⟩ := P0.ex
    have hu := hu_of hr
    refine ⟨_, (pss_cons (ps_set (i := 1) sc__law_pinned.nd rfl (by first | exact Or.inl rfl | exact Or.inr rfl) (pe_lst pa_nil))
      (pss_cons (ps_lock (ps_for PassesOwn.never rfl (pi_keys (pv 0)) (pg_name (i := 2) sc__law_pinned.nd rfl (by first | exact Or.inl rfl | exact Or.inr rfl)) (pss_one (ps_set (i := 1) sc__law_pinned.nd rfl (by first | exact Or.inl rfl | exact Or.inr rfl) (pe_op op_cat (pv 1) (pe_dget hu (pv 0) (pv 2) (fun _ _ => rfl)))))))
      (pss_one (ps_ret (pe_callB (cr_sortedSS rfl) (by rfl) T.n_sorted (by decide +kernel) (pa_cons (pe_callTy (cr_setOfS rfl) (by rfl) T.n_set (by decide +kernel) (pa_cons (pv 1) pa_nil)) pa_nil)))))), ?_⟩
    walk_at "lw"
    refine g_klst (by show 0 ≤ 100; decide) fun q H2 nq s2 hq => ?_
    walk_at "lw"
    have qd : q ≠ d := Ne.symm (ne_of_none b2 nq)
    refine g_lock (s2 _ _ b2) fun od H3 d3 k3 => ?_
    walk_at "lw"
    refine g_ritK d3 ?_
    refine for_at walk_ks (fun i σ H' => H' d = some (.frz od (.dK (mkD ks fun i => .ref (B i)))) ∧ (∀ b o, H3 b = some o → H' b = some o) ∧ ∃ (q : Addr) (v2 : Option V), q ≠ d ∧ H' q = some (.lst ((cats ks L i).map V.str)) ∧ σ = [some (.ref d), some (.ref q), v2]) ⟨d3, fun b o e => e, q, none, qd, by rw [k3 q qd]; exact hq, rfl⟩ (fun i σ H' h => h.1) ?_ ?_
    · rintro i x σ H4 hxi ⟨d4, k4, q4, v2, qd4, hq4, rfl⟩
      rw [mkD_kV] at hxi
      obtain ⟨j, hj, rfl⟩ := map_at hxi
      have hjm := List.mem_of_getElem? hj
      obtain ⟨ca, ha⟩ := b3 j hjm
      have ad : B j ≠ d := ne_of ha b2 (by intro z; cases z)
      have a4 : H4 (B j) = some (.lst ((L j).map V.str)) := k4 _ _ (by rw [k3 _ ad]; exact s2 _ _ ha)
      walk_at "lw"
      refine g_rdgetI (.inr ⟨od, d4⟩) (by rw [valV_mkD, if_pos hjm]) ?_
      have hlen := cats_len hm (ks.take i)
      have hti : (ks.take i).length ≤ 60 := Nat.le_trans (List.length_take_le' _ _) hk
      refine g_cat hq4 a4 (by rw [List.length_map, List.length_map]; have := hm j; unfold cats; omega) fun q5 H5 n5 s5 h5 => ?_
      walk_at "lw"
      refine ⟨s5 _ _ d4, fun b o e => s5 _ _ (k4 b o e), q5, _, Ne.symm (ne_of_none d4 n5), ?_, rfl⟩
      rw [h5, cats_next hj, List.map_append]
    · rintro σ H4 ⟨d4, k4, q4, v2, qd4, hq4, rfl⟩
      rw [mkD_kV, List.length_map] at hq4
      refine ⟨d4, ?_⟩
      have sm : Same H (upd H4 d (.dK (mkD ks fun i => .ref (B i)))) := fun b o e => by
        by_cases z : b = d
        · subst z
          rw [upd_same, ← b2, e]
        · rw [upd_ne z]
          exact k4 b o (by rw [k3 b z]; exact s2 _ _ e)
      have q5 : (upd H4 d (.dK (mkD ks fun i => .ref (B i)))) q4 = some (.lst ((cats ks L ks.length).map V.str)) := by rw [upd_ne qd4]; exact hq4
      generalize upd H4 d (.dK (mkD ks fun i => .ref (B i))) = H5 at sm q5
      have hc : ∀ x, x ∈ cats ks L ks.length ↔ ∃ i ∈ ks, x ∈ L i := fun x => by
        unfold cats
        rw [List.take_length, List.mem_flatMap]
      have hlen := cats_len hm ks
      have hcl : (cats ks L ks.length).length < 4000 := by
        unfold cats
        rw [List.take_length]
        omega
      walk_at "lw"
      refine ⟨q4, cats ks L ks.length, rfl, SqL.of q5, hcl, fun a n ha na => ?_⟩
      walk_at "lw"
      refine ⟨a, _, n, rfl, upd_same, ⟨abcde, by decide, fun x hx => ?_⟩, fun ys r hs hn hmem hr => ?_⟩
      · obtain ⟨i, _, hi⟩ := (hc x).mp (of_decide_eq_true hx)
        exact hL i x hi
      · walk_at "lw"
        exact k r ys _ hn hs (fun x => by rw [hmem, decide_eq_true_eq, hc]) ((sm.thenNew na).thenNew hr) upd_same
def spUpStep (C : Addr) : Sp := fun vs H Q _ => ∃ (c : Addr → Nat) (S p d : Addr) (n : Int) (ts : List Int) (X : Int → List Nat) (m : Nat), vs = [.ref S, .ref p, .ref d, .int n] ∧ StateAt c H S ∧ UpAt C c H p n ts X ∧ TxAt c H d ts X ∧
  0 ≤ n ∧ n ≤ 1000 ∧ (∀ k ∈ ts, k ≤ n) ∧ ts.length < 64 ∧ ts.Nodup ∧ (∀ i, (X i).length ≤ m) ∧ m ≤ 1000 ∧
  ∀ c' H' n' ts' X', StateAt c' H' S → UpAt C c' H' p n' ts' X' → TxAt c' H' d ts' X' → Grew n n' ts.length ts'.length → (∀ k ∈ ts', k ≤ n') → ts'.Nodup → (∀ i, (X' i).length ≤ m + 4) → Stp (fun i => i = 0 ∨ i = 3 ∨ i = 4) c c' H H' → Q (.bl true) H'
theorem scal_self {v : V} (h : v = .non ∨ (∃ i, v = .int i) ∨ ∃ x, v = .str x) : scal v v = true := by
  rcases h with rfl | ⟨i, rfl⟩ | ⟨x, rfl⟩ <;> rfl
theorem filter_ne {ts : List Int} {u : Int} (h : u ∉ ts) : ts.filter (fun j => decide (j ≠ u)) = ts := List.filter_eq_self.mpr fun j hj => decide_eq_true fun z => h (by rw [← z]; exact hj)
theorem ok__law_upload_step (T : Txt w K mg C_Claims C_Uploads) : Cal P w K mg base 3 "_law_upload_step" (spUpStep C_Uploads) := by
  have c__law_take : Cal P w K mg base 1 "_law_take" spTake := ok__law_take T
  have c__law_text : Cal P w K mg base 2 "_law_text" spText := ok__law_text T
  have t_Uploads_begin : Met P w K mg base 1 C_Uploads "begin" (spUBegin C_Uploads) := ok_Uploads_begin T
  have t_Uploads_finish : Met P w K mg base 1 C_Uploads "finish" (spUFin C_Uploads) := ok_Uploads_finish T
  have t_Uploads_forget : Met P w K mg base 1 C_Uploads "forget" (spUForget C_Uploads) := ok_Uploads_forget T
  have t_Uploads_add_part : Met P w K mg base 1 C_Uploads "add_part" (spUAdd C_Uploads) := ok_Uploads_add_part T
  refine cal_mk T.d__law_upload_step sc__law_upload_step (fun vs H Q E h => ?_) (fun f cdv A outer s H vs Q E hr h => ?_)
  · obtain ⟨c, S, p, d, n, ts, X, m, rfl, _⟩ := h
    rfl
  · obtain ⟨c, S, p, d, n, ts, X, m, rfl, S0, U0, X0, n0, n1, hts, htl, hnd, hm, hm1, k⟩ := h
    have hu := hu_of hr
    refine ⟨_, (pss_cons (ps_set (i := 4) sc__law_upload_step.nd rfl (by first | exact Or.inl rfl | exact Or.inr rfl) (pe_c c__law_take hr (by decide) rfl (pa_cons (pv 0) (pa_cons (pe_int) pa_nil))))
      (pss_cons (ps_set (i := 5) sc__law_upload_step.nd rfl (by first | exact Or.inl rfl | exact Or.inr rfl) (pe_c c__law_take hr (by decide) rfl (pa_cons (pv 0) (pa_cons (pe_op op_add (pv 3) (pe_int)) pa_nil))))
      (pss_cons (ps_if (pt_cmpR op_eq (pv 4) (pe_int) (nomark _)) (pss_cons (ps_dput hu (pv 2) (pe_op op_add (pv 3) (pe_int)) (pe_str) rfl)
      (pss_one (ps_ret (pe_cmpR op_eq (pe_mt0 t_Uploads_begin hr (by decide) (pv 1)) (pe_op op_add (pv 3) (pe_int)) (nomark _))))) pss_nil)
      (pss_cons (ps_if (pt_cmpR op_eq (pv 4) (pe_int) (nomark _)) (pss_cons (ps_set (i := 6) sc__law_upload_step.nd rfl (by first | exact Or.inl rfl | exact Or.inr rfl) (pe_dget1 hu (pv 2) (pv 5) ⟨rfl, by rfl, rfl, rfl⟩))
      (pss_cons (ps_if (pt_cmp (pc_din hu (pv 5) (pv 2))) (pss_one (ps_expr (pe_dpop1 (pv 2) (pv 5) ⟨rfl, by rfl, rfl, rfl⟩))) pss_nil)
      (pss_one (ps_ret (pe_cmpR op_eq (pe_mt t_Uploads_finish hr (by decide) (pv 1) (pa_cons (pv 5) pa_nil)) (pv 6) (nomark _)))))) pss_nil)
      (C8.pss_cut (ps_if (PW.pt (pw_and (pt_cmpR op_eq (pv 4) (pe_int) (nomark _)) (pw_and1 (pt_cmpR op_eq (pe_c c__law_take hr (by decide) rfl (pa_cons (pv 0) (pa_cons (pe_int) pa_nil))) (pe_int) (nomark _))))) (pss_cons (ps_for PassesOwn.never rfl (pi_list (pe_callB (call_sortedDI rfl) (by rfl) T.n_sorted (by decide +kernel) (pa_cons (pv 2) pa_nil))) (pg_name (i := 7) sc__law_upload_step.nd rfl (by first | exact Or.inl rfl | exact Or.inr rfl)) (pss_one (ps_expr (pe_dpop1 (pv 2) (pv 7) ⟨rfl, by rfl, rfl, rfl⟩))))
      (pss_one (ps_ret (pe_cmpR op_isN' (pe_mt0 t_Uploads_forget hr (by decide) (pv 1)) (pe_non) (nomark _))))) pss_nil)
      (pss_cons (ps_set (i := 8) sc__law_upload_step.nd rfl (by first | exact Or.inl rfl | exact Or.inr rfl) (pe_c c__law_text hr (by decide) rfl (pa_cons (pv 0) (pa_cons (pe_int) pa_nil))))
      (pss_cons (ps_set (i := 9) sc__law_upload_step.nd rfl (by first | exact Or.inl rfl | exact Or.inr rfl) (pe_c c__law_take hr (by decide) rfl (pa_cons (pv 0) (pa_cons (pe_int) pa_nil))))
      (C8.pss_cut (ps_if (PW.pt (pw_and (pt_cmp (pc_din hu (pv 5) (pv 2))) (pw_and1 (pt_cmpR op_gt (pe_c c__law_take hr (by decide) rfl (pa_cons (pv 0) (pa_cons (pe_int) pa_nil))) (pe_int) (nomark _))))) (pss_one (ps_set (i := 9) sc__law_upload_step.nd rfl (by first | exact Or.inl rfl | exact Or.inr rfl) (pe_callB call_len_str' (by rfl) T.n_len (by decide +kernel) (pa_cons (pe_dget hu (pv 2) (pv 5) (fun _ _ => rfl)) pa_nil)))) pss_nil)
      (pss_cons (ps_set (i := 6) sc__law_upload_step.nd rfl (by first | exact Or.inl rfl | exact Or.inr rfl) (pe_non))
      (pss_cons (ps_if (pt_cmp (pc_din hu (pv 5) (pv 2))) (pss_cons (ps_if (pt_cmpR op_eq (pv 9) (pe_callB call_len_str' (by rfl) T.n_len (by decide +kernel) (pa_cons (pe_dget hu (pv 2) (pv 5) (fun _ _ => rfl)) pa_nil)) (nomark _)) (pss_one (ps_dput hu (pv 2) (pv 5) (pe_op op_cat_str (pe_dget hu (pv 2) (pv 5) (fun _ _ => rfl)) (pv 8)) rfl)) pss_nil)
      (pss_one (ps_set (i := 6) sc__law_upload_step.nd rfl (by first | exact Or.inl rfl | exact Or.inr rfl) (pe_callB call_len_str' (by rfl) T.n_len (by decide +kernel) (pa_cons (pe_dget hu (pv 2) (pv 5) (fun _ _ => rfl)) pa_nil))))) pss_nil)
      (pss_one (ps_ret (pe_cmpR op_eq (pe_mt t_Uploads_add_part hr (by decide) (pv 1) (pa_cons (pv 5) (pa_cons (pv 9) (pa_cons (pv 8) pa_nil)))) (pv 6) (nomark _)))))))))))))), ?_⟩
    walk_at "lw"
    refine ⟨c, S, 8, rfl, S0, by decide, by decide, fun kind c1 H1 k0 k1 S1 st1 => ?_⟩
    walk_at "lw"
    refine ⟨c1, S, n + 2, rfl, S1, by omega, by omega, fun u c2 H2 _ _ S2 st2 => ?_⟩
    have st2 := st1.trans st2
    have U2 := U0.frame st2 (by decide)
    have X2 := X0.frame st2 (by decide)
    have fresh : n + 1 ∉ ts := fun z => by have := hts _ z; omega
    have fin := st2.mono (J := fun i => i = 0 ∨ i = 3 ∨ i = 4) (by intro i h; exact .inl h)
    clear S1 st1 U0 X0 S0 st2
    walk_at "lw"
    refine if2 (fun hk => ?_) (fun hk => ?_)
    · walk_at "lw"
      refine g_rdputI X2.hd (by rw [mkD_len]; omega) fun H4 d4 k4 => ?_
      rw [putK_mkD_new fresh] at d4
      have st4 : Stp (fun i => i = 4) c2 c2 H2 H4 := Stp.ch X2.hd X2.cd (fun xs z => by cases z) d4 k4
      have U4 := U2.frame st4 (by decide)
      have S4 := S2.frame st4 (by decide)
      have X4 : TxAt c2 H4 d (ts ++ [n + 1]) (fun j => if j = n + 1 then [] else X j) := ⟨X2.cd, by
        rw [d4]
        congr 2
        refine mkD_congr fun j hj => ?_
        by_cases e : j = n + 1
        · simp only [if_pos e]
          rw [← show ("" : Str) = SX.S [] by decide +kernel]
        · simp only [if_neg e]⟩
      obtain ⟨dx, _, _, hp4, _⟩ := U4.ex
      walk_at "lw"
      refine g_rmeth hp4 (f_Uploads_no (by decide +kernel)) ?_
      walk_at "lw"
      refine ⟨c2, p, n, ts, X, rfl, U4, fresh, by omega, fun H5 U5 st5 => ?_⟩
      walk_at "lw"
      rw [decide_eq_true rfl]
      refine k c2 H5 (n + 1) (ts ++ [n + 1]) _ (S4.frame st5 (by decide)) U5 (X4.frame st5 (by decide)) (.inl ⟨rfl, by rw [List.length_append]; rfl⟩) (fun j hj => ?_) ?_ (fun i => ?_) ((fin.trans (st4.mono (by intro i h; exact .inr (.inr h)))).trans (st5.mono (by intro i h; exact .inr (.inl h))))
      · rcases List.mem_append.mp hj with z | z
        · have := hts j z; omega
        · rw [List.mem_singleton.mp z]; exact Int.le_refl _
      · rw [List.nodup_append]
        exact ⟨hnd, by simp, fun a ha b hb => by rw [List.mem_singleton.mp hb]; exact fun z => fresh (by rw [← z]; exact ha)⟩
      · split
        · exact Nat.zero_le _
        · exact Nat.le_trans (hm i) (by omega)
    · walk_at "lw"
      refine if2 (fun h1 => ?_) (fun h1 => ?_)
      · walk_at "lw"
        refine g_risd (.of X2.hd) ?_
        walk_at "lw"
        refine g_rdget1I (.of X2.hd) ?_
        walk_at "lw"
        refine g_rdinI (.of X2.hd) ?_
        obtain ⟨dx, _, _, hp2, _⟩ := id U2.ex
        rw [valV_mkD]
        by_cases hc : u ∈ ts
        · rw [if_pos hc]
          refine ⟨true, rfl, ?_⟩
          walk_at "lw"
          refine g_risd (.of X2.hd) ?_
          walk_at "lw"
          refine g_rdpopI X2.hd (by rw [valV_mkD, if_pos hc]) fun H3 d3 k3 => ?_
          rw [dropK_mkD] at d3
          have st3 : Stp (fun i => i = 4) c2 c2 H2 H3 := Stp.ch X2.hd X2.cd (fun xs z => by cases z) d3 k3
          have U3 := U2.frame st3 (by decide)
          have S3 := S2.frame st3 (by decide)
          have X3 : TxAt c2 H3 d (ts.filter fun j => decide (j ≠ u)) X := ⟨X2.cd, d3⟩
          obtain ⟨dx, _, _, hp3, _⟩ := id U3.ex
          walk_at "lw"
          refine g_rmeth hp3 (f_Uploads_no (by decide +kernel)) ?_
          walk_at "lw"
          refine ⟨c2, p, n, u, ts, X, rfl, U3, fun z => absurd hc z, fun _ H4 U4 st4 => ?_⟩
          walk_at "lw"
          rw [Option.getD_some, decide_eq_true rfl]
          exact k c2 H4 n _ X (S3.frame st4 (by decide)) U4 (X3.frame st4 (by decide)) (.inr ⟨rfl, List.length_filter_le _ _⟩) (fun j hj => hts j (List.mem_filter.mp hj).1) (hnd.filter _) (fun i => Nat.le_trans (hm i) (by omega)) ((fin.trans (st3.mono (by intro i h; exact .inr (.inr h)))).trans (st4.mono (by intro i h; exact .inr (.inl h))))
        · rw [if_neg hc]
          refine ⟨false, rfl, ?_⟩
          walk_at "lw"
          refine g_rmeth hp2 (f_Uploads_no (by decide +kernel)) ?_
          walk_at "lw"
          refine ⟨c2, p, n, u, ts, X, rfl, U2, fun _ => ?_, fun z => absurd z hc⟩
          walk_at "lw"
          rw [Option.getD_none, decide_eq_true rfl]
          exact k c2 H2 n ts X S2 U2 X2 (.inr ⟨rfl, Nat.le_refl _⟩) hts hnd (fun i => Nat.le_trans (hm i) (by omega)) fin
      · with_reducible refine g_next ?_
        with_reducible refine g_pnx ?_
        refine g_cut (fun σ H' => ∃ c', StateAt c' H' S ∧ UpAt C_Uploads c' H' p n ts X ∧ TxAt c' H' d ts X ∧ Stp (fun i => i = 0 ∨ i = 3 ∨ i = 4) c c' H H' ∧ σ = [some (.ref S), some (.ref p), some (.ref d), some (.int n), some (.int kind), some (.int u), none, none, none, none]) ?_ ?_
        · walk_at "lw"
          refine if2 (fun h2 => ?_) (fun h2 => ?_)
          · walk_at "lw"
            refine ⟨c2, S, 3, rfl, S2, by decide, by decide, fun z c3 H3 _ _ S3 st3 => ?_⟩
            have U3 := U2.frame st3 (by decide)
            have X3 := X2.frame st3 (by decide)
            have fin3 := fin.trans (st3.mono (J := fun i => i = 0 ∨ i = 3 ∨ i = 4) (by intro i h; exact .inl h))
            walk_at "lw"
            refine if2 (fun h3 => ?_) (fun h3 => ?_)
            · walk_at "lw"
              refine ⟨d, _, ts, rfl, .of X3.hd, mkD_keys, htl, fun ys r hp hs hr => ?_⟩
              have st4 : Stp (fun _ => False) c3 (Stp.paint c3 r 9) H3 (upd H3 r (.lst (ys.map V.int))) := Stp.newc hr
              have r4 : (upd H3 r (.lst (ys.map V.int))) r = some (.lst (ys.map V.int)) := upd_same
              have cr : Stp.paint c3 r 9 r = 9 := Stp.paint_same
              generalize upd H3 r (.lst (ys.map V.int)) = H4 at st4 r4
              generalize Stp.paint c3 r 9 = c4 at st4 cr
              have U4 := U3.frame st4 (by decide)
              have X4 := X3.frame st4 (by decide)
              have S4 := S3.frame st4 (by decide)
              have hynd : ys.Nodup := hp.nodup_iff.mpr hnd
              walk_at "lw"
              refine g_ritL (SqL.of r4) ?_
              refine for_at walk_list (fun i σ H' => H' r = some (.lst (ys.map V.int)) ∧ StateAt c4 H' S ∧ UpAt C_Uploads c4 H' p n ts X ∧ TxAt c4 H' d (ts.filter fun j => decide (j ∉ ys.take i)) X ∧ Stp (fun i => i = 4) c4 c4 H4 H' ∧ ∃ v7 : Option V, σ = [some (.ref S), some (.ref p), some (.ref d), some (.int n), some (.int kind), some (.int u), none, v7, none, none]) ⟨r4, S4, U4, by rw [List.take_zero, show ts.filter (fun j => decide (j ∉ ([] : List Int))) = ts from List.filter_eq_self.mpr fun j _ => by simp]; exact X4, Stp.refl, none, rfl⟩ (fun i σ H' h => SqL.of h.1) ?_ ?_
              · rintro i x σ H5 hxi ⟨r5, S5, U5, X5, st5, v7, rfl⟩
                obtain ⟨j, hj, rfl⟩ := map_at hxi
                have hjt : j ∈ ts := hp.mem_iff.mp (List.mem_of_getElem? hj)
                have hjn : j ∉ ys.take i := nodup_take hynd hj
                walk_at "lw"
                refine g_risd (.of X5.hd) ?_
                walk_at "lw"
                refine g_rdpopI X5.hd (by rw [valV_mkD, if_pos (List.mem_filter.mpr ⟨hjt, decide_eq_true hjn⟩)]) fun H6 d6 k6 => ?_
                rw [dropK_mkD, List.filter_filter] at d6
                have st6 : Stp (fun i => i = 4) c4 c4 H5 H6 := Stp.ch X5.hd X5.cd (fun xs z => by cases z) d6 k6
                walk_at "lw"
                refine ⟨st6.keep _ _ r5 (by rw [cr]; decide), S5.frame st6 (by decide), U5.frame st6 (by decide), ⟨X5.cd, ?_⟩, st5.trans st6, _, rfl⟩
                rw [d6]
                congr 3
                refine List.filter_congr fun a ha => ?_
                rw [take_ok hj, Bool.eq_iff_iff]
                simp only [Bool.and_eq_true, decide_eq_true_eq, List.mem_append, List.mem_singleton]
                exact ⟨fun ⟨h1, h2⟩ z => z.elim h2 h1, fun h => ⟨fun z => h (.inr z), fun z => h (.inl z)⟩⟩
              · rintro σ H5 ⟨r5, S5, U5, X5, st5, v7, rfl⟩
                rw [List.length_map, List.take_length] at X5
                have e : ts.filter (fun j => decide (j ∉ ys)) = [] := List.filter_eq_nil_iff.mpr fun j hj => by
                  simp only [decide_eq_true_eq, Classical.not_not]
                  exact hp.mem_iff.mpr hj
                rw [e] at X5
                obtain ⟨dx, _, _, hp5, _⟩ := id U5.ex
                walk_at "lw"
                refine g_rmeth hp5 (f_Uploads_no (by decide +kernel)) ?_
                walk_at "lw"
                refine ⟨c4, p, n, ts, X, rfl, U5, fun c6 H6 U6 st6 => ?_⟩
                walk_at "lw"
                rw [decide_eq_true rfl]
                have hd6 : TxAt c6 H6 d [] X := X5.frame st6 (by decide)
                refine k c6 H6 n [] X (S5.frame st6 (by decide)) U6 hd6 (.inr ⟨rfl, Nat.zero_le _⟩) (fun j hj => nomatch hj) List.nodup_nil (fun i => Nat.le_trans (hm i) (by omega)) ?_
                exact ((fin3.trans (st4.mono (by intro i h; exact h.elim))).trans (st5.mono (by intro i h; exact .inr (.inr h)))).trans (st6.mono (by intro i h; exact .inr (.inl h)))
            · walk_at "lw"
              exact ⟨c3, S3, U3, X3, fin3, rfl⟩
          · walk_at "lw"
            exact ⟨c2, S2, U2, X2, fin, rfl⟩
        · rintro σ H' ⟨c3, S3, U3, X3, fin3, rfl⟩
          clear fin S2 U2 X2
          walk_at "lw"
          refine ⟨c3, S, 4, rfl, S3, by decide, by decide, fun t c4 H4 ht _ S4 st4 => ?_⟩
          have fin4 := fin3.trans (st4.mono (J := fun i => i = 0 ∨ i = 3 ∨ i = 4) (by intro i h; exact .inl h))
          have U4 := U3.frame st4 (by decide)
          have X4 := X3.frame st4 (by decide)
          clear fin3 S3 U3 X3 st4
          walk_at "lw"
          refine ⟨c4, S, 9, rfl, S4, by decide, by decide, fun a c5 H5 _ _ S5 st5 => ?_⟩
          have fin5 := fin4.trans (st5.mono (J := fun i => i = 0 ∨ i = 3 ∨ i = 4) (by intro i h; exact .inl h))
          have U5 := U4.frame st5 (by decide)
          have X5 := X4.frame st5 (by decide)
          clear fin4 S4 U4 X4 st5
          walk_at "lw"
          have lx : ∀ i, ((X i).length : Nat) ≤ 100000 := fun i => Nat.le_trans (hm i) (by omega)
          refine g_cut (fun σ H' => ∃ c' a, StateAt c' H' S ∧ UpAt C_Uploads c' H' p n ts X ∧ TxAt c' H' d ts X ∧ Stp (fun i => i = 0 ∨ i = 3 ∨ i = 4) c c' H H' ∧ σ = [some (.ref S), some (.ref p), some (.ref d), some (.int n), some (.int kind), some (.int u), none, none, some (.str (SX.S t)), some (.int a)]) ?_ ?_
          · walk_at "lw"
            refine g_rdinI (.of X5.hd) ?_
            rw [valV_mkD]
            by_cases hc : u ∈ ts
            · rw [if_pos hc]
              refine ⟨true, rfl, ?_⟩
              walk_at "lw"
              refine ⟨c5, S, 3, rfl, S5, by decide, by decide, fun z c6 H6 _ _ S6 st6 => ?_⟩
              have fin6 := fin5.trans (st6.mono (J := fun i => i = 0 ∨ i = 3 ∨ i = 4) (by intro i h; exact .inl h))
              have U6 := U5.frame st6 (by decide)
              have X6 := X5.frame st6 (by decide)
              walk_at "lw"
              refine if2 (fun hz => ?_) (fun hz => ?_)
              · walk_at "lw"
                refine g_rdgetI (.of X6.hd) (by rw [valV_mkD, if_pos hc]) ?_
                walk_at "lw"
                refine g_lenT (by rw [SX.S_len]; exact Nat.le_trans (lx u) (by decide)) ?_
                walk_at "lw"
                exact ⟨c6, _, S6, U6, X6, fin6, rfl⟩
              · walk_at "lw"
                exact ⟨c6, _, S6, U6, X6, fin6, rfl⟩
            · rw [if_neg hc]
              refine ⟨false, rfl, ?_⟩
              walk_at "lw"
              exact ⟨c5, _, S5, U5, X5, fin5, rfl⟩
          · rintro σ H6 ⟨c6, a, S6, U6, X6, fin6, rfl⟩
            clear fin5 S5 U5 X5
            walk_at "lw"
            refine g_rdinI (.of X6.hd) ?_
            rw [valV_mkD]
            have tl : t.length ≤ 4 := by omega
            have lt : (X u).length + t.length ≤ 100000 := by have := hm u; omega
            by_cases hc : u ∈ ts
            · rw [if_pos hc]
              refine ⟨true, rfl, ?_⟩
              walk_at "lw"
              refine g_rdgetI (.of X6.hd) (by rw [valV_mkD, if_pos hc]) ?_
              walk_at "lw"
              refine g_lenT (by rw [SX.S_len]; exact Nat.le_trans (lx u) (by decide)) ?_
              rw [SX.S_len]
              walk_at "lw"
              refine if2 (fun he => ?_) (fun he => ?_)
              · have he := int_eq.mp he
                walk_at "lw"
                refine g_rdgetI (.of X6.hd) (by rw [valV_mkD, if_pos hc]) ?_
                walk_at "lw"
                refine g_cat_str (a := SX.S (X u)) (b := SX.S t) (by rw [SX.S_len, SX.S_len]; exact Nat.le_trans lt (by decide)) ?_
                rw [SX.S_cat]
                walk_at "lw"
                refine g_rdputI X6.hd (by rw [mkD_len]; omega) fun H7 d7 k7 => ?_
                rw [putK_mkD_old hc] at d7
                have st7 : Stp (fun i => i = 4) c6 c6 H6 H7 := Stp.ch X6.hd X6.cd (fun xs z => by cases z) d7 k7
                have U7 := U6.frame st7 (by decide)
                have S7 := S6.frame st7 (by decide)
                have X7 : TxAt c6 H7 d ts (fun j => if j = u then X u ++ t else X j) := ⟨X6.cd, by
                  rw [d7]
                  congr 2
                  refine mkD_congr fun j hj => ?_
                  by_cases e : j = u
                  · simp only [if_pos e]
                  · simp only [if_neg e]⟩
                walk_at "lw"
                refine g_rdgetI (.of X7.hd) (by rw [valV_mkD, if_pos hc, if_pos rfl]) ?_
                walk_at "lw"
                refine g_lenT (by rw [SX.S_len, List.length_append]; exact Nat.le_trans lt (by decide)) ?_
                rw [SX.S_len]
                obtain ⟨dx, _, _, hp7, _⟩ := id U7.ex
                walk_at "lw"
                refine g_rmeth hp7 (f_Uploads_no (by decide +kernel)) ?_
                walk_at "lw"
                refine ⟨c6, p, n, u, a, t, ts, X, rfl, U7, by omega, lt, fun z => absurd hc z, fun _ z => absurd he z, fun _ _ H8 U8 st8 => ?_⟩
                walk_at "lw"
                rw [decide_eq_true rfl]
                refine k c6 H8 n ts _ (S7.frame st8 (by decide)) U8 (X7.frame st8 (by decide)) (.inr ⟨rfl, Nat.le_refl _⟩) hts hnd (fun i => ?_) ((fin6.trans (st7.mono (by intro i h; exact .inr (.inr h)))).trans (st8.mono (by intro i h; exact .inr (.inl h))))
                split
                · rw [List.length_append]; have := hm u; omega
                · exact Nat.le_trans (hm i) (by omega)
              · have he : a ≠ (X u).length := fun z => he (by rw [z])
                walk_at "lw"
                refine g_rdgetI (.of X6.hd) (by rw [valV_mkD, if_pos hc]) ?_
                walk_at "lw"
                refine g_lenT (by rw [SX.S_len]; exact Nat.le_trans (lx u) (by decide)) ?_
                rw [SX.S_len]
                obtain ⟨dx, _, _, hp6, _⟩ := id U6.ex
                walk_at "lw"
                refine g_rmeth hp6 (f_Uploads_no (by decide +kernel)) ?_
                walk_at "lw"
                refine ⟨c6, p, n, u, a, t, ts, X, rfl, U6, by omega, lt, fun z => absurd hc z, fun _ _ => ?_, fun _ z => absurd z he⟩
                walk_at "lw"
                rw [decide_eq_true rfl]
                exact k c6 H6 n ts X S6 U6 X6 (.inr ⟨rfl, Nat.le_refl _⟩) hts hnd (fun i => Nat.le_trans (hm i) (by omega)) fin6
            · rw [if_neg hc]
              refine ⟨false, rfl, ?_⟩
              obtain ⟨dx, _, _, hp6, _⟩ := id U6.ex
              walk_at "lw"
              refine g_rmeth hp6 (f_Uploads_no (by decide +kernel)) ?_
              walk_at "lw"
              refine ⟨c6, p, n, u, a, t, ts, X, rfl, U6, by omega, lt, fun _ => ?_, fun z => absurd z hc, fun z => absurd z hc⟩
              walk_at "lw"
              rw [decide_eq_true rfl]
              exact k c6 H6 n ts X S6 U6 X6 (.inr ⟨rfl, Nat.le_refl _⟩) hts hnd (fun i => Nat.le_trans (hm i) (by omega)) fin6
end
end Lw

namespace Lw
open PySem L2
open PyProof.Rows (envOfC sortedS)
def spLaw (K : PySem.W.Frag) : Sp := fun vs H Q _ => ∃ (a : Addr) (ns : List Int), vs = [.ref a] ∧ SqL K H a (ns.map V.int) ∧ ns.length ≤ 63 ∧ ∀ H', Q (.bl true) H'
/-- behind i turns -/
structure Turn (i : Nat) (C1 C2 : Addr) (c : Addr → Nat) (H : Hp) (S p d p2 d2 : Addr) (n n2 : Int) : Prop where
  St : StateAt c H S
  cl : ∃ (ks : List Int) (L : Int → List Str), ClaimsAt C1 c H p n ks L ∧ PinsAt c H d ks L ∧ (∀ k ∈ ks, k ≤ n) ∧ ks.length ≤ i ∧ (∀ i, ∀ x ∈ L i, x ∈ abcde) ∧ ∀ j, (L j).length ≤ i
  up : ∃ (ts : List Int) (X : Int → List Nat), UpAt C2 c H p2 n2 ts X ∧ TxAt c H d2 ts X ∧ (∀ k ∈ ts, k ≤ n2) ∧ ts.length ≤ i ∧ ts.Nodup ∧ ∀ j, (X j).length ≤ 4 * i
  n0 : 0 ≤ n
  n1 : n ≤ i
  m0 : 0 ≤ n2
  m1 : n2 ≤ i
theorem shS : ∀ (ys : List Str), (∀ x ∈ ys, PyData.strOk x = true) → PyData.canLayAll0 (ys.map PyData.str) = true ∧ PyData.depthAll (ys.map PyData.str) = 0
  | [], _ => ⟨rfl, rfl⟩
  | x :: r, h => by
    obtain ⟨h1, h2⟩ := shS r fun y hy => h y (List.mem_cons_of_mem _ hy)
    have h3 := h x List.mem_cons_self
    refine ⟨?_, ?_⟩
    · simp only [List.map_cons, PyData.canLayAll0, PyData.canLay0, h1, h3, Bool.and_true]
    · simp only [List.map_cons, PyData.depthAll, PyData.depth, h2, Nat.max_self]
theorem shI : ∀ (ys : List Int), PyData.canLayAll0 (ys.map PyData.int) = true ∧ PyData.depthAll (ys.map PyData.int) = 0
  | [] => ⟨rfl, rfl⟩
  | x :: r => by
    obtain ⟨h1, h2⟩ := shI r
    refine ⟨?_, ?_⟩
    · simp only [List.map_cons, PyData.canLayAll0, PyData.canLay0, h1, Bool.and_true]
    · simp only [List.map_cons, PyData.depthAll, PyData.depth, h2, Nat.max_self]
theorem shaped0 {ds : List PyData} (h : PyData.canLayAll0 ds = true ∧ PyData.depthAll ds = 0) : SeqAt.shaped (.list ds) = true := by
  unfold SeqAt.shaped
  rw [show (PyData.list ds).canLay0 = true from h.1, Bool.true_and, decide_eq_true_eq]
  simp only [PyData.depth, h.2]
  decide
theorem eqv_list0 {ds : List PyData} (h : PyData.canLayAll0 ds = true ∧ PyData.depthAll ds = 0) : PyData.eqv (.list ds) (.list ds) = true := SeqAt.eqv_refl _ (show (PyData.list ds).canLay0 = true from h.1)
theorem dpS {K : PySem.W.Frag} {H : Hp} : ∀ (ys : List Str), DpAll K H (ys.map V.str) (ys.map PyData.str)
  | [] => .nil
  | _ :: r => .cons (.str _) (dpS r)
theorem dpI {K : PySem.W.Frag} {H : Hp} : ∀ (ys : List Int), DpAll K H (ys.map V.int) (ys.map PyData.int)
  | [] => .nil
  | _ :: r => .cons (.int _) (dpI r)
theorem ok_abc : ∀ x ∈ abcde, PyData.strOk x = true := by
  intro x hx
  obtain ⟨c, hc, rfl⟩ := List.mem_map.mp hx
  have : c < 0x110000 := by
    have h : ∀ c ∈ ([97, 98, 99, 100, 101] : List Nat), c < 0x110000 := by decide
    exact h c hc
  unfold PyData.strOk
  simp [this]
theorem grew_max {n n' : Int} {l l' : Nat} (g : Grew n n' l l') : n + (if (l' : Int) - (l : Int) > 0 then (l' : Int) - (l : Int) else 0) = n' := by
  rcases g with ⟨h1, h2⟩ | ⟨h1, h2⟩ <;> split <;> omega
section
variable {P : Program} {w : World} {K : PySem.W.Frag} {mg : Str → Option Value} {base : Heap} {C_Claims C_Uploads : Addr}
theorem ok_law (T : Txt w K mg C_Claims C_Uploads) {f : Addr} {fd : FuncData} (F : Fun K "law" "law" s_law f fd) : FnOk P w K mg base CX0 4 f fd ["_law_script"] (spLaw K) := by
  have c__law_state : Cal P w K mg base 1 "_law_state" (spState K) := ok__law_state T
  have c__law_take : Cal P w K mg base 1 "_law_take" spTake := ok__law_take T
  have c__law_claim_step : Cal P w K mg base 2 "_law_claim_step" (spStep C_Claims) := ok__law_claim_step T
  have c__law_pinned : Cal P w K mg base 1 "_law_pinned" spPinned := ok__law_pinned T
  have c__law_upload_step : Cal P w K mg base 3 "_law_upload_step" (spUpStep C_Uploads) := ok__law_upload_step T
  have m_Claims : Mak P w K mg base 1 "Claims" C_Claims (spCInit C_Claims) := ok_Claims___init__ T
  have m_Uploads : Mak P w K mg base 1 "Uploads" C_Uploads (spUInit C_Uploads) := ok_Uploads___init__ T
  have t_Claims_numbers : Met P w K mg base 1 C_Claims "numbers" (spCNumbers C_Claims) := ok_Claims_numbers T
  have t_Claims_pinned : Met P w K mg base 1 C_Claims "pinned" (spCPinned C_Claims) := ok_Claims_pinned T
  have t_Uploads_finish : Met P w K mg base 1 C_Uploads "finish" (spUFin C_Uploads) := ok_Uploads_finish T
  refine F.ok sc_law (fun vs H Q E h => ?_) (fun cdv A outer s H vs Q E hr h => ?_)
  · obtain ⟨a, ns, rfl, _⟩ := h
    rfl
  · obtain ⟨sc, ns, rfl, hS, hlen, k⟩ := h
    have hu := hu_of hr
    refine ⟨_, (pss_cons (ps_set (i := 1) sc_law.nd rfl (by first | exact Or.inl rfl | exact Or.inr rfl) (pe_c c__law_state hr (by decide) rfl (pa_cons (pv 0) pa_nil)))
      (pss_cons (ps_set (i := 2) sc_law.nd rfl (by first | exact Or.inl rfl | exact Or.inr rfl) (pe_mk0 m_Claims hr (by decide) rfl))
      (pss_cons (ps_set (i := 3) sc_law.nd rfl (by first | exact Or.inl rfl | exact Or.inr rfl) (pe_dnewK))
      (pss_cons (ps_set (i := 4) sc_law.nd rfl (by first | exact Or.inl rfl | exact Or.inr rfl) (pe_int))
      (pss_cons (ps_set (i := 5) sc_law.nd rfl (by first | exact Or.inl rfl | exact Or.inr rfl) (pe_mk0 m_Uploads hr (by decide) rfl))
      (pss_cons (ps_set (i := 6) sc_law.nd rfl (by first | exact Or.inl rfl | exact Or.inr rfl) (pe_dnewK))
      (pss_cons (ps_set (i := 7) sc_law.nd rfl (by first | exact Or.inl rfl | exact Or.inr rfl) (pe_int))
      (pss_cons (ps_for PassesOwn.never rfl (pi_range1 (by rfl) T.n_range (pa_cons (pe_c c__law_take hr (by decide) rfl (pa_cons (pv 1) (pa_cons (pe_int) pa_nil))) pa_nil)) (pg_name (i := 8) sc_law.nd rfl (by first | exact Or.inl rfl | exact Or.inr rfl)) (pss_cons (ps_set (i := 9) sc_law.nd rfl (by first | exact Or.inl rfl | exact Or.inr rfl) (pe_callB call_lenD' (by rfl) T.n_len (by decide +kernel) (pa_cons (pv 3) pa_nil)))
      (pss_cons (ps_if (pt_not (pt_val (pe_c c__law_claim_step hr (by decide) rfl (pa_cons (pv 1) (pa_cons (pv 2) (pa_cons (pv 3) (pa_cons (pv 4) pa_nil))))))) (pss_one (ps_ret (pe_bl))) pss_nil)
      (pss_cons (ps_set (i := 4) sc_law.nd rfl (by first | exact Or.inl rfl | exact Or.inr rfl) (pe_op op_add (pv 4) (pe_callB (call_max2 rfl) (by rfl) T.n_max (by decide +kernel) (pa_cons (pe_int) (pa_cons (pe_op op_sub (pe_callB call_lenD' (by rfl) T.n_len (by decide +kernel) (pa_cons (pv 3) pa_nil)) (pv 9)) pa_nil)))))
      (pss_cons (ps_if (PW.pt (pw_or (pt_cmpR (op_neD hr.units) (pe_mt0 t_Claims_numbers hr (by decide) (pv 2)) (pe_callB (call_sortedDI rfl) (by rfl) T.n_sorted (by decide +kernel) (pa_cons (pv 3) pa_nil)) (nomark _)) (pw_or1 (pt_cmpR (op_neD hr.units) (pe_mt0 t_Claims_pinned hr (by decide) (pv 2)) (pe_c c__law_pinned hr (by decide) rfl (pa_cons (pv 3) pa_nil)) (nomark _))))) (pss_one (ps_ret (pe_bl))) pss_nil)
      (pss_cons (ps_set (i := 9) sc_law.nd rfl (by first | exact Or.inl rfl | exact Or.inr rfl) (pe_callB call_lenD' (by rfl) T.n_len (by decide +kernel) (pa_cons (pv 6) pa_nil)))
      (pss_cons (ps_if (pt_not (pt_val (pe_c c__law_upload_step hr (by decide) rfl (pa_cons (pv 1) (pa_cons (pv 5) (pa_cons (pv 6) (pa_cons (pv 7) pa_nil))))))) (pss_one (ps_ret (pe_bl))) pss_nil)
      (pss_one (ps_set (i := 7) sc_law.nd rfl (by first | exact Or.inl rfl | exact Or.inr rfl) (pe_op op_add (pv 7) (pe_callB (call_max2 rfl) (by rfl) T.n_max (by decide +kernel) (pa_cons (pe_int) (pa_cons (pe_op op_sub (pe_callB call_lenD' (by rfl) T.n_len (by decide +kernel) (pa_cons (pv 6) pa_nil)) (pv 9)) pa_nil)))))))))))))
      (pss_cons (ps_for PassesOwn.never rfl (pi_range1 (by rfl) T.n_range (pa_cons (pe_op op_add (pv 7) (pe_int)) pa_nil)) (pg_name (i := 10) sc_law.nd rfl (by first | exact Or.inl rfl | exact Or.inr rfl)) (pss_one (ps_if (pt_cmpR op_ne (pe_mt t_Uploads_finish hr (by decide) (pv 5) (pa_cons (pv 10) pa_nil)) (pe_dget1 hu (pv 6) (pv 10) ⟨rfl, by rfl, rfl, rfl⟩) (nomark _)) (pss_one (ps_ret (pe_bl))) pss_nil)))
      (pss_one (ps_ret (pe_bl)))))))))))), ?_⟩
    walk_at "lw"
    refine ⟨sc, ns, fun _ => 9, rfl, hS, hlen, fun S c1 H1 S1 st1 => ?_⟩
    walk_at "lw"
    intro p dx np ndx nex
    refine ⟨p, dx, rfl, upd_same, fun l H2 nl hp hl kp => ⟨rfl, ?_⟩⟩
    have s2 : Same H1 H2 := Same.made np ndx kp
    have s2' : Same H1 (upd (upd H1 dx (.own p)) p (.ins C_Claims dx [])) := (Same.new ndx).thenNew (by rw [upd_ne nex.symm]; exact np)
    have npl : p ≠ l := fun z => by subst z; rw [upd_same] at nl; cases nl
    have nl1 : H1 l = none := s2'.free nl
    have st2 : Stp (fun _ => False) c1 (Stp.paint (Stp.paint c1 p 1) l 1) H1 H2 := Stp.sameC s2 fun b o e => by
      rw [Stp.paint_ne (ne_of_none e nl1), Stp.paint_ne (ne_of_none e np)]
    have W2 : ClaimsAt C_Claims (Stp.paint (Stp.paint c1 p 1) l 1) H2 p 0 [] (fun _ => []) := ⟨dx, l, fun _ => l, by rw [Stp.paint_ne npl]; exact Stp.paint_same, hp, Stp.paint_same, hl, (by simp), (by simp), (by simp)⟩
    generalize Stp.paint (Stp.paint c1 p 1) l 1 = c2 at st2 W2
    have S2 := S1.frame st2 (by decide)
    clear S1 st2 st1 kp hp hl s2 s2' npl nl1 nl np ndx nex
    walk_at "lw"
    refine g_dnew fun d H3 nd s3 hd => ?_
    have st3 : Stp (fun _ => False) c2 (Stp.paint c2 d 2) H2 H3 := L2x_sameN s3 nd
    have W3 := W2.frame st3 (by decide)
    have S3 := S2.frame st3 (by decide)
    have P3 : PinsAt (Stp.paint c2 d 2) H3 d [] (fun _ => []) := ⟨fun _ => d, Stp.paint_same, hd, by intro i hi; cases hi⟩
    generalize Stp.paint c2 d 2 = c3 at st3 W3 S3 P3
    clear W2 S2 st3 s3 nd hd
    walk_at "lw"
    intro p2 dx2 np ndx nex
    refine ⟨p2, dx2, rfl, upd_same, fun l H4 nl hp hl kp => ⟨rfl, ?_⟩⟩
    have s4 : Same H3 H4 := Same.made np ndx kp
    have s4' : Same H3 (upd (upd H3 dx2 (.own p2)) p2 (.ins C_Uploads dx2 [])) := (Same.new ndx).thenNew (by rw [upd_ne nex.symm]; exact np)
    have npl : p2 ≠ l := fun z => by subst z; rw [upd_same] at nl; cases nl
    have nl1 : H3 l = none := s4'.free nl
    have st4 : Stp (fun _ => False) c3 (Stp.paint (Stp.paint c3 p2 3) l 3) H3 H4 := Stp.sameC s4 fun b o e => by
      rw [Stp.paint_ne (ne_of_none e nl1), Stp.paint_ne (ne_of_none e np)]
    have U4 : UpAt C_Uploads (Stp.paint (Stp.paint c3 p2 3) l 3) H4 p2 0 [] (fun _ => []) := ⟨dx2, l, by rw [Stp.paint_ne npl]; exact Stp.paint_same, hp, Stp.paint_same, hl⟩
    generalize Stp.paint (Stp.paint c3 p2 3) l 3 = c4 at st4 U4
    have S4 := S3.frame st4 (by decide)
    have W4 := W3.frame st4 (by decide)
    have P4 := P3.frame st4 (by decide)
    clear S3 W3 P3 st4 kp hp hl s4 s4' npl nl1 nl np ndx nex
    walk_at "lw"
    refine g_dnew fun d2 H5 nd s5 hd => ?_
    have st5 : Stp (fun _ => False) c4 (Stp.paint c4 d2 4) H4 H5 := L2x_sameN s5 nd
    have W5 := W4.frame st5 (by decide)
    have S5 := S4.frame st5 (by decide)
    have P5 := P4.frame st5 (by decide)
    have U5 := U4.frame st5 (by decide)
    have X5 : TxAt (Stp.paint c4 d2 4) H5 d2 [] (fun _ => []) := ⟨Stp.paint_same, hd⟩
    generalize Stp.paint c4 d2 4 = c5 at st5 W5 S5 P5 U5 X5
    clear W4 S4 P4 U4 st5 s5 nd hd
    walk_at "lw"
    refine ⟨c5, S, 41, rfl, S5, by decide, by decide, fun r c6 H6 r0 r1 S6 st6 => ?_⟩
    have W6 := W5.frame st6 (by decide)
    have P6 := P5.frame st6 (by decide)
    have U6 := U5.frame st6 (by decide)
    have X6 := X5.frame st6 (by decide)
    clear W5 S5 P5 U5 X5 st6
    walk_at "lw"
    refine g_for1 r0 (by omega) (fun i σ H => ∃ c n n2 v8 v9 v10, σ = [some (.ref sc), some (.ref S), some (.ref p), some (.ref d), some (.int n), some (.ref p2), some (.ref d2), some (.int n2), v8, v9, v10] ∧ Turn i C_Claims C_Uploads c H S p d p2 d2 n n2) ?_ ?_ ?_
    · exact ⟨c6, 0, 0, _, _, _, rfl, S6, ⟨[], _, W6, P6, (by simp), Nat.zero_le _, (by simp), fun j => Nat.zero_le _⟩, ⟨[], _, U6, X6, (by simp), Nat.zero_le _, List.nodup_nil, fun j => Nat.zero_le _⟩, by decide, by decide, by decide, by decide⟩
    · clear S6 W6 P6 U6 X6
      rintro i σ H7 hi ⟨c7, n, n2, v8, v9, v10, rfl, S7, ⟨ks, L, W7, P7, hks, hkl, hL, hLl⟩, ⟨ts, X, U7, X7, hts, htl, hnd, hXl⟩, n0, n1, m0, m1⟩
      have hi41 : i < 41 := by omega
      obtain ⟨B, _, b2, _⟩ := id P7.ex
      walk_at "lw"
      refine ⟨c7, S, p, d, n, ks, L, i, rfl, S7, W7, P7, n0, by omega, hks, by omega, hL, hLl, by omega, fun c8 H8 n' ks' L' S8 W8 P8 gr hks' hL' hLl' st8 => ?_⟩
      have U8 := U7.frame st8 (by decide)
      have X8 := X7.frame st8 (by decide)
      clear S7 W7 P7 U7 X7 st8 hks hL hLl
      walk_at "lw"
      refine iteF ?_
      obtain ⟨B', _, b8, _⟩ := id P8.ex
      walk_at "lw"
      refine ⟨0, _, rfl, ?_⟩
      rw [mkD_len, mkD_len]
      walk_at "lw"
      rw [grew_max gr]
      have hkl' : ks'.length ≤ i + 1 := by rcases gr with ⟨_, h⟩ | ⟨_, h⟩ <;> omega
      have hn' : 0 ≤ n' ∧ n' ≤ i + 1 := by rcases gr with ⟨h, _⟩ | ⟨h, _⟩ <;> omega
      clear b2 gr hkl n0 n1
      obtain ⟨dx8, _, _, _, hp8, _⟩ := id W8.ex
      walk_at "lw"
      refine g_rmeth hp8 (f_Claims_no (by decide +kernel)) ?_
      walk_at "lw"
      refine ⟨c8, p, n', ks', L', rfl, W8, by omega, fun r1 y1 H9 hp1 hs1 s9 hr1 => ?_⟩
      walk_at "lw"
      refine ⟨d, _, ks', rfl, .of (s9 _ _ b8), mkD_keys, by omega, fun y2 r2 hp2 hs2 nr2 => ?_⟩
      have e12 : y2 = y1 := int_sorted_eq (hp2.trans hp1.symm) hs2 hs1
      subst e12
      refine ⟨_, _, .lst (SqL.of ((Same.new nr2) _ _ hr1)) (dpI y2), .lst (SqL.of upd_same) (dpI y2), shaped0 (shI y2), shaped0 (shI y2), ?_⟩
      rw [eqv_list0 (shI y2)]
      have s10 := s9.thenNew (o := .lst (y2.map V.int)) nr2
      generalize upd H9 r2 (.lst (y2.map V.int)) = H10 at s10
      walk_at "lw"
      refine iteF ?_
      have st10 : Stp (fun _ => False) c8 c8 H8 H10 := Stp.same s10
      have W10 := W8.frame st10 (by decide)
      have P10 := P8.frame st10 (by decide)
      have U10 := U8.frame st10 (by decide)
      have X10 := X8.frame st10 (by decide)
      have S10 := S8.frame st10 (by decide)
      clear W8 P8 U8 X8 S8 st10 s10 s9 hr1 nr2 hp1 hp2 hs1 hs2
      have hL60 : ∀ j, (L' j).length ≤ 60 := fun j => Nat.le_trans (hLl' j) (by omega)
      walk_at "lw"
      obtain ⟨dx10, _, _, _, hp10, _⟩ := id W10.ex
      refine g_rmeth hp10 (f_Claims_no (by decide +kernel)) ?_
      walk_at "lw"
      refine ⟨c8, p, n', ks', L', abcde, rfl, W10, fun i _ => hL' i, by decide, fun r3 y3 H11 nd3 ss3 hm3 s11 hr3 => ?_⟩
      walk_at "lw"
      refine ⟨c8, d, ks', L', rfl, P10.frame (Stp.same (I := fun _ => False) s11) (by decide), hL', hL60, by omega, fun r4 y4 H12 nd4 ss4 hm4 s12 hr4 => ?_⟩
      have e34 : y4 = y3 := str_sorted_eq (perm_same nd4 nd3 fun x => by rw [hm4, hm3]) ss4 ss3
      subst e34
      have ok4 : ∀ x ∈ y4, PyData.strOk x = true := fun x hx => by
        obtain ⟨j, _, hj⟩ := (hm4 x).mp hx
        exact ok_abc x (hL' j x hj)
      refine ⟨_, _, .lst (SqL.of (s12 _ _ hr3)) (dpS y4), .lst (SqL.of hr4) (dpS y4), shaped0 (shS y4 ok4), shaped0 (shS y4 ok4), ?_⟩
      rw [eqv_list0 (shS y4 ok4)]
      have st12 : Stp (fun _ => False) c8 c8 H10 H12 := Stp.same (s11.trans s12)
      have W12 := W10.frame st12 (by decide)
      have P12 := P10.frame st12 (by decide)
      have U12 := U10.frame st12 (by decide)
      have X12 := X10.frame st12 (by decide)
      have S12 := S10.frame st12 (by decide)
      clear W10 P10 U10 X10 S10 st12 s11 s12 hr3 hr4 nd3 nd4 ss3 ss4 hm3 hm4 ok4 hp10 hp8 b8
      walk_at "lw"
      refine iteF ?_
      have b12 := X12.hd
      walk_at "lw"
      refine ⟨c8, S, p2, d2, n2, ts, X, 4 * i, rfl, S12, U12, X12, m0, by omega, hts, by omega, hnd, hXl, by omega, fun c13 H13 n2' ts' X' S13 U13 X13 gr hts' hnd' hXl' st13 => ?_⟩
      have W13 := W12.frame st13 (by decide)
      have P13 := P12.frame st13 (by decide)
      have b13 := X13.hd
      walk_at "lw"
      refine iteF ?_
      walk_at "lw"
      refine ⟨0, _, rfl, ?_⟩
      rw [mkD_len, mkD_len]
      walk_at "lw"
      rw [grew_max gr]
      have htl' : ts'.length ≤ i + 1 := by rcases gr with ⟨_, h⟩ | ⟨_, h⟩ <;> omega
      have hm' : 0 ≤ n2' ∧ n2' ≤ i + 1 := by rcases gr with ⟨h, _⟩ | ⟨h, _⟩ <;> omega
      exact ⟨c13, n', n2', _, _, _, rfl, S13, ⟨ks', L', W13, P13, hks', hkl', hL', hLl'⟩, ⟨ts', X', U13, X13, hts', htl', hnd', fun j => Nat.le_trans (hXl' j) (by omega)⟩, hn'.1, by have := hn'.2; omega, hm'.1, by have := hm'.2; omega⟩
    · clear S6 W6 P6 U6 X6
      rintro σ H7 ⟨c7, n, n2, v8, v9, v10, rfl, S7, _, ⟨ts, X, U7, X7, hts, htl, hnd, hXl⟩, n0, n1, m0, m1⟩
      walk_at "lw"
      refine g_for1 (by omega) (by omega) (fun i σ H => ∃ v8 v9 v10, σ = [some (.ref sc), some (.ref S), some (.ref p), some (.ref d), some (.int n), some (.ref p2), some (.ref d2), some (.int n2), v8, v9, v10] ∧ TxAt c7 H d2 ts X ∧ ∃ ts', UpAt C_Uploads c7 H p2 n2 ts' X ∧ ∀ j : Int, (i : Int) ≤ j → (j ∈ ts' ↔ j ∈ ts)) ?_ ?_ ?_
      · exact ⟨_, _, _, rfl, X7, ts, U7, fun _ _ => Iff.rfl⟩
      · rintro i σ H8 hi ⟨v8, v9, v10, rfl, X8, ts', U8, hj⟩
        obtain ⟨dx8, _, _, hp8, _⟩ := id U8.ex
        have hii := hj i (Int.le_refl _)
        walk_at "lw"
        refine g_rmeth hp8 (f_Uploads_no (by decide +kernel)) ?_
        walk_at "lw"
        refine ⟨c7, p2, n2, (i : Int), ts', X, rfl, U8, fun hn => ?_, fun hy H9 U9 st9 => ?_⟩
        · have hn2 : (i : Int) ∉ ts := fun z => hn (hii.mpr z)
          walk_at "lw"
          refine g_risd (.of X8.hd) ?_
          walk_at "lw"
          refine g_rdget1I (.of X8.hd) ?_
          rw [valV_mkD, if_neg hn2]
          refine g_ne rfl ?_
          refine ⟨_, rfl, ?_⟩
          rw [Option.getD_none, decide_eq_true rfl]
          refine iteF ?_
          walk_at "lw"
          exact ⟨_, _, _, rfl, X8, ts', U8, fun j h => hj j (by omega)⟩
        · have hy2 : (i : Int) ∈ ts := hii.mp hy
          have X9 := X8.frame st9 (by decide)
          walk_at "lw"
          refine g_risd (.of X9.hd) ?_
          walk_at "lw"
          refine g_rdget1I (.of X9.hd) ?_
          rw [valV_mkD, if_pos hy2]
          refine g_ne rfl ?_
          refine ⟨_, rfl, ?_⟩
          rw [Option.getD_some, decide_eq_true rfl]
          refine iteF ?_
          walk_at "lw"
          refine ⟨_, _, _, rfl, X9, _, U9, fun j h => ?_⟩
          rw [List.mem_filter, decide_eq_true_eq, hj j (by omega)]
          exact ⟨fun z => z.1, fun z => ⟨z, by omega⟩⟩
      · rintro σ H8 ⟨v8, v9, v10, rfl, X8, ts', U8, hj⟩
        walk_at "lw"
        exact k H8
end
end Lw

namespace Lw
open PySem L2
open PyProof.Rows (envOfC)
theorem all_mk {l : PySem.W.OpenLaw} {w : World} {K : PySem.W.Frag} {h : Heap} {mg : Str → Option Value} {fa C_Claims C_Uploads f_Claims___init__ f_Claims_begin f_Claims_is_open f_Claims_pin f_Claims_end f_Claims_numbers f_Claims_pinned f_Uploads___init__ f_Uploads_begin f_Uploads_add_part f_Uploads_finish f_Uploads_forget f__law_state f__law_take f__law_text f__law_claim_step f__law_pinned f__law_upload_step f_law : Addr} {od_Claims___init__ an_Claims___init__ : Option Addr} {sl_Claims___init__ : Array (Option Value)} {oc_Claims___init__ kV_Claims___init__ dc_Claims___init__ pm_Claims___init__ cd_Claims___init__ ct_Claims___init__ : Value} {od_Claims_begin an_Claims_begin : Option Addr} {sl_Claims_begin : Array (Option Value)} {oc_Claims_begin kV_Claims_begin dc_Claims_begin pm_Claims_begin cd_Claims_begin ct_Claims_begin : Value} {od_Claims_is_open an_Claims_is_open : Option Addr} {sl_Claims_is_open : Array (Option Value)} {oc_Claims_is_open kV_Claims_is_open dc_Claims_is_open pm_Claims_is_open cd_Claims_is_open ct_Claims_is_open : Value} {od_Claims_pin an_Claims_pin : Option Addr} {sl_Claims_pin : Array (Option Value)} {oc_Claims_pin kV_Claims_pin dc_Claims_pin pm_Claims_pin cd_Claims_pin ct_Claims_pin : Value} {od_Claims_end an_Claims_end : Option Addr} {sl_Claims_end : Array (Option Value)} {oc_Claims_end kV_Claims_end dc_Claims_end pm_Claims_end cd_Claims_end ct_Claims_end : Value} {od_Claims_numbers an_Claims_numbers : Option Addr} {sl_Claims_numbers : Array (Option Value)} {oc_Claims_numbers kV_Claims_numbers dc_Claims_numbers pm_Claims_numbers cd_Claims_numbers ct_Claims_numbers : Value} {od_Claims_pinned an_Claims_pinned : Option Addr} {sl_Claims_pinned : Array (Option Value)} {oc_Claims_pinned kV_Claims_pinned dc_Claims_pinned pm_Claims_pinned cd_Claims_pinned ct_Claims_pinned : Value} {od_Uploads___init__ an_Uploads___init__ : Option Addr} {sl_Uploads___init__ : Array (Option Value)} {oc_Uploads___init__ kV_Uploads___init__ dc_Uploads___init__ pm_Uploads___init__ cd_Uploads___init__ ct_Uploads___init__ : Value} {od_Uploads_begin an_Uploads_begin : Option Addr} {sl_Uploads_begin : Array (Option Value)} {oc_Uploads_begin kV_Uploads_begin dc_Uploads_begin pm_Uploads_begin cd_Uploads_begin ct_Uploads_begin : Value} {od_Uploads_add_part an_Uploads_add_part : Option Addr} {sl_Uploads_add_part : Array (Option Value)} {oc_Uploads_add_part kV_Uploads_add_part dc_Uploads_add_part pm_Uploads_add_part cd_Uploads_add_part ct_Uploads_add_part : Value} {od_Uploads_finish an_Uploads_finish : Option Addr} {sl_Uploads_finish : Array (Option Value)} {oc_Uploads_finish kV_Uploads_finish dc_Uploads_finish pm_Uploads_finish cd_Uploads_finish ct_Uploads_finish : Value} {od_Uploads_forget an_Uploads_forget : Option Addr} {sl_Uploads_forget : Array (Option Value)} {oc_Uploads_forget kV_Uploads_forget dc_Uploads_forget pm_Uploads_forget cd_Uploads_forget ct_Uploads_forget : Value} {od__law_state an__law_state : Option Addr} {sl__law_state : Array (Option Value)} {oc__law_state kV__law_state dc__law_state pm__law_state cd__law_state ct__law_state : Value} {od__law_take an__law_take : Option Addr} {sl__law_take : Array (Option Value)} {oc__law_take kV__law_take dc__law_take pm__law_take cd__law_take ct__law_take : Value} {od__law_text an__law_text : Option Addr} {sl__law_text : Array (Option Value)} {oc__law_text kV__law_text dc__law_text pm__law_text cd__law_text ct__law_text : Value} {od__law_claim_step an__law_claim_step : Option Addr} {sl__law_claim_step : Array (Option Value)} {oc__law_claim_step kV__law_claim_step dc__law_claim_step pm__law_claim_step cd__law_claim_step ct__law_claim_step : Value} {od__law_pinned an__law_pinned : Option Addr} {sl__law_pinned : Array (Option Value)} {oc__law_pinned kV__law_pinned dc__law_pinned pm__law_pinned cd__law_pinned ct__law_pinned : Value} {od__law_upload_step an__law_upload_step : Option Addr} {sl__law_upload_step : Array (Option Value)} {oc__law_upload_step kV__law_upload_step dc__law_upload_step pm__law_upload_step cd__law_upload_step ct__law_upload_step : Value} {od_law an_law : Option Addr} {sl_law : Array (Option Value)} {oc_law kV_law dc_law pm_law cd_law ct_law : Value} (X : K.In h) (G : h.Ns mainGlobals mg) (hfa : mg "law" = some (.ref fa))
    (a_Claims : PySem.W.nsIn K mainGlobals "Claims" = some (some (.ref C_Claims)))
    (pg_Claims : PySem.W.plainGet K C_Claims Str.empty = true)
    (hd_Claims : PySem.W.hasDictIn K C_Claims = true)
    (po_Claims : PySem.W.plainOver K C_Claims = true)
    (sa_Claims : PySem.W.findIn K (.ref C_Claims) "__setattr__" = some (some (.builtin "object.__setattr__")))
    (mk_Claims : PySem.W.makesIn K C_Claims = true)
    (kc_Claims : PySem.W.keepIn K (.ref C_Claims) = true)
    (na_Claims_last : PySem.W.findIn K (.ref C_Claims) "last" = some none)
    (na_Claims_pins : PySem.W.findIn K (.ref C_Claims) "pins" = some none)
    (a_Claims___init__ : PySem.W.findIn K (.ref C_Claims) "__init__" = some (some (.ref f_Claims___init__)))
    (i_Claims___init__ : PySem.W.isFn K (.ref f_Claims___init__) = true)
    (l_Claims___init__ : K.lookup f_Claims___init__ = some ⟨oc_Claims___init__, od_Claims___init__, .func (PySem.W.fnOf "__init__" "Claims.__init__" (defArgs s_Claims___init__) (defBody s_Claims___init__) (defScope s_Claims___init__) .none kV_Claims___init__ dc_Claims___init__ pm_Claims___init__ an_Claims___init__ cd_Claims___init__ ct_Claims___init__), sl_Claims___init__⟩)
    (c_Claims___init__ : PySem.W.codeIn K cd_Claims___init__ "Claims.__init__" = true)
    (k_Claims___init__ : PySem.W.keepIn K (.ref f_Claims___init__) = true)
    (a_Claims_begin : PySem.W.findIn K (.ref C_Claims) "begin" = some (some (.ref f_Claims_begin)))
    (i_Claims_begin : PySem.W.isFn K (.ref f_Claims_begin) = true)
    (l_Claims_begin : K.lookup f_Claims_begin = some ⟨oc_Claims_begin, od_Claims_begin, .func (PySem.W.fnOf "begin" "Claims.begin" (defArgs s_Claims_begin) (defBody s_Claims_begin) (defScope s_Claims_begin) .none kV_Claims_begin dc_Claims_begin pm_Claims_begin an_Claims_begin cd_Claims_begin ct_Claims_begin), sl_Claims_begin⟩)
    (c_Claims_begin : PySem.W.codeIn K cd_Claims_begin "Claims.begin" = true)
    (k_Claims_begin : PySem.W.keepIn K (.ref f_Claims_begin) = true)
    (a_Claims_is_open : PySem.W.findIn K (.ref C_Claims) "is_open" = some (some (.ref f_Claims_is_open)))
    (i_Claims_is_open : PySem.W.isFn K (.ref f_Claims_is_open) = true)
    (l_Claims_is_open : K.lookup f_Claims_is_open = some ⟨oc_Claims_is_open, od_Claims_is_open, .func (PySem.W.fnOf "is_open" "Claims.is_open" (defArgs s_Claims_is_open) (defBody s_Claims_is_open) (defScope s_Claims_is_open) .none kV_Claims_is_open dc_Claims_is_open pm_Claims_is_open an_Claims_is_open cd_Claims_is_open ct_Claims_is_open), sl_Claims_is_open⟩)
    (c_Claims_is_open : PySem.W.codeIn K cd_Claims_is_open "Claims.is_open" = true)
    (k_Claims_is_open : PySem.W.keepIn K (.ref f_Claims_is_open) = true)
    (a_Claims_pin : PySem.W.findIn K (.ref C_Claims) "pin" = some (some (.ref f_Claims_pin)))
    (i_Claims_pin : PySem.W.isFn K (.ref f_Claims_pin) = true)
    (l_Claims_pin : K.lookup f_Claims_pin = some ⟨oc_Claims_pin, od_Claims_pin, .func (PySem.W.fnOf "pin" "Claims.pin" (defArgs s_Claims_pin) (defBody s_Claims_pin) (defScope s_Claims_pin) .none kV_Claims_pin dc_Claims_pin pm_Claims_pin an_Claims_pin cd_Claims_pin ct_Claims_pin), sl_Claims_pin⟩)
    (c_Claims_pin : PySem.W.codeIn K cd_Claims_pin "Claims.pin" = true)
    (k_Claims_pin : PySem.W.keepIn K (.ref f_Claims_pin) = true)
    (a_Claims_end : PySem.W.findIn K (.ref C_Claims) "end" = some (some (.ref f_Claims_end)))
    (i_Claims_end : PySem.W.isFn K (.ref f_Claims_end) = true)
    (l_Claims_end : K.lookup f_Claims_end = some ⟨oc_Claims_end, od_Claims_end, .func (PySem.W.fnOf "end" "Claims.end" (defArgs s_Claims_end) (defBody s_Claims_end) (defScope s_Claims_end) .none kV_Claims_end dc_Claims_end pm_Claims_end an_Claims_end cd_Claims_end ct_Claims_end), sl_Claims_end⟩)
    (c_Claims_end : PySem.W.codeIn K cd_Claims_end "Claims.end" = true)
    (k_Claims_end : PySem.W.keepIn K (.ref f_Claims_end) = true)
    (a_Claims_numbers : PySem.W.findIn K (.ref C_Claims) "numbers" = some (some (.ref f_Claims_numbers)))
    (i_Claims_numbers : PySem.W.isFn K (.ref f_Claims_numbers) = true)
    (l_Claims_numbers : K.lookup f_Claims_numbers = some ⟨oc_Claims_numbers, od_Claims_numbers, .func (PySem.W.fnOf "numbers" "Claims.numbers" (defArgs s_Claims_numbers) (defBody s_Claims_numbers) (defScope s_Claims_numbers) .none kV_Claims_numbers dc_Claims_numbers pm_Claims_numbers an_Claims_numbers cd_Claims_numbers ct_Claims_numbers), sl_Claims_numbers⟩)
    (c_Claims_numbers : PySem.W.codeIn K cd_Claims_numbers "Claims.numbers" = true)
    (k_Claims_numbers : PySem.W.keepIn K (.ref f_Claims_numbers) = true)
    (a_Claims_pinned : PySem.W.findIn K (.ref C_Claims) "pinned" = some (some (.ref f_Claims_pinned)))
    (i_Claims_pinned : PySem.W.isFn K (.ref f_Claims_pinned) = true)
    (l_Claims_pinned : K.lookup f_Claims_pinned = some ⟨oc_Claims_pinned, od_Claims_pinned, .func (PySem.W.fnOf "pinned" "Claims.pinned" (defArgs s_Claims_pinned) (defBody s_Claims_pinned) (defScope s_Claims_pinned) .none kV_Claims_pinned dc_Claims_pinned pm_Claims_pinned an_Claims_pinned cd_Claims_pinned ct_Claims_pinned), sl_Claims_pinned⟩)
    (c_Claims_pinned : PySem.W.codeIn K cd_Claims_pinned "Claims.pinned" = true)
    (k_Claims_pinned : PySem.W.keepIn K (.ref f_Claims_pinned) = true)
    (a_Uploads : PySem.W.nsIn K mainGlobals "Uploads" = some (some (.ref C_Uploads)))
    (pg_Uploads : PySem.W.plainGet K C_Uploads Str.empty = true)
    (hd_Uploads : PySem.W.hasDictIn K C_Uploads = true)
    (po_Uploads : PySem.W.plainOver K C_Uploads = true)
    (sa_Uploads : PySem.W.findIn K (.ref C_Uploads) "__setattr__" = some (some (.builtin "object.__setattr__")))
    (mk_Uploads : PySem.W.makesIn K C_Uploads = true)
    (kc_Uploads : PySem.W.keepIn K (.ref C_Uploads) = true)
    (na_Uploads_last : PySem.W.findIn K (.ref C_Uploads) "last" = some none)
    (na_Uploads_texts : PySem.W.findIn K (.ref C_Uploads) "texts" = some none)
    (a_Uploads___init__ : PySem.W.findIn K (.ref C_Uploads) "__init__" = some (some (.ref f_Uploads___init__)))
    (i_Uploads___init__ : PySem.W.isFn K (.ref f_Uploads___init__) = true)
    (l_Uploads___init__ : K.lookup f_Uploads___init__ = some ⟨oc_Uploads___init__, od_Uploads___init__, .func (PySem.W.fnOf "__init__" "Uploads.__init__" (defArgs s_Uploads___init__) (defBody s_Uploads___init__) (defScope s_Uploads___init__) .none kV_Uploads___init__ dc_Uploads___init__ pm_Uploads___init__ an_Uploads___init__ cd_Uploads___init__ ct_Uploads___init__), sl_Uploads___init__⟩)
    (c_Uploads___init__ : PySem.W.codeIn K cd_Uploads___init__ "Uploads.__init__" = true)
    (k_Uploads___init__ : PySem.W.keepIn K (.ref f_Uploads___init__) = true)
    (a_Uploads_begin : PySem.W.findIn K (.ref C_Uploads) "begin" = some (some (.ref f_Uploads_begin)))
    (i_Uploads_begin : PySem.W.isFn K (.ref f_Uploads_begin) = true)
    (l_Uploads_begin : K.lookup f_Uploads_begin = some ⟨oc_Uploads_begin, od_Uploads_begin, .func (PySem.W.fnOf "begin" "Uploads.begin" (defArgs s_Uploads_begin) (defBody s_Uploads_begin) (defScope s_Uploads_begin) .none kV_Uploads_begin dc_Uploads_begin pm_Uploads_begin an_Uploads_begin cd_Uploads_begin ct_Uploads_begin), sl_Uploads_begin⟩)
    (c_Uploads_begin : PySem.W.codeIn K cd_Uploads_begin "Uploads.begin" = true)
    (k_Uploads_begin : PySem.W.keepIn K (.ref f_Uploads_begin) = true)
    (a_Uploads_add_part : PySem.W.findIn K (.ref C_Uploads) "add_part" = some (some (.ref f_Uploads_add_part)))
    (i_Uploads_add_part : PySem.W.isFn K (.ref f_Uploads_add_part) = true)
    (l_Uploads_add_part : K.lookup f_Uploads_add_part = some ⟨oc_Uploads_add_part, od_Uploads_add_part, .func (PySem.W.fnOf "add_part" "Uploads.add_part" (defArgs s_Uploads_add_part) (defBody s_Uploads_add_part) (defScope s_Uploads_add_part) .none kV_Uploads_add_part dc_Uploads_add_part pm_Uploads_add_part an_Uploads_add_part cd_Uploads_add_part ct_Uploads_add_part), sl_Uploads_add_part⟩)
    (c_Uploads_add_part : PySem.W.codeIn K cd_Uploads_add_part "Uploads.add_part" = true)
    (k_Uploads_add_part : PySem.W.keepIn K (.ref f_Uploads_add_part) = true)
    (a_Uploads_finish : PySem.W.findIn K (.ref C_Uploads) "finish" = some (some (.ref f_Uploads_finish)))
    (i_Uploads_finish : PySem.W.isFn K (.ref f_Uploads_finish) = true)
    (l_Uploads_finish : K.lookup f_Uploads_finish = some ⟨oc_Uploads_finish, od_Uploads_finish, .func (PySem.W.fnOf "finish" "Uploads.finish" (defArgs s_Uploads_finish) (defBody s_Uploads_finish) (defScope s_Uploads_finish) .none kV_Uploads_finish dc_Uploads_finish pm_Uploads_finish an_Uploads_finish cd_Uploads_finish ct_Uploads_finish), sl_Uploads_finish⟩)
    (c_Uploads_finish : PySem.W.codeIn K cd_Uploads_finish "Uploads.finish" = true)
    (k_Uploads_finish : PySem.W.keepIn K (.ref f_Uploads_finish) = true)
    (a_Uploads_forget : PySem.W.findIn K (.ref C_Uploads) "forget" = some (some (.ref f_Uploads_forget)))
    (i_Uploads_forget : PySem.W.isFn K (.ref f_Uploads_forget) = true)
    (l_Uploads_forget : K.lookup f_Uploads_forget = some ⟨oc_Uploads_forget, od_Uploads_forget, .func (PySem.W.fnOf "forget" "Uploads.forget" (defArgs s_Uploads_forget) (defBody s_Uploads_forget) (defScope s_Uploads_forget) .none kV_Uploads_forget dc_Uploads_forget pm_Uploads_forget an_Uploads_forget cd_Uploads_forget ct_Uploads_forget), sl_Uploads_forget⟩)
    (c_Uploads_forget : PySem.W.codeIn K cd_Uploads_forget "Uploads.forget" = true)
    (k_Uploads_forget : PySem.W.keepIn K (.ref f_Uploads_forget) = true)
    (a__law_state : PySem.W.nsIn K mainGlobals "_law_state" = some (some (.ref f__law_state)))
    (l__law_state : K.lookup f__law_state = some ⟨oc__law_state, od__law_state, .func (PySem.W.fnOf "_law_state" "_law_state" (defArgs s__law_state) (defBody s__law_state) (defScope s__law_state) .none kV__law_state dc__law_state pm__law_state an__law_state cd__law_state ct__law_state), sl__law_state⟩)
    (c__law_state : PySem.W.codeIn K cd__law_state "_law_state" = true)
    (k__law_state : PySem.W.keepIn K (.ref f__law_state) = true)
    (a__law_take : PySem.W.nsIn K mainGlobals "_law_take" = some (some (.ref f__law_take)))
    (l__law_take : K.lookup f__law_take = some ⟨oc__law_take, od__law_take, .func (PySem.W.fnOf "_law_take" "_law_take" (defArgs s__law_take) (defBody s__law_take) (defScope s__law_take) .none kV__law_take dc__law_take pm__law_take an__law_take cd__law_take ct__law_take), sl__law_take⟩)
    (c__law_take : PySem.W.codeIn K cd__law_take "_law_take" = true)
    (k__law_take : PySem.W.keepIn K (.ref f__law_take) = true)
    (a__law_text : PySem.W.nsIn K mainGlobals "_law_text" = some (some (.ref f__law_text)))
    (l__law_text : K.lookup f__law_text = some ⟨oc__law_text, od__law_text, .func (PySem.W.fnOf "_law_text" "_law_text" (defArgs s__law_text) (defBody s__law_text) (defScope s__law_text) .none kV__law_text dc__law_text pm__law_text an__law_text cd__law_text ct__law_text), sl__law_text⟩)
    (c__law_text : PySem.W.codeIn K cd__law_text "_law_text" = true)
    (k__law_text : PySem.W.keepIn K (.ref f__law_text) = true)
    (a__law_claim_step : PySem.W.nsIn K mainGlobals "_law_claim_step" = some (some (.ref f__law_claim_step)))
    (l__law_claim_step : K.lookup f__law_claim_step = some ⟨oc__law_claim_step, od__law_claim_step, .func (PySem.W.fnOf "_law_claim_step" "_law_claim_step" (defArgs s__law_claim_step) (defBody s__law_claim_step) (defScope s__law_claim_step) .none kV__law_claim_step dc__law_claim_step pm__law_claim_step an__law_claim_step cd__law_claim_step ct__law_claim_step), sl__law_claim_step⟩)
    (c__law_claim_step : PySem.W.codeIn K cd__law_claim_step "_law_claim_step" = true)
    (k__law_claim_step : PySem.W.keepIn K (.ref f__law_claim_step) = true)
    (a__law_pinned : PySem.W.nsIn K mainGlobals "_law_pinned" = some (some (.ref f__law_pinned)))
    (l__law_pinned : K.lookup f__law_pinned = some ⟨oc__law_pinned, od__law_pinned, .func (PySem.W.fnOf "_law_pinned" "_law_pinned" (defArgs s__law_pinned) (defBody s__law_pinned) (defScope s__law_pinned) .none kV__law_pinned dc__law_pinned pm__law_pinned an__law_pinned cd__law_pinned ct__law_pinned), sl__law_pinned⟩)
    (c__law_pinned : PySem.W.codeIn K cd__law_pinned "_law_pinned" = true)
    (k__law_pinned : PySem.W.keepIn K (.ref f__law_pinned) = true)
    (a__law_upload_step : PySem.W.nsIn K mainGlobals "_law_upload_step" = some (some (.ref f__law_upload_step)))
    (l__law_upload_step : K.lookup f__law_upload_step = some ⟨oc__law_upload_step, od__law_upload_step, .func (PySem.W.fnOf "_law_upload_step" "_law_upload_step" (defArgs s__law_upload_step) (defBody s__law_upload_step) (defScope s__law_upload_step) .none kV__law_upload_step dc__law_upload_step pm__law_upload_step an__law_upload_step cd__law_upload_step ct__law_upload_step), sl__law_upload_step⟩)
    (c__law_upload_step : PySem.W.codeIn K cd__law_upload_step "_law_upload_step" = true)
    (k__law_upload_step : PySem.W.keepIn K (.ref f__law_upload_step) = true)
    (a_law : PySem.W.nsIn K mainGlobals "law" = some (some (.ref f_law)))
    (l_law : K.lookup f_law = some ⟨oc_law, od_law, .func (PySem.W.fnOf "law" "law" (defArgs s_law) (defBody s_law) (defScope s_law) .none kV_law dc_law pm_law an_law cd_law ct_law), sl_law⟩)
    (c_law : PySem.W.codeIn K cd_law "law" = true)
    (k_law : PySem.W.keepIn K (.ref f_law) = true)
    (z_abs : PySem.W.nsIn K mainGlobals "abs" = some none)
    (z_int : PySem.W.nsIn K mainGlobals "int" = some none)
    (z_len : PySem.W.nsIn K mainGlobals "len" = some none)
    (z_max : PySem.W.nsIn K mainGlobals "max" = some none)
    (z_range : PySem.W.nsIn K mainGlobals "range" = some none)
    (z_repr : PySem.W.nsIn K mainGlobals "repr" = some none)
    (z_set : PySem.W.nsIn K mainGlobals "set" = some none)
    (z_sorted : PySem.W.nsIn K mainGlobals "sorted" = some none)
    : ∃ fd : FuncData, (∀ (s : Shared) (v : Value), BindsTo s fd ⟨[v], []⟩ [("_law_script", v)]) ∧ ∀ base : Heap, K.In base → base.Ns mainGlobals mg → FnOk l.prog w K mg base CX0 4 fa fd ["_law_script"] (spLaw K) := by
  have e := hfa.symm.trans (PySem.W.mg_of X G a_law)
  cases e
  have F_Claims___init__ := fun_mk (st := s_Claims___init__) l_Claims___init__ c_Claims___init__ k_Claims___init__
  have b_Claims___init__ := F_Claims___init__.binds (ps := ["self"]) fun _ _ _ _ _ _ us hl => match us, hl with | [_], _ => rfl
  have F_Claims_begin := fun_mk (st := s_Claims_begin) l_Claims_begin c_Claims_begin k_Claims_begin
  have b_Claims_begin := F_Claims_begin.binds (ps := ["self"]) fun _ _ _ _ _ _ us hl => match us, hl with | [_], _ => rfl
  have F_Claims_is_open := fun_mk (st := s_Claims_is_open) l_Claims_is_open c_Claims_is_open k_Claims_is_open
  have b_Claims_is_open := F_Claims_is_open.binds (ps := ["self", "claim"]) fun _ _ _ _ _ _ us hl => match us, hl with | [_, _], _ => rfl
  have F_Claims_pin := fun_mk (st := s_Claims_pin) l_Claims_pin c_Claims_pin k_Claims_pin
  have b_Claims_pin := F_Claims_pin.binds (ps := ["self", "claim", "address"]) fun _ _ _ _ _ _ us hl => match us, hl with | [_, _, _], _ => rfl
  have F_Claims_end := fun_mk (st := s_Claims_end) l_Claims_end c_Claims_end k_Claims_end
  have b_Claims_end := F_Claims_end.binds (ps := ["self", "claim"]) fun _ _ _ _ _ _ us hl => match us, hl with | [_, _], _ => rfl
  have F_Claims_numbers := fun_mk (st := s_Claims_numbers) l_Claims_numbers c_Claims_numbers k_Claims_numbers
  have b_Claims_numbers := F_Claims_numbers.binds (ps := ["self"]) fun _ _ _ _ _ _ us hl => match us, hl with | [_], _ => rfl
  have F_Claims_pinned := fun_mk (st := s_Claims_pinned) l_Claims_pinned c_Claims_pinned k_Claims_pinned
  have b_Claims_pinned := F_Claims_pinned.binds (ps := ["self"]) fun _ _ _ _ _ _ us hl => match us, hl with | [_], _ => rfl
  have F_Uploads___init__ := fun_mk (st := s_Uploads___init__) l_Uploads___init__ c_Uploads___init__ k_Uploads___init__
  have b_Uploads___init__ := F_Uploads___init__.binds (ps := ["self"]) fun _ _ _ _ _ _ us hl => match us, hl with | [_], _ => rfl
  have F_Uploads_begin := fun_mk (st := s_Uploads_begin) l_Uploads_begin c_Uploads_begin k_Uploads_begin
  have b_Uploads_begin := F_Uploads_begin.binds (ps := ["self"]) fun _ _ _ _ _ _ us hl => match us, hl with | [_], _ => rfl
  have F_Uploads_add_part := fun_mk (st := s_Uploads_add_part) l_Uploads_add_part c_Uploads_add_part k_Uploads_add_part
  have b_Uploads_add_part := F_Uploads_add_part.binds (ps := ["self", "upload", "at", "part"]) fun _ _ _ _ _ _ us hl => match us, hl with | [_, _, _, _], _ => rfl
  have F_Uploads_finish := fun_mk (st := s_Uploads_finish) l_Uploads_finish c_Uploads_finish k_Uploads_finish
  have b_Uploads_finish := F_Uploads_finish.binds (ps := ["self", "upload"]) fun _ _ _ _ _ _ us hl => match us, hl with | [_, _], _ => rfl
  have F_Uploads_forget := fun_mk (st := s_Uploads_forget) l_Uploads_forget c_Uploads_forget k_Uploads_forget
  have b_Uploads_forget := F_Uploads_forget.binds (ps := ["self"]) fun _ _ _ _ _ _ us hl => match us, hl with | [_], _ => rfl
  have F__law_state := fun_mk (st := s__law_state) l__law_state c__law_state k__law_state
  have b__law_state := F__law_state.binds (ps := ["_law_script"]) fun _ _ _ _ _ _ us hl => match us, hl with | [_], _ => rfl
  have F__law_take := fun_mk (st := s__law_take) l__law_take c__law_take k__law_take
  have b__law_take := F__law_take.binds (ps := ["_law_state_here", "_law_most"]) fun _ _ _ _ _ _ us hl => match us, hl with | [_, _], _ => rfl
  have F__law_text := fun_mk (st := s__law_text) l__law_text c__law_text k__law_text
  have b__law_text := F__law_text.binds (ps := ["_law_state_here", "_law_most"]) fun _ _ _ _ _ _ us hl => match us, hl with | [_, _], _ => rfl
  have F__law_claim_step := fun_mk (st := s__law_claim_step) l__law_claim_step c__law_claim_step k__law_claim_step
  have b__law_claim_step := F__law_claim_step.binds (ps := ["_law_state_here", "_law_claims", "_law_pins", "_law_count"]) fun _ _ _ _ _ _ us hl => match us, hl with | [_, _, _, _], _ => rfl
  have F__law_pinned := fun_mk (st := s__law_pinned) l__law_pinned c__law_pinned k__law_pinned
  have b__law_pinned := F__law_pinned.binds (ps := ["_law_pins"]) fun _ _ _ _ _ _ us hl => match us, hl with | [_], _ => rfl
  have F__law_upload_step := fun_mk (st := s__law_upload_step) l__law_upload_step c__law_upload_step k__law_upload_step
  have b__law_upload_step := F__law_upload_step.binds (ps := ["_law_state_here", "_law_uploads", "_law_texts", "_law_count"]) fun _ _ _ _ _ _ us hl => match us, hl with | [_, _, _, _], _ => rfl
  have F_law := fun_mk (st := s_law) l_law c_law k_law
  have T : Txt w K mg C_Claims C_Uploads := ⟨⟨pg_Claims, hd_Claims, po_Claims, sa_Claims⟩,
    na_Claims_last,
    na_Claims_pins,
    ⟨_, _, F_Claims___init__, ⟨mk_Claims, a_Claims___init__, i_Claims___init__, kc_Claims⟩, PySem.W.mg_of X G a_Claims, b_Claims___init__⟩,
    ⟨_, _, F_Claims_begin, ⟨a_Claims_begin, i_Claims_begin, k_Claims_begin⟩, b_Claims_begin⟩,
    ⟨_, _, F_Claims_is_open, ⟨a_Claims_is_open, i_Claims_is_open, k_Claims_is_open⟩, b_Claims_is_open⟩,
    ⟨_, _, F_Claims_pin, ⟨a_Claims_pin, i_Claims_pin, k_Claims_pin⟩, b_Claims_pin⟩,
    ⟨_, _, F_Claims_end, ⟨a_Claims_end, i_Claims_end, k_Claims_end⟩, b_Claims_end⟩,
    ⟨_, _, F_Claims_numbers, ⟨a_Claims_numbers, i_Claims_numbers, k_Claims_numbers⟩, b_Claims_numbers⟩,
    ⟨_, _, F_Claims_pinned, ⟨a_Claims_pinned, i_Claims_pinned, k_Claims_pinned⟩, b_Claims_pinned⟩,
    ⟨pg_Uploads, hd_Uploads, po_Uploads, sa_Uploads⟩,
    na_Uploads_last,
    na_Uploads_texts,
    ⟨_, _, F_Uploads___init__, ⟨mk_Uploads, a_Uploads___init__, i_Uploads___init__, kc_Uploads⟩, PySem.W.mg_of X G a_Uploads, b_Uploads___init__⟩,
    ⟨_, _, F_Uploads_begin, ⟨a_Uploads_begin, i_Uploads_begin, k_Uploads_begin⟩, b_Uploads_begin⟩,
    ⟨_, _, F_Uploads_add_part, ⟨a_Uploads_add_part, i_Uploads_add_part, k_Uploads_add_part⟩, b_Uploads_add_part⟩,
    ⟨_, _, F_Uploads_finish, ⟨a_Uploads_finish, i_Uploads_finish, k_Uploads_finish⟩, b_Uploads_finish⟩,
    ⟨_, _, F_Uploads_forget, ⟨a_Uploads_forget, i_Uploads_forget, k_Uploads_forget⟩, b_Uploads_forget⟩,
    ⟨_, _, F__law_state, PySem.W.mg_of X G a__law_state, b__law_state⟩,
    ⟨_, _, F__law_take, PySem.W.mg_of X G a__law_take, b__law_take⟩,
    ⟨_, _, F__law_text, PySem.W.mg_of X G a__law_text, b__law_text⟩,
    ⟨_, _, F__law_claim_step, PySem.W.mg_of X G a__law_claim_step, b__law_claim_step⟩,
    ⟨_, _, F__law_pinned, PySem.W.mg_of X G a__law_pinned, b__law_pinned⟩,
    ⟨_, _, F__law_upload_step, PySem.W.mg_of X G a__law_upload_step, b__law_upload_step⟩,
    PySem.W.mg_none_of X G z_abs,
    PySem.W.mg_none_of X G z_int,
    PySem.W.mg_none_of X G z_len,
    PySem.W.mg_none_of X G z_max,
    PySem.W.mg_none_of X G z_range,
    PySem.W.mg_none_of X G z_repr,
    PySem.W.mg_none_of X G z_set,
    PySem.W.mg_none_of X G z_sorted⟩
  exact ⟨PySem.W.fnOf "law" "law" (defArgs s_law) (defBody s_law) (defScope s_law) .none kV_law dc_law pm_law an_law cd_law ct_law, fun s v => .of_eq rfl, fun base _ _ => ok_law T F_law⟩
theorem walk {l : PySem.W.OpenLaw} {q : Program} {loose : List Str} {XP : (Str → Option Value) → Heap → Prop} {YP : World → Heap → Prop} {d : DefRec} {K : Params → PySem.W.Frag} (hn : l.most = some 63) (hdf : d.params.defaults = [])
    (hY : ∀ (w : World) (h : Heap), YP w h → (K w.params).In h)
    (F : ∀ (w : World) (mg : Str → Option Value) (fa : Addr) (h : Heap), (K w.params).In h → h.Ns mainGlobals mg → mg d.name = some (.ref fa) →
      ∃ fd : FuncData, (∀ (s : Shared) (u : Value), BindsTo s fd ⟨[u], []⟩ [("_law_script", u)]) ∧ ∀ base : Heap, (K w.params).In base → base.Ns mainGlobals mg → FnOk l.prog w (K w.params) mg base CX0 4 fa fd ["_law_script"] (spLaw (K w.params))) :
    PySem.W.WalkO q loose XP YP l.row.toRowW d [] (fun f vs => PySem.call f vs) :=
  L2.walk_of (n := 63) (k := 4) (x := "_law_script") (CX := fun _ => CX0) (sp := fun w => spLaw (K w.params)) hn (by decide) hdf ⟨rfl, by decide, by decide⟩ hY F (fun _ _ a ns hl _ hS => ⟨a, ns, rfl, hS, hl, fun _ => rfl⟩) fun _ _ _ _ _ z => z
end Lw
open PySem PySem.W PyProof.Rows
set_option maxRecDepth 100000 in
set_option maxHeartbeats 0 in
theorem PySem.Challenge.cw_layerwharf_k04_claims_and_uploads_holds : PySem.Challenge.rw_layerwharf_k04_claims_and_uploads.Holds := by
  w_on; o_law; k_head; (case hw => w_witness2)
  k_fill
  refine Lw.walk (l := PySem.Challenge.rw_layerwharf_k04_claims_and_uploads) rfl rfl (fun w h Y => PySem.W.kIn_of Y) ?F
  case F =>
    intro w mg fa h KX G hmg
    refine' Lw.all_mk KX G hmg ?a_Claims ?pg_Claims ?hd_Claims ?po_Claims ?sa_Claims ?mk_Claims ?kc_Claims ?na_Claims_last ?na_Claims_pins ?a_Claims___init__ ?i_Claims___init__ ?l_Claims___init__ ?c_Claims___init__ ?k_Claims___init__ ?a_Claims_begin ?i_Claims_begin ?l_Claims_begin ?c_Claims_begin ?k_Claims_begin ?a_Claims_is_open ?i_Claims_is_open ?l_Claims_is_open ?c_Claims_is_open ?k_Claims_is_open ?a_Claims_pin ?i_Claims_pin ?l_Claims_pin ?c_Claims_pin ?k_Claims_pin ?a_Claims_end ?i_Claims_end ?l_Claims_end ?c_Claims_end ?k_Claims_end ?a_Claims_numbers ?i_Claims_numbers ?l_Claims_numbers ?c_Claims_numbers ?k_Claims_numbers ?a_Claims_pinned ?i_Claims_pinned ?l_Claims_pinned ?c_Claims_pinned ?k_Claims_pinned ?a_Uploads ?pg_Uploads ?hd_Uploads ?po_Uploads ?sa_Uploads ?mk_Uploads ?kc_Uploads ?na_Uploads_last ?na_Uploads_texts ?a_Uploads___init__ ?i_Uploads___init__ ?l_Uploads___init__ ?c_Uploads___init__ ?k_Uploads___init__ ?a_Uploads_begin ?i_Uploads_begin ?l_Uploads_begin ?c_Uploads_begin ?k_Uploads_begin ?a_Uploads_add_part ?i_Uploads_add_part ?l_Uploads_add_part ?c_Uploads_add_part ?k_Uploads_add_part ?a_Uploads_finish ?i_Uploads_finish ?l_Uploads_finish ?c_Uploads_finish ?k_Uploads_finish ?a_Uploads_forget ?i_Uploads_forget ?l_Uploads_forget ?c_Uploads_forget ?k_Uploads_forget ?a__law_state ?l__law_state ?c__law_state ?k__law_state ?a__law_take ?l__law_take ?c__law_take ?k__law_take ?a__law_text ?l__law_text ?c__law_text ?k__law_text ?a__law_claim_step ?l__law_claim_step ?c__law_claim_step ?k__law_claim_step ?a__law_pinned ?l__law_pinned ?c__law_pinned ?k__law_pinned ?a__law_upload_step ?l__law_upload_step ?c__law_upload_step ?k__law_upload_step ?a_law ?l_law ?c_law ?k_law ?z_abs ?z_int ?z_len ?z_max ?z_range ?z_repr ?z_set ?z_sorted
    (case a_Claims => k_is)
    (case pg_Claims => k_is)
    (case hd_Claims => k_is)
    (case po_Claims => k_is)
    (case sa_Claims => k_is)
    (case mk_Claims => k_is)
    (case kc_Claims => k_is)
    (case na_Claims_last => k_is)
    (case na_Claims_pins => k_is)
    (case a_Claims___init__ => k_is)
    (case i_Claims___init__ => k_is)
    (case l_Claims___init__ => k_is)
    (case c_Claims___init__ => k_is)
    (case k_Claims___init__ => k_is)
    (case a_Claims_begin => k_is)
    (case i_Claims_begin => k_is)
    (case l_Claims_begin => k_is)
    (case c_Claims_begin => k_is)
    (case k_Claims_begin => k_is)
    (case a_Claims_is_open => k_is)
    (case i_Claims_is_open => k_is)
    (case l_Claims_is_open => k_is)
    (case c_Claims_is_open => k_is)
    (case k_Claims_is_open => k_is)
    (case a_Claims_pin => k_is)
    (case i_Claims_pin => k_is)
    (case l_Claims_pin => k_is)
    (case c_Claims_pin => k_is)
    (case k_Claims_pin => k_is)
    (case a_Claims_end => k_is)
    (case i_Claims_end => k_is)
    (case l_Claims_end => k_is)
    (case c_Claims_end => k_is)
    (case k_Claims_end => k_is)
    (case a_Claims_numbers => k_is)
    (case i_Claims_numbers => k_is)
    (case l_Claims_numbers => k_is)
    (case c_Claims_numbers => k_is)
    (case k_Claims_numbers => k_is)
    (case a_Claims_pinned => k_is)
    (case i_Claims_pinned => k_is)
    (case l_Claims_pinned => k_is)
    (case c_Claims_pinned => k_is)
    (case k_Claims_pinned => k_is)
    (case a_Uploads => k_is)
    (case pg_Uploads => k_is)
    (case hd_Uploads => k_is)
    (case po_Uploads => k_is)
    (case sa_Uploads => k_is)
    (case mk_Uploads => k_is)
    (case kc_Uploads => k_is)
    (case na_Uploads_last => k_is)
    (case na_Uploads_texts => k_is)
    (case a_Uploads___init__ => k_is)
    (case i_Uploads___init__ => k_is)
    (case l_Uploads___init__ => k_is)
    (case c_Uploads___init__ => k_is)
    (case k_Uploads___init__ => k_is)
    (case a_Uploads_begin => k_is)
    (case i_Uploads_begin => k_is)
    (case l_Uploads_begin => k_is)
    (case c_Uploads_begin => k_is)
    (case k_Uploads_begin => k_is)
    (case a_Uploads_add_part => k_is)
    (case i_Uploads_add_part => k_is)
    (case l_Uploads_add_part => k_is)
    (case c_Uploads_add_part => k_is)
    (case k_Uploads_add_part => k_is)
    (case a_Uploads_finish => k_is)
    (case i_Uploads_finish => k_is)
    (case l_Uploads_finish => k_is)
    (case c_Uploads_finish => k_is)
    (case k_Uploads_finish => k_is)
    (case a_Uploads_forget => k_is)
    (case i_Uploads_forget => k_is)
    (case l_Uploads_forget => k_is)
    (case c_Uploads_forget => k_is)
    (case k_Uploads_forget => k_is)
    (case a__law_state => k_is)
    (case l__law_state => k_is)
    (case c__law_state => k_is)
    (case k__law_state => k_is)
    (case a__law_take => k_is)
    (case l__law_take => k_is)
    (case c__law_take => k_is)
    (case k__law_take => k_is)
    (case a__law_text => k_is)
    (case l__law_text => k_is)
    (case c__law_text => k_is)
    (case k__law_text => k_is)
    (case a__law_claim_step => k_is)
    (case l__law_claim_step => k_is)
    (case c__law_claim_step => k_is)
    (case k__law_claim_step => k_is)
    (case a__law_pinned => k_is)
    (case l__law_pinned => k_is)
    (case c__law_pinned => k_is)
    (case k__law_pinned => k_is)
    (case a__law_upload_step => k_is)
    (case l__law_upload_step => k_is)
    (case c__law_upload_step => k_is)
    (case k__law_upload_step => k_is)
    (case a_law => k_is)
    (case l_law => k_is)
    (case c_law => k_is)
    (case k_law => k_is)
    (case z_abs => k_is)
    (case z_int => k_is)
    (case z_len => k_is)
    (case z_max => k_is)
    (case z_range => k_is)
    (case z_repr => k_is)
    (case z_set => k_is)
    (case z_sorted => k_is)
