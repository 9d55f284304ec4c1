import PyProof.Rows.All
import Wide.All
import OpenK.AllK
import Wide.FinOn
import HandS.ForMost
import HandS.TupAny
import HandS.More
import HandS.Style
import HandS.Conv
import HandS.Codes
import PySem.Challenge.RW_layerwharf_k20_wire
set_option Elab.async false
set_option maxRecDepth 100000
set_option maxHeartbeats 4000000
set_option linter.all false
/-! ## words of our own, for every law -/
namespace Lw
open PySem L2
open PyProof.Rows (envOfC)

/-! ### what calls what -/
structure Cal (P : Program) (w : World) (K : PySem.W.Frag) (mg : Str → Option Value) (base : Heap) (k : Nat) (x : Str) (sp : Sp) : Prop where
  ex : ∃ (f : Addr) (fd : FuncData) (ps : List Str), FnOk P w K mg base CX0 k f fd ps sp ∧ mg x = some (.ref f) ∧ PySem.W.keepIn K (.ref f) = true ∧ Binds K fd ps []
structure Met (P : Program) (w : World) (K : PySem.W.Frag) (mg : Str → Option Value) (base : Heap) (k : Nat) (C : Addr) (m : Str) (sp : Sp) : Prop where
  ex : ∃ (f : Addr) (fd : FuncData) (ps : List Str), Cls K C ∧ Meth K C m f ∧ FnOk P w K mg base CX0 k f fd ps sp ∧ Binds K fd ps []
structure Mak (P : Program) (w : World) (K : PySem.W.Frag) (mg : Str → Option Value) (base : Heap) (k : Nat) (x : Str) (C : Addr) (sp : Sp) : Prop where
  ex : ∃ (f : Addr) (fd : FuncData) (ps : List Str), Mk K C f ∧ FnOk P w K mg base CX0 k f fd ps sp ∧ mg x = some (.ref C) ∧ Binds K fd ps []
/-- a def of the module -/
structure DefAt (K : PySem.W.Frag) (mg : Str → Option Value) (x : Str) (st : Stmt) (ps : List Str) : Prop where
  ex : ∃ (f : Addr) (fd : FuncData), Fun K x x st f fd ∧ mg x = some (.ref f) ∧ Binds K fd ps []
/-- a method of a class -/
structure MetAt (K : PySem.W.Frag) (C : Addr) (m qual : Str) (st : Stmt) (ps : List Str) : Prop where
  ex : ∃ (f : Addr) (fd : FuncData), Fun K m qual st f fd ∧ Meth K C m f ∧ Binds K fd ps []
/-- a class's __init__ -/
structure IniAt (K : PySem.W.Frag) (mg : Str → Option Value) (x : Str) (C : Addr) (qual : Str) (st : Stmt) (ps : List Str) : Prop where
  ex : ∃ (f : Addr) (fd : FuncData), Fun K "__init__" qual st f fd ∧ Mk K C f ∧ mg x = some (.ref C) ∧ Binds K fd ps []
section
variable {P : Program} {w : World} {K : PySem.W.Frag} {mg : Str → Option Value} {base : Heap}
theorem cal_mk {x : Str} {st : Stmt} {N ps : List Str} {k : Nat} {sp : Sp} (D : DefAt K mg x st ps) (S : FnScope N ps (defScope st)) (len : ∀ vs H Q E, sp vs H Q E → vs.length = ps.length)
    (hbody : ∀ (f : Addr) (cdv : Value) (A : Around) (outer : List Env) (s : Shared) (H : Hp) (vs : List V) (Q : VK) (E : XK), Room k (A.deeper (envOfC x (defScope st) s.heap.objs.size f cdv)) → sp vs H Q E →
      ∃ t, PSs (cxOf CX0 P w K mg base N x (defScope st) f cdv A outer s H E).nox (defBody st) t ∧ t { nx := fun _ H' => Q .non H', rt := Q } (start N vs) H) : Cal P w K mg base (k + 1) x sp := by
  obtain ⟨f, fd, F, hm, hb⟩ := D.ex
  exact ⟨f, fd, ps, F.ok S len fun cdv A outer s H vs Q E hr h => hbody f cdv A outer s H vs Q E hr h, hm, F.kp, hb⟩
theorem met_mk {m qual : Str} {C : Addr} {st : Stmt} {N ps : List Str} {k : Nat} {sp : Sp} (c : Cls K C) (D : MetAt K C m qual st ps) (S : FnScope N ps (defScope st)) (len : ∀ vs H Q E, sp vs H Q E → vs.length = ps.length)
    (hbody : ∀ (f : Addr) (cdv : Value) (A : Around) (outer : List Env) (s : Shared) (H : Hp) (vs : List V) (Q : VK) (E : XK), Room k (A.deeper (envOfC qual (defScope st) s.heap.objs.size f cdv)) → sp vs H Q E →
      ∃ t, PSs (cxOf CX0 P w K mg base N qual (defScope st) f cdv A outer s H E).nox (defBody st) t ∧ t { nx := fun _ H' => Q .non H', rt := Q } (start N vs) H) : Met P w K mg base (k + 1) C m sp := by
  obtain ⟨f, fd, F, hm, hb⟩ := D.ex
  exact ⟨f, fd, ps, c, hm, F.ok S len fun cdv A outer s H vs Q E hr h => hbody f cdv A outer s H vs Q E hr h, hb⟩
theorem mak_mk {x qual : Str} {C : Addr} {st : Stmt} {N ps : List Str} {k : Nat} {sp : Sp} (D : IniAt K mg x C qual st ps) (S : FnScope N ps (defScope st)) (len : ∀ vs H Q E, sp vs H Q E → vs.length = ps.length)
    (hbody : ∀ (f : Addr) (cdv : Value) (A : Around) (outer : List Env) (s : Shared) (H : Hp) (vs : List V) (Q : VK) (E : XK), Room k (A.deeper (envOfC qual (defScope st) s.heap.objs.size f cdv)) → sp vs H Q E →
      ∃ t, PSs (cxOf CX0 P w K mg base N qual (defScope st) f cdv A outer s H E).nox (defBody st) t ∧ t { nx := fun _ H' => Q .non H', rt := Q } (start N vs) H) : Mak P w K mg base (k + 1) x C sp := by
  obtain ⟨f, fd, F, M, hm, hb⟩ := D.ex
  exact ⟨f, fd, ps, M, F.ok S len fun cdv A outer s H vs Q E hr h => hbody f cdv A outer s H vs Q E hr h, hm, hb⟩
end
section
variable {X : Cx} {x m : Str} {C : Addr} {sp : Sp} {k j : Nat} {e o : Expr} {es : List Expr} {p pos apos : Pos} {ta : TE} {t : TA}
theorem pe_c (c : Cal X.prog X.w X.K X.mg X.base k x sp) (hr : Room j X.A) (hk : k ≤ j) (hg : Gl X x) (ha : PA X (e :: es) t)
    (hdb : (x == ("__debug__" : Str)) = false := by decide) (he : starEach (e :: es) X.env = (false, eval e X.env) :: starEach es X.env := by rfl) (hpl : (backTo pos (starEach es X.env)).any (·.1) = false := by rfl) :
    PE X (.Call (.Name x p) (e :: es) [] pos) (tCall sp [] E0 t) := by
  obtain ⟨f, fd, ps, F, hm, kp, b⟩ := c.ex
  exact pe_call F (hr.mono hk) hg hm kp b .nil pass0 ha hdb he hpl
theorem pe_mk (c : Mak X.prog X.w X.K X.mg X.base k x C sp) (hr : Room j X.A) (hk : k + 1 ≤ j) (hg : Gl X x) (ha : PA X (e :: es) t)
    (hdb : (x == ("__debug__" : Str)) = false := by decide) (he : starEach (e :: es) X.env = (false, eval e X.env) :: starEach es X.env := by rfl) (hpl : (backTo pos (starEach es X.env)).any (·.1) = false := by rfl) :
    PE X (.Call (.Name x p) (e :: es) [] pos) (tMake C sp [] E0 t) := by
  obtain ⟨f, fd, ps, M, F, hm, b⟩ := c.ex
  exact pe_make M F (hr.mono hk) hg hm b .nil pass0 ha hdb he hpl
theorem pe_mk0 (c : Mak X.prog X.w X.K X.mg X.base k x C sp) (hr : Room j X.A) (hk : k + 1 ≤ j) (hg : Gl X x) (hdb : (x == ("__debug__" : Str)) = false := by decide) :
    PE X (.Call (.Name x p) [] [] pos) (tMake C sp [] E0 tNil) := by
  obtain ⟨f, fd, ps, M, F, hm, b⟩ := c.ex
  exact pe_make0 M F (hr.mono hk) hg hm b .nil pass0 hdb
theorem pe_mt {pl : Sem Bool} (c : Met X.prog X.w X.K X.mg X.base k C m sp) (hr : Room j X.A) (hk : k ≤ j) (he : PE X o ta) (ha : PA X (e :: es) t)
    (hst : starEach (e :: es) X.env = (false, eval e X.env) :: starEach es X.env := by rfl) (hpl : (backTo pos (starEach es X.env)).any (·.1) = false := by rfl)
    (ht : eval (.Call (.Attribute o m apos) (e :: es) [] pos) X.env = (do
      let ov ← eval o X.env
      standAt apos.atName
      let (f, first) ← holding [ov] (getMethod ov m pl)
      callWith pos f first (backTo pos (starEach (e :: es) X.env)) (backToKw pos (keywordEach [] X.env))) := by rfl) :
    PE X (.Call (.Attribute o m apos) (e :: es) [] pos) (tMeth C m sp [] E0 ta t) := by
  obtain ⟨f, fd, ps, hc, hm, F, b⟩ := c.ex
  exact pe_meth (pl := pl) he hc hm F (hr.mono hk) b .nil pass0 ha hst hpl ht
theorem pe_mt0 {pl : Sem Bool} (c : Met X.prog X.w X.K X.mg X.base k C m sp) (hr : Room j X.A) (hk : k ≤ j) (he : PE X o ta)
    (ht : eval (.Call (.Attribute o m apos) [] [] pos) X.env = (do
      let ov ← eval o X.env
      standAt apos.atName
      let (f, first) ← holding [ov] (getMethod ov m pl)
      callWith pos f first (backTo pos (starEach [] X.env)) (backToKw pos (keywordEach [] X.env))) := by rfl) :
    PE X (.Call (.Attribute o m apos) [] [] pos) (tMeth C m sp [] E0 ta tNil) := by
  obtain ⟨f, fd, ps, hc, hm, F, b⟩ := c.ex
  exact pe_meth0 (pl := pl) he hc hm F (hr.mono hk) b .nil pass0 ht
theorem pe_gc {v : V} (hg : Gl X x) (h : ∃ u, X.mg x = some u ∧ RelV v u) (hd : (x == ("__debug__" : Str)) = false := by decide) : PE X (.Name x pos) (tC v) := by
  obtain ⟨u, hm, r⟩ := h
  exact pe_glob hg hm r hd
end

/-! ### steps through a reading -/
def rStr (x : V) (A : Prop) : Prop := (∃ a, x = .str a) ∧ A
def rCatS : R2 := fun x y H Q => ∃ i j, x = .str i ∧ y = .str j ∧ i.length + j.length ≤ sizeLine ∧ Q (.str (i ++ j)) H
theorem op_cat_str {X : Cx} : OpR X (binaryOp .Add) rCatS := op_add_str
def rInt1 : List V → Hp → VK → Prop := fun xs H Q => (∃ i, xs = [.int i] ∧ Q (.int i) H) ∨ ∃ k, xs = [.bl k] ∧ Q (.int (if k then 1 else 0)) H
theorem call_int1' {X : Cx} : CallR X (.type "int") rInt1 := call_int1
def rLenQ (K : PySem.W.Frag) : List V → Hp → VK → Prop := fun xs H Q => ∃ p ys, xs = [.ref p] ∧ (SqL K H p ys ∨ SqT K H p ys) ∧ Q (.int ys.length) H
theorem call_len_seq' {X : Cx} : CallR X (.builtin "len") (rLenQ X.K) := call_len_seq
def rLenT : List V → Hp → VK → Prop := fun xs H Q => ∃ z, xs = [.str z] ∧ z.length ≤ sizeLine ∧ Q (.int z.length) H
theorem call_len_str' {X : Cx} : CallR X (.builtin "len") rLenT := call_len_str
def rLenD : List V → Hp → VK → Prop := fun xs H Q => ∃ a kvs, xs = [V.ref a] ∧ H a = some (.dK kvs) ∧ Q (.int kvs.length) H
theorem call_lenD' {X : Cx} : CallR X (.builtin "len") rLenD := call_lenD
def rReprB : List V → Hp → VK → Prop := fun xs H Q => ∃ b, xs = [.bl b] ∧ Q (.str (if b then "True" else "False")) H
theorem call_repr_bool {X : Cx} : CallR X (.builtin "repr") rReprB := by
  intro pins s σ H xs us Q I r h
  obtain ⟨b, rfl, q⟩ := h
  obtain ⟨u, rfl, rx⟩ := vals1 r
  cases rx
  exact PySem.P.repr_of_bool ⟨.str _, H, I.tok _, ⟨_, rfl⟩, q⟩
def rIsN : R2 := fun x y H Q => y = .non ∧ Q (.bl (decide (x = .non))) H
def rNotN : R2 := fun x y H Q => y = .non ∧ Q (.bl (!decide (x = .non))) H
theorem op_isN' {X : Cx} : OpR X (compareOp .Is) rIsN := op_isN
theorem op_notN' {X : Cx} : OpR X (compareOp .IsNot) rNotN := op_notN
section
variable {σ : St} {H : Hp} {Q : VK} {K : PySem.W.Frag} {D : Ends} {ta tb te : TE} {tl : TA} {t u : TS} {c d : TT} {i : Nat} {v : V} {g : TG} {r : R2} {b : Bool}
theorem g_var (h : σ[i]? = some (some v)) (k : Q v H) : tVar i σ H Q := ⟨v, h, k⟩
theorem g_c (k : Q v H) : tC v σ H Q := k
theorem g_op (k : ta σ H fun x H1 => tb σ H1 fun y H2 => r x y H2 Q) : tOp r ta tb σ H Q := k
theorem g_I0 {f : Int → Int → V} {a b : Int} (k : Q (f a b) H) : rI0 f (.int a) (.int b) H Q := ⟨a, b, rfl, rfl, k⟩
theorem g_I {C : Int → Int → Prop} {f : Int → Int → V} {a b : Int} (h : C a b) (k : Q (f a b) H) : rI C f (.int a) (.int b) H Q := ⟨a, b, rfl, rfl, h, k⟩
theorem g_eq {x y : V} (h : scal x y = true) (k : Q (.bl (decide (x = y))) H) : rEq x y H Q := ⟨h, k⟩
theorem g_ne {x y : V} (h : scal x y = true) (k : Q (.bl (!decide (x = y))) H) : rNe x y H Q := ⟨h, k⟩
theorem g_nil {Q : List V → Hp → Prop} (k : Q [] H) : tNil σ H Q := k
theorem g_cons {Q : List V → Hp → Prop} (k : ta σ H fun x H1 => tl σ H1 fun xs H2 => Q (x :: xs) H2) : tCons ta tl σ H Q := k
theorem g_cb {r : List V → Hp → VK → Prop} (k : tl σ H fun vs H1 => r vs H1 Q) : tCB r tl σ H Q := k
theorem g_call {sp : Sp} {dvs : List V} {E : XK} (k : tl σ H fun vs H1 => sp (vs ++ dvs) H1 Q E) : tCall sp dvs E tl σ H Q := k
theorem g_test {Q : Bool → Hp → Prop} (k : te σ H fun x H1 => ∃ z, x = .bl z ∧ Q z H1) : tTest te σ H Q := k
theorem g_B {Q : Bool → Hp → Prop} (k : te σ H fun x H1 => ∃ z, x = .bl z ∧ Q z H1) : tB te σ H Q := k
theorem g_exb {Q : Bool → Prop} (k : Q b) : ∃ z, V.bl b = .bl z ∧ Q z := ⟨b, rfl, k⟩
theorem g_not {Q : Bool → Hp → Prop} (k : c σ H fun b H1 => Q (!b) H1) : tNot c σ H Q := k
theorem g_and {Q : Bool → Hp → Prop} (k : c σ H fun b H1 => if b = true then d σ H1 Q else Q false H1) : tAnd c d σ H Q := k
theorem g_or {Q : Bool → Hp → Prop} (k : c σ H fun b H1 => if b = true then Q true H1 else d σ H1 Q) : tOr c d σ H Q := k
/-- what follows holds of any new place with o -/
def New (o : HO) (H : Hp) (Q : Addr → Hp → Prop) : Prop := ∀ p H', H p = none → Same H H' → H' p = some o → Q p H'
theorem New.to {o : HO} {Q : Addr → Hp → Prop} (k : New o H Q) : ∀ p, H p = none → Q p (upd H p o) := fun p hp => k p _ hp (fun b u e => by rw [upd_ne (ne_of_none e hp)]; exact e) upd_same
theorem small100 {n : Nat} (h : n ≤ 100) : n ≤ sizeLine := Nat.le_trans h (by decide)
def kTup (Q : VK) (xs : List V) (H1 : Hp) : Prop := xs.length ≤ sizeLine ∧ ∀ p, H1 p = none → Q (.ref p) (upd H1 p (.tup xs))
def kLst (Q : VK) (xs : List V) (H1 : Hp) : Prop := xs.length ≤ sizeLine ∧ ∀ p, H1 p = none → Q (.ref p) (upd H1 p (.lst xs))
theorem g_tup (k : tl σ H (kTup Q)) : tTup tl σ H Q := k
theorem g_lst (k : tl σ H (kLst Q)) : tLst tl σ H Q := k
/-- behind the items of a display -/
theorem g_ktup {xs : List V} (h : xs.length ≤ 100) (k : ∀ p H', H p = none → Same H H' → H' p = some (.tup xs) → Q (.ref p) H') : kTup Q xs H := ⟨small100 h, New.to (Q := fun p H' => Q (.ref p) H') k⟩
theorem g_klst {xs : List V} (h : xs.length ≤ 100) (k : ∀ p H', H p = none → Same H H' → H' p = some (.lst xs) → Q (.ref p) H') : kLst Q xs H := ⟨small100 h, New.to (Q := fun p H' => Q (.ref p) H') k⟩
theorem g_catA {a b : Addr} {xs ys : List V} (ha : H a = some (.tup xs)) (hb : H b = some (.tup ys)) (h0 : xs ≠ []) (hl : xs.length + ys.length ≤ 100) (k : ∀ p H', Same H H' → H' p = some (.tup (xs ++ ys)) → Q (.ref p) H') : rCatA K (.ref a) (.ref b) H Q :=
  ⟨a, b, xs, ys, rfl, rfl, SqT.of ha, SqT.of hb, small100 hl, fun z => absurd z h0, fun _ z => k a H (Same.refl H) (by subst z; rw [List.append_nil]; exact ha), fun _ _ p hp => k p _ (fun b u e => by rw [upd_ne (ne_of_none e hp)]; exact e) upd_same⟩
theorem g_slA {a : Addr} {xs : List V} {lo hi : Option Int} (ha : H a = some (.tup xs)) (k : ∀ p H', Same H H' → H' p = some (.tup (cutV xs lo hi)) → Q (.ref p) H') : rSlA K (.ref a) lo hi H Q := by
  refine ⟨a, xs, rfl, SqT.of ha, fun z => k a H (Same.refl H) ?_, fun _ p hp => k p _ (fun b u e => by rw [upd_ne (ne_of_none e hp)]; exact e) upd_same⟩
  have e : cutV xs lo hi = xs := by
    unfold cutV
    rw [z.1, z.2, List.drop_zero, Nat.sub_zero, List.take_length]
  rw [e]; exact ha
theorem g_rslS {x : Str} {lo hi : Option Int} (h : x.length ≤ sizeLine) (k : Q (.str (Txt.slice x lo hi)) H) : C8.rSlX (.str x) lo hi H Q := ⟨x, rfl, h, k⟩
theorem g_ifx (k : c σ H fun b H1 => if b = true then ta σ H1 Q else tb σ H1 Q) : tIf c ta tb σ H Q := k
/-- a field read -/
def rFld (K : PySem.W.Frag) (f : Str) (x : V) (H : Hp) (Q : VK) : Prop := ∃ a C dx fs v, x = .ref a ∧ H a = some (.ins C dx fs) ∧ Cls K C ∧ NoAttr K C f ∧ fs.lookup f = some v ∧ Q v H
theorem g_fld {f : Str} (k : ta σ H fun x H1 => rFld K f x H1 Q) : tFld K ta f σ H Q := k
theorem g_rfld {f : Str} {a C dx : Addr} {fs : List (Str × V)} (h : H a = some (.ins C dx fs)) (hc : Cls K C) (hn : NoAttr K C f) (hl : fs.lookup f = some v) (k : Q v H) : rFld K f (.ref a) H Q := ⟨a, C, dx, fs, v, rfl, h, hc, hn, hl, k⟩
/-- a method called -/
def rMeth (C : Addr) (m : Str) (sp : Sp) (x : V) (tl : TA) (σ : St) (H : Hp) (Q : VK) : Prop := ∃ a dx fs, x = .ref a ∧ H a = some (.ins C dx fs) ∧ fs.lookup m = none ∧ tl σ H fun vs H2 => sp (x :: (vs ++ [])) H2 Q E0
def rSFld (K : PySem.W.Frag) (f : Str) (y x : V) (H : Hp) (Q : Hp → Prop) : Prop := ∃ a C dx fs, x = .ref a ∧ H a = some (.ins C dx fs) ∧ Cls K C ∧ NoAttr K C f ∧ fs.length < 1000 ∧ Q (upd H a (.ins C dx (putF f y fs)))
theorem g_sfld {f : Str} (k : tb σ H fun y H1 => ta σ H1 fun x H2 => rSFld K f y x H2 fun H3 => D.nx σ H3) : sFld K ta tb f D σ H := k
theorem g_rsfld {f : Str} {y : V} {a C dx : Addr} {fs : List (Str × V)} {Q : Hp → Prop} (h : H a = some (.ins C dx fs)) (hc : Cls K C) (hn : NoAttr K C f) (hl : fs.length < 1000) (k : ∀ H', H' a = some (.ins C dx (putF f y fs)) → (∀ b, b ≠ a → H' b = H b) → Q H') : rSFld K f y (.ref a) H Q :=
  ⟨a, C, dx, fs, rfl, h, hc, hn, hl, k _ upd_same fun b hb => upd_ne hb⟩
theorem g_meth {C : Addr} {m : Str} {sp : Sp} (k : ta σ H fun x H1 => rMeth C m sp x tl σ H1 Q) : tMeth C m sp [] E0 ta tl σ H Q := k
theorem g_rmeth {C a dx : Addr} {m : Str} {sp : Sp} {fs : List (Str × V)} (h : H a = some (.ins C dx fs)) (hl : fs.lookup m = none) (k : tl σ H fun vs H2 => sp (.ref a :: (vs ++ [])) H2 Q E0) : rMeth C m sp (.ref a) tl σ H Q := ⟨a, dx, fs, rfl, h, hl, k⟩
def rMake (C : Addr) (sp : Sp) (vs : List V) (H1 : Hp) (Q : VK) : Prop := ∀ x dx, H1 x = none → H1 dx = none → dx ≠ x → sp (.ref x :: (vs ++ [])) (upd (upd H1 dx (.own x)) x (.ins C dx [])) (fun v H2 => v = .non ∧ Q (.ref x) H2) E0
theorem g_make {C : Addr} {sp : Sp} (k : tl σ H fun vs H1 => rMake C sp vs H1 Q) : tMake C sp [] E0 tl σ H Q := k
/-- a list that is changed in its place -/
theorem g_append {l : Addr} {xs : List V} {y : V} (h : H l = some (.lst xs)) (hz : xs.length < 100000) (k : ∀ H', H' l = some (.lst (xs ++ [y])) → (∀ b, b ≠ l → H' b = H b) → Q .non H') : rAppend (.ref l) [y] H Q :=
  ⟨l, xs, y, rfl, rfl, h, Nat.lt_of_lt_of_le hz (by decide), k _ upd_same fun b hb => upd_ne hb⟩
theorem g_tyL {p : Addr} {xs : List V} {A : Prop} (h : H p = some (.lst xs)) (k : A) : tyV K "list" (.ref p) H ∧ A := ⟨.inl ⟨rfl, _, SqL.of h⟩, k⟩
theorem g_popAt {l : Addr} {xs : List V} {i : Nat} {y : V} (h : H l = some (.lst xs)) (hi : xs[i]? = some y) (hz : xs.length < 100000) (k : ∀ H', H' l = some (.lst (xs.eraseIdx i)) → (∀ b, b ≠ l → H' b = H b) → Q y H') : rPopAt (.ref l) [.int (i : Int)] H Q := by
  have hl := (List.getElem?_eq_some_iff.mp hi).1
  refine ⟨l, xs, (i : Int), i, y, rfl, rfl, h, by omega, by omega, ?_, hi, k _ upd_same fun b hb => upd_ne hb⟩
  exact (ixN_seq (n := xs.length) (i := (i : Int)) (j := i) (by unfold ixN; rw [if_pos (by omega), if_pos (by omega), Int.toNat_natCast])).1
theorem g_rix {p : Addr} {xs : List V} {j : Int} (h : SqL K H p xs) (ha : atI xs j = some v) (k : Q v H) : rIxL K (.ref p) (.int j) H Q := ⟨p, xs, j, v, rfl, rfl, h, ha, k⟩
theorem g_rixT {p : Addr} {xs : List V} {j : Int} (h : SqT K H p xs) (ha : atI xs j = some v) (k : Q v H) : rIxT K (.ref p) (.int j) H Q := ⟨p, xs, j, v, rfl, rfl, h, ha, k⟩
theorem g_sl {r : V → Option Int → Option Int → Hp → VK → Prop} {tl th : TO} (k : te σ H fun x H1 => tl σ H1 fun l H2 => th σ H2 fun u H3 => r x l u H3 Q) : tSl r te tl th σ H Q := k
theorem g_nopart {Q : Option Int → Hp → Prop} (k : Q none H) : tNoPart σ H Q := k
def rPart (x : V) (H : Hp) (Q : Option Int → Hp → Prop) : Prop := ∃ i, x = .int i ∧ Q (some i) H
theorem g_part {Q : Option Int → Hp → Prop} (k : te σ H fun x H1 => rPart x H1 Q) : tPart te σ H Q := k
theorem g_rpart {Q : Option Int → Hp → Prop} {a : Int} (k : Q (some a) H) : rPart (.int a) H Q := ⟨a, rfl, k⟩
theorem g_m1 {r : V → List V → Hp → VK → Prop} {to : TE} (k : to σ H fun x H1 => rStr x (te σ H1 fun y H2 => r x [y] H2 Q)) : tM1 r to te σ H Q := k
theorem g_m0 {r : V → List V → Hp → VK → Prop} {to : TE} (k : to σ H fun x H1 => rStr x (r x [] H1 Q)) : tM0 r to σ H Q := k
theorem g_rstr {x : Str} {A : Prop} (k : A) : rStr (.str x) A := ⟨⟨x, rfl⟩, k⟩
theorem g_bm0 {T : String} {r : V → List V → Hp → VK → Prop} {to : TE} (k : to σ H fun x H1 => tyV K T x H1 ∧ r x [] H1 Q) : tBM0 K T r to σ H Q := k
theorem g_bm {T : String} {r : V → List V → Hp → VK → Prop} {to : TE} {t : TA} (k : to σ H fun x H1 => tyV K T x H1 ∧ t σ H1 fun xs H2 => r x xs H2 Q) : tBM K T r to t σ H Q := k
theorem g_isN {x : V} (k : Q (.bl (decide (x = .non))) H) : rIsN x .non H Q := ⟨rfl, k⟩
theorem g_notN {x : V} (k : Q (.bl (!decide (x = .non))) H) : rNotN x .non H Q := ⟨rfl, k⟩
theorem g_cat_str {a b : Str} (h : a.length + b.length ≤ sizeLine) (k : Q (.str (a ++ b)) H) : rCatS (.str a) (.str b) H Q := ⟨a, b, rfl, rfl, h, k⟩
theorem g_int1 {a : Int} (k : Q (.int a) H) : rInt1 [.int a] H Q := .inl ⟨a, rfl, k⟩
theorem g_int1b {b : Bool} (k : Q (.int (if b then 1 else 0)) H) : rInt1 [.bl b] H Q := .inr ⟨b, rfl, k⟩
theorem g_reprB {b : Bool} (k : Q (.str (if b then "True" else "False")) H) : rReprB [.bl b] H Q := ⟨b, rfl, k⟩
theorem g_cat {a b : Addr} {xs ys : List V} (ha : H a = some (.lst xs)) (hb : H b = some (.lst ys)) (hl : xs.length + ys.length ≤ 100000) (k : ∀ p H', H p = none → Same H H' → H' p = some (.lst (xs ++ ys)) → Q (.ref p) H') : rCat (.ref a) (.ref b) H Q :=
  ⟨a, b, xs, ys, rfl, rfl, ha, hb, Nat.le_trans hl (by decide), New.to (Q := fun p H' => Q (.ref p) H') k⟩
theorem g_slL {a : Addr} {xs : List V} {lo hi : Option Int} (h : SqL K H a xs) (k : ∀ p H', H p = none → Same H H' → H' p = some (.lst (cutV xs lo hi)) → Q (.ref p) H') : rSlL K (.ref a) lo hi H Q :=
  ⟨a, xs, rfl, h, New.to (Q := fun p H' => Q (.ref p) H') k⟩
theorem g_lenL {p : Addr} {ys : List V} (h : SqL K H p ys) (k : Q (.int ys.length) H) : rLenQ K [.ref p] H Q := ⟨p, ys, rfl, .inl h, k⟩
theorem g_lenU {p : Addr} {ys : List V} (h : SqT K H p ys) (k : Q (.int ys.length) H) : rLenQ K [.ref p] H Q := ⟨p, ys, rfl, .inr h, k⟩
theorem g_lenT {z : Str} (h : z.length ≤ sizeLine) (k : Q (.int z.length) H) : rLenT [.str z] H Q := ⟨z, rfl, h, k⟩
theorem g_lenD {a : Addr} {kvs : List (Key × V)} (h : H a = some (.dK kvs)) (k : Q (.int kvs.length) H) : rLenD [.ref a] H Q := ⟨a, kvs, rfl, h, k⟩
theorem g_setL {p : Addr} {xs : List V} {j : Int} {n : Nat} {Q : Hp → Prop} (h : H p = some (.lst xs)) (hj : ixN xs.length j = some n) (k : Q (upd H p (.lst (xs.set n v)))) : rSetL (.ref p) (.int j) v H Q := ⟨p, xs, j, n, rfl, rfl, h, hj, k⟩
theorem g_sub {ti : TE} {t : TSet} {Q : St → Hp → Prop} (k : te σ H fun o H1 => ti σ H1 fun i H2 => t o i v H2 fun H3 => Q σ H3) : gSub te ti t v σ H Q := k
theorem g_dget2 {tx : TE} (k : ta σ H fun x H1 => ∃ a, x = .ref a ∧ IsD H1 a ∧ tb σ H1 fun y H2 => tx σ H2 fun z H3 => ∃ o, DGet H3 a y o ∧ Q (o.getD z) H3) : tDGet2 ta tb tx σ H Q := k
theorem g_orD {b1 b2 : Bool} {Q : Bool → Hp → Prop} (h1 : ∀ Q : Bool → Hp → Prop, Q b1 H → c σ H Q) (h2 : ∀ Q : Bool → Hp → Prop, Q b2 H → d σ H Q) (k : Q (b1 || b2) H) : tOr c d σ H Q := by
  refine h1 _ ?_
  cases b1
  · exact h2 _ k
  · exact k
theorem g_andD {b1 b2 : Bool} {Q : Bool → Hp → Prop} (h1 : ∀ Q : Bool → Hp → Prop, Q b1 H → c σ H Q) (h2 : ∀ Q : Bool → Hp → Prop, Q b2 H → d σ H Q) (k : Q (b1 && b2) H) : tAnd c d σ H Q := by
  refine h1 _ ?_
  cases b1
  · exact k
  · exact h2 _ k
theorem g_rixS {x : Str} {j : Int} {ch : Nat} (h : x.length ≤ sizeLine) (ha : atI x.cps.toList j = some ch) (k : Q (.str (SX.S [ch])) H) : rIxS (.str x) (.int j) H Q := ⟨x, j, ch, rfl, rfl, h, ha, k⟩
/-- for .. in range(r) -/
def kFor1 (g : TG) (tb : TS) (D : Ends) (σ : St) (vs : List V) (H : Hp) : Prop := ∃ j : Int, vs = [.int j] ∧ -(2 ^ 62) ≤ j ∧ j < 2 ^ 62 ∧ ∃ W : Nat → Nat → St → Hp → Prop, (∃ m, W 0 m σ H) ∧ ∀ i m σ H, W i m σ H →
  ((Itr 0 j.toNat).stop i H ∧ D.nx σ H) ∨ ((Itr 0 j.toNat).go i H ∧ ∃ N : St → Hp → Prop, (∀ σ' H', N σ' H' → ∃ m', m' < m ∧ W (i + 1) m' σ' H') ∧ ∀ x H', (Itr 0 j.toNat).yld i H x H' → g x σ H' fun σ2 H2 => tb { D with nx := N, ct := N, bk := D.nx } σ2 H2)
theorem g_forR {tb : TS} (k : tl σ H (kFor1 g tb D σ)) : tFor (iRng1 tl) g tb D σ H := k
theorem g_for1 {tb : TS} {r : Int} (h0 : 0 ≤ r) (h1 : r ≤ 100000) (Pv : Nat → St → Hp → Prop) (hi : Pv 0 σ H) (hs : ∀ (i : Nat) σ H, i < r.toNat → Pv i σ H → g (.int (i : Int)) σ H fun σ2 H2 => tb { D with nx := Pv (i + 1), ct := Pv (i + 1), bk := D.nx } σ2 H2)
    (hd : ∀ σ H, Pv r.toNat σ H → D.nx σ H) : kFor1 g tb D σ [.int r] H :=
  ⟨r, rfl, by omega, by omega, for_range (lo := 0) (n := r.toNat) Pv hi (fun i σ H hi h => by rw [Int.zero_add]; exact hs i σ H hi h) hd⟩
theorem g_cut {t u : TS} (Mid : St → Hp → Prop) (h1 : t { D with nx := Mid } σ H) (h2 : ∀ σ' H', Mid σ' H' → u D σ' H') : C8.tCut t u D σ H := ⟨Mid, h1, h2⟩
/-! statements -/
theorem g_seq (k : t { D with nx := u D } σ H) : tSeq t u D σ H := k
theorem g_asg (k : te σ H fun x H1 => g x σ H1 D.nx) : tAsg te g D σ H := k
theorem g_name {Q : St → Hp → Prop} (k : Q (σ.set i (some v)) H) : gName i v σ H Q := k
theorem g_ret (k : te σ H D.rt) : tRet te D σ H := k
theorem g_drop (k : te σ H fun _ H1 => D.nx σ H1) : tDrop te D σ H := k
theorem g_next (k : D.nx σ H) : tNext D σ H := k
theorem g_ifs (k : c σ H fun b H1 => if b = true then t D σ H1 else u D σ H1) : tIfS c t u D σ H := k
theorem g_pnx {nx bk ct : St → Hp → Prop} {rt : VK} (k : nx σ H) : Ends.nx ⟨nx, rt, bk, ct⟩ σ H := k
theorem g_prt {nx bk ct : St → Hp → Prop} {rt : VK} (k : rt v H) : Ends.rt ⟨nx, rt, bk, ct⟩ v H := k
theorem g_pbk {nx bk ct : St → Hp → Prop} {rt : VK} (k : bk σ H) : Ends.bk ⟨nx, rt, bk, ct⟩ σ H := k
theorem g_pct {nx bk ct : St → Hp → Prop} {rt : VK} (k : ct σ H) : Ends.ct ⟨nx, rt, bk, ct⟩ σ H := k
/-! ways -/
theorem ifp {p A B : Prop} [Decidable p] (h : p) (k : A) : if decide p = true then A else B := by rw [if_pos (decide_eq_true h)]; exact k
theorem ifn {p A B : Prop} [Decidable p] (h : ¬ p) (k : B) : if decide p = true then A else B := by rw [if_neg (by simp [h])]; exact k
theorem if2 {p A B : Prop} [Decidable p] (h1 : p → A) (h2 : ¬ p → B) : if decide p = true then A else B := by
  by_cases h : p
  · exact ifp h (h1 h)
  · exact ifn h (h2 h)
theorem ifnp {p A B : Prop} [Decidable p] (h : p) (k : B) : if (!decide p) = true then A else B := by rw [if_neg (by simp [h])]; exact k
theorem ifnn {p A B : Prop} [Decidable p] (h : ¬ p) (k : A) : if (!decide p) = true then A else B := by rw [if_pos (by simp [h])]; exact k
theorem ifn2 {p A B : Prop} [Decidable p] (h1 : p → B) (h2 : ¬ p → A) : if (!decide p) = true then A else B := by
  by_cases h : p
  · exact ifnp h (h1 h)
  · exact ifnn h (h2 h)
theorem ifb {b : Bool} {A B : Prop} (h1 : b = true → A) (h2 : b = false → B) : if b = true then A else B := by
  cases b
  · exact iteF (h2 rfl)
  · exact iteT (h1 rfl)
theorem int_eq {a b : Int} : (V.int a = V.int b) ↔ a = b := ⟨fun h => V.int.inj h, fun h => by rw [h]⟩
theorem str_eq {a b : Str} : (V.str a = V.str b) ↔ a = b := ⟨fun h => V.str.inj h, fun h => by rw [h]⟩
theorem bl_eq {a b : Bool} : (V.bl a = V.bl b) ↔ a = b := ⟨fun h => V.bl.inj h, fun h => by rw [h]⟩
end
/-! one step of a reading: the keys are ours -/

/-! ### steps of the heap: whose objects changed (c tells each object's owner) -/
structure Stp (I : Nat → Prop) (c c' : Addr → Nat) (H H' : Hp) : Prop where
  keep : ∀ b o, H b = some o → ¬ I (c b) → H' b = some o
  col : ∀ b o, H b = some o → c' b = c b
  tup : ∀ b xs, H b = some (.tup xs) → H' b = some (.tup xs)
  fre : ∀ b, H' b = none → H b = none
namespace Stp
variable {I J : Nat → Prop} {c c' c'' : Addr → Nat} {H H' H'' : Hp}
theorem refl : Stp I c c H H := ⟨fun _ _ h _ => h, fun _ _ _ => rfl, fun _ _ h => h, fun _ h => h⟩
theorem some' (s : Stp I c c' H H') {b : Addr} {o : HO} (h : H b = some o) : ∃ o', H' b = some o' := by
  cases e : H' b with
  | none => rw [s.fre b e] at h; cases h
  | some o' => exact ⟨o', rfl⟩
theorem trans (a : Stp I c c' H H') (b : Stp I c' c'' H' H'') : Stp I c c'' H H'' := by
  refine ⟨fun x o h n => b.keep x o (a.keep x o h n) (by rw [a.col x o h]; exact n), fun x o h => ?_, fun x xs h => b.tup x xs (a.tup x xs h), fun x h => a.fre x (b.fre x h)⟩
  obtain ⟨o', h'⟩ := a.some' h
  rw [b.col x o' h', a.col x o h]
theorem mono (a : Stp I c c' H H') (h : ∀ i, I i → J i) : Stp J c c' H H' := ⟨fun x o e n => a.keep x o e fun z => n (h _ z), a.col, a.tup, a.fre⟩
theorem same (h : Same H H') : Stp I c c H H' := ⟨fun x o e _ => h x o e, fun _ _ _ => rfl, fun x xs e => h x _ e, fun _ e => h.free e⟩
theorem own {b : Addr} {o o' : HO} (h : H b = some o) (hi : I (c b)) (ht : ∀ xs, o ≠ .tup xs) : Stp I c c H (upd H b o') := by
  refine ⟨fun x u e n => ?_, fun _ _ _ => rfl, fun x xs e => ?_, fun x e => ?_⟩
  · rw [upd_ne (fun z => n (by rw [z]; exact hi))]; exact e
  · rw [upd_ne (fun z => ht xs (by subst z; rw [h] at e; exact Option.some.inj e))]; exact e
  · by_cases z : x = b
    · subst z; rw [upd_same] at e; cases e
    · rw [upd_ne z] at e; exact e
/-- one own object changed -/
theorem ch {b : Addr} {o o' : HO} (h : H b = some o) (hi : I (c b)) (ht : ∀ xs, o ≠ .tup xs) (h' : H' b = some o') (k : ∀ x, x ≠ b → H' x = H x) : Stp I c c H H' := by
  refine ⟨fun x u e n => ?_, fun _ _ _ => rfl, fun x xs e => ?_, fun x e => ?_⟩
  · rw [k x (fun z => n (by rw [z]; exact hi))]; exact e
  · rw [k x (fun z => ht xs (by subst z; rw [h] at e; exact Option.some.inj e))]; exact e
  · by_cases z : x = b
    · subst z; rw [h'] at e; cases e
    · rw [k x z] at e; exact e
theorem sameC (h : Same H H') (hc : ∀ b o, H b = some o → c' b = c b) : Stp I c c' H H' := ⟨fun x o e _ => h x o e, hc, fun x xs e => h x _ e, fun _ e => h.free e⟩
theorem new {p : Addr} {o : HO} (h : H p = none) : Stp I c c H (upd H p o) := same fun b u e => by rw [upd_ne (ne_of_none e h)]; exact e
/-- a new object gets its owner -/
def paint (c : Addr → Nat) (p : Addr) (i : Nat) : Addr → Nat := fun b => if b = p then i else c b
theorem paint_same {p : Addr} {i : Nat} : paint c p i p = i := by unfold paint; rw [if_pos rfl]
theorem paint_ne {p b : Addr} {i : Nat} (h : b ≠ p) : paint c p i b = c b := by unfold paint; rw [if_neg h]
theorem newc {p : Addr} {o : HO} {i : Nat} (h : H p = none) : Stp I c (paint c p i) H (upd H p o) :=
  ⟨fun b u e _ => by rw [upd_ne (ne_of_none e h)]; exact e, fun b u e => paint_ne (ne_of_none e h), fun b xs e => by rw [upd_ne (ne_of_none e h)]; exact e, fun b e => by
    by_cases z : b = p
    · subst z; rw [upd_same] at e; cases e
    · rw [upd_ne z] at e; exact e⟩
end Stp
theorem _root_.L2.Same.new {H : Hp} {p : Addr} {o : HO} (h : H p = none) : Same H (upd H p o) := fun b u e => by rw [upd_ne (ne_of_none e h)]; exact e
theorem _root_.L2.Same.seqT {K : PySem.W.Frag} {H H' : Hp} {a : Addr} {xs : List V} (e : Same H H') (h : SqT K H a xs) : SqT K H' a xs := by
  rcases h with (h | ⟨o, h⟩) | h
  · exact .inl (.inl (e _ _ h))
  · exact .inl (.inr ⟨o, e _ _ h⟩)
  · exact .inr h
theorem _root_.L2.Same.thenNew {H H' : Hp} {p : Addr} {o : HO} (s : Same H H') (h : H' p = none) : Same H (upd H' p o) := s.trans (Same.new h)
/-- a list that a def made for itself grows -/
theorem _root_.L2.Same.grow {H H' : Hp} {p : Addr} {o : HO} (s : Same H H') (h : H p = none) : Same H (upd H' p o) := fun b u e => by
  rw [upd_ne (ne_of_none e h)]
  exact s b u e
end Lw
namespace Lw
open PySem L2
open PyProof.Rows (envOfC)
theorem lk_eq {k : Str} {v : V} {l : List (Str × V)} : List.lookup k ((k, v) :: l) = some v := by simp [List.lookup]
theorem lk_ne {k k' : Str} {v : V} {l : List (Str × V)} (h : (k == k') = false) : List.lookup k ((k', v) :: l) = l.lookup k := by simp [List.lookup, h]
theorem lk_no {m : Str} : ∀ {l : List (Str × V)}, (l.map (·.1)).all (fun f => !(m == f)) = true → l.lookup m = none
  | [], _ => rfl
  | (k, v) :: l, h => by
    have h : (!(m == k) && (l.map (·.1)).all (fun f => !(m == f))) = true := h
    rw [Bool.and_eq_true, Bool.not_eq_true'] at h
    rw [lk_ne h.1]
    exact lk_no h.2
theorem pf_eq {k : Str} {y v : V} {l : List (Str × V)} : putF k y ((k, v) :: l) = (k, y) :: l := by
  show (if k = k then _ else _) = _
  rw [if_pos rfl]
theorem pf_ne {k k' : Str} {y v : V} {l : List (Str × V)} (h : ¬ k' = k) : putF k y ((k', v) :: l) = (k', v) :: putF k y l := by
  show (if k' = k then _ else _) = _
  rw [if_neg h]
end Lw
local macro_rules | `(tactic| walk_at "lw side") => `(tactic| first | assumption | decide | omega | exact Or.inr ⟨by decide, by decide⟩ | exact Or.inl ⟨by decide, by decide⟩ | exact ⟨by decide, by decide⟩ | exact ⟨by omega, by omega⟩)
local macro_rules | `(tactic| walk_at "lw ne") => `(tactic| first | assumption | exact Ne.symm (by assumption) | exact L2.ne_of_none (by assumption) (by assumption) | exact Ne.symm (L2.ne_of_none (by assumption) (by assumption)))
local macro_rules | `(tactic| walk_at "lw hp") => `(tactic| first | assumption | exact L2.upd_same | (refine Eq.trans (L2.upd_ne (by walk_at "lw ne")) ?_; walk_at "lw hp"))
local macro_rules | `(tactic| walk_at "lw sq") => `(tactic| first | assumption | exact L2.SqL.of (by walk_at "lw hp") | exact L2.SqT.of (by walk_at "lw hp"))
local macro_rules | `(tactic| walk_at "lw go") => `(tactic| first
  | (with_reducible refine Lw.g_seq ?_)
  | ((with_reducible refine' Lw.g_var ?h1 ?k1); (case h1 => rfl))
  | (with_reducible refine Lw.g_c ?_)
  | (with_reducible refine Lw.g_op ?_)
  | (with_reducible refine Lw.g_I0 ?_)
  | ((with_reducible refine' Lw.g_I ?h1 ?k1); (case h1 => walk_at "lw side"))
  | ((with_reducible refine' Lw.g_eq ?h1 ?k1); (case h1 => rfl))
  | ((with_reducible refine' Lw.g_ne ?h1 ?k1); (case h1 => rfl))
  | (with_reducible refine Lw.g_nil ?_)
  | (with_reducible refine Lw.g_cons ?_)
  | (with_reducible refine Lw.g_cb ?_)
  | (with_reducible refine Lw.g_call ?_)
  | (with_reducible refine Lw.g_test ?_)
  | (with_reducible refine Lw.g_B ?_)
  | (with_reducible refine Lw.g_exb ?_)
  | (with_reducible refine Lw.g_not ?_)
  | (with_reducible refine Lw.g_and ?_)
  | (with_reducible refine Lw.g_or ?_)
  | (with_reducible refine Lw.g_tup ?_)
  | (with_reducible refine Lw.g_lst ?_)
  | (with_reducible refine Lw.g_ifx ?_)
  | (with_reducible refine Lw.g_fld ?_)
  | (with_reducible refine Lw.g_asg ?_)
  | (with_reducible refine Lw.g_name ?_)
  | (with_reducible refine Lw.g_ret ?_)
  | (with_reducible refine Lw.g_drop ?_)
  | (with_reducible refine Lw.g_next ?_)
  | (with_reducible refine Lw.g_ifs ?_)
  | (with_reducible refine Lw.g_pnx ?_)
  | (with_reducible refine Lw.g_prt ?_)
  | (with_reducible refine Lw.g_pbk ?_)
  | (with_reducible refine Lw.g_pct ?_)
  | (with_reducible refine Lw.g_sl ?_)
  | (with_reducible refine Lw.g_nopart ?_)
  | (with_reducible refine Lw.g_part ?_)
  | (with_reducible refine Lw.g_rpart ?_)
  | (with_reducible refine Lw.g_m1 ?_)
  | (with_reducible refine Lw.g_m0 ?_)
  | (with_reducible refine Lw.g_rstr ?_)
  | (with_reducible refine Lw.g_bm0 ?_)
  | (with_reducible refine Lw.g_bm ?_)
  | (with_reducible refine Lw.g_isN ?_)
  | (with_reducible refine Lw.g_notN ?_)
  | (with_reducible refine L2.iteT ?_)
  | (with_reducible refine L2.iteF ?_)
  | (with_reducible refine Lw.g_int1 ?_)
  | (with_reducible refine Lw.g_int1b ?_)
  | (with_reducible refine Lw.g_sub ?_)
  | (with_reducible refine Lw.g_forR ?_)
  | (with_reducible refine Lw.g_reprB ?_)
  | (with_reducible refine Lw.g_sfld ?_)
  | (with_reducible refine Lw.g_meth ?_)
  | (with_reducible refine Lw.g_make ?_)
  | ((with_reducible refine' Lw.g_lenL ?h1 ?k1); (case h1 => walk_at "lw sq"))
  | ((with_reducible refine' Lw.g_lenD ?h1 ?k1); (case h1 => walk_at "lw hp")))
local macro_rules | `(tactic| walk_at "lw") => `(tactic| repeat walk_at "lw go")

/-! ## rules of our own: list(text), a written dict's get, repr of a bool -/
namespace Lw
open PySem L2 PySem.W
open PyProof.Rows (envOfC)
section
variable {prog : Program} {w : World} {A : Around} {E : Value → Shared → Prop} {s : Shared}
theorem hint_text {x : Str} {t : Tok} {Q : Bool → Shared → Prop} (h : Q false s) : wpAny (model prog w) A (Builtin.List.listLengthHint (.str x t)) Q E s := by
  have hT : s.TypeIs (.str x t) "str" := typeIs_str s x t
  unfold Builtin.List.listLengthHint
  refine wpAny_bind (wpAny_specialOf hT PySem.F.slot_str_len.lookup ?_)
  generalize hid : ("str.__len__" : String) = id0
  wp_delta
  rw [show splitId id0 = some ("str", "__len__") from by subst hid; decide +kernel]
  subst hid
  refine wpAny_bind (wpAny_isInstance (T := "str") (b := true) hT (by rw [isSubtype_type]; kernel_rfl) ?_)
  refine wpAny_ite_split (fun hab => absurd hab (by decide)) (fun _ => ?_)
  refine wpAny_ite_split (fun _ => ?_) (fun hab => absurd (by decide +kernel) hab)
  refine wpAny_bind (wpAny_typeOf hT ?_)
  exact wpAny_pure h
theorem extend_text {R : Result → Shared → Prop} {x : Str} {t : Tok} (hh : A.handled = none) (S : Addr) (res : Value) (c₀ : Nat) (hS : s.heap.get? S = some { cls := .type "list", data := .seq #[] c₀ })
    (hR : ∀ h' tk acc' c', (∀ b o, b ≠ S → s.heap.get? b = some o → h'.get? b = some o) → h'.get? S = some { cls := .type "list", dict := none, data := .seq acc' c', slots := #[] } → ItemsOf (SignAt x) acc' x.cps.size → R (.ok (.ret res)) { s with heap := h', toks := tk }) (hn : x.cps.size ≤ sizeLine) :
    wpAny (model prog w) A.in1 (Builtin.List.listExtendWith (.ref S) (.str x t) res)
      (fun fin s' => match fin with | .done f => R (.ok f) s' | .again c' => c'.quiet = true ∧ codeAny (model prog w) A c' R s') (fun e s' => R (.error e) s') s := by
  have hSI : S ≠ s.heap.objs.size := Nat.ne_of_lt (Heap.lt_size hS)
  have hSf : S ∉ [s.heap.objs.size] := by simp only [List.mem_cons, List.not_mem_nil, or_false]; exact hSI
  obtain ⟨oI, St, hit, W, st⟩ : ∃ (oI : Obj) (St : Nat → Heap → Prop), (∀ (E : Value → Shared → Prop) (Q : Value → Shared → Prop), Q (.ref s.heap.objs.size) { s with heap := s.heap.push oI } → wpAny (model prog w) A.in1 (pyIter (.str x t)) Q E s) ∧
      Walks prog w A.in1 s.heap.objs.size [s.heap.objs.size] [s.heap.objs.size] x.cps.size (SignAt x) St ∧ St 0 (s.heap.push oI) := by
    cases ha : x.cps.all (· < 128)
    · exact ⟨_, _, fun E Q q => wpAny_pyIter_wide ha q, Walks.strWide (A := A.in1) hh _ x t, ⟨_, Heap.get?_push_size _ rfl, rfl, rfl⟩⟩
    · exact ⟨_, _, fun E Q q => wpAny_pyIter_ascii ha q, Walks.strAscii (A := A.in1) hh _ x t, ⟨_, Heap.get?_push_size _ rfl, rfl, rfl⟩⟩
  have key : ∀ (h : Heap) (c₁ tk : Nat), St 0 h → (∀ b o, b ≠ S → s.heap.get? b = some o → h.get? b = some o) →
      h.get? S = some { cls := .type "list", data := .seq #[] c₁ } → codeAny (model prog w) A (.builtin "list.extend.loop" ⟨[.ref S, .ref s.heap.objs.size, res], []⟩) R { s with heap := h, toks := tk } := by
    intro h c₁ tk hst hk hS₁
    refine codeAny_extend_loopS W.toS hn S hSf res x.cps.size 0 _ #[] c₁ rfl (Nat.zero_le _) hst hS₁ (ItemsOf.nil _) fun s' acc' c' hm hS' hacc => ?_
    rw [Moved.eq_with hm]
    refine hR s'.heap s'.toks acc' c' (fun b o hb e => hm.heap b o (fun hmem => ?_) (hk b o hb e)) hS' hacc
    rcases List.mem_cons.mp hmem with e' | hmem
    · exact hb e'
    · exact absurd (Heap.lt_size e) (by rw [List.mem_singleton.mp hmem]; exact Nat.lt_irrefl _)
  unfold Builtin.List.listExtendWith
  refine wpAny_bind (wpAny_typeOf (T := "str") (typeIs_str s x t) ?_)
  have h1 : Builtin.List.listSameRef (.ref S) (.str x t) = false := rfl
  have h2 : (Value.type "str" == Value.type "list") = false := by decide
  have h3 : (Value.type "str" == Value.type "tuple") = false := by decide
  simp only [h1, h2, h3, Bool.or_false, Bool.false_eq_true, if_false]
  refine wpAny_bind (hit _ _ ?_)
  have hS₁ := Heap.get?_push_of_some oI hS
  refine wpAny_bind (wpAny_holding (hint_text ?_))
  refine wpAny_ite_split (fun _ => ?_) (fun _ => wpAny_pure ⟨plainId_quiet PySem.F.plain_extend_loop _, key _ c₀ _ st (fun b o _ e => Heap.get?_push_of_some _ e) hS₁⟩)
  refine wpAny_bind (wpAny_rule ?_)
  refine wpAny_bind ?_
  show wpAny _ _ (updateSeq S (·.push .none) >>= fun _ => updateSeq S (·.pop)) _ _ _
  refine wpAny_bind (wpAny_updateSeq hS₁ rfl ?_)
  have hS₂ := Heap.get?_update_self (Obj.mapSeq (·.push Value.none)) hS₁ rfl
  refine wpAny_updateSeq (hz := by seq_fits) hS₂ rfl ?_
  have hS₃ := Heap.get?_update_self (Obj.mapSeq (·.pop)) hS₂ rfl
  refine wpAny_pure ⟨plainId_quiet PySem.F.plain_extend_loop _, key _ _ _ ?_ (fun b o hb e => ?_) hS₃⟩
  · refine W.frame 0 _ _ st fun b hb o e => ?_
    have hbS : b ≠ S := fun h => hSf (h ▸ hb)
    exact (Heap.get?_update_other _ _ (Ne.symm hbS)).trans ((Heap.get?_update_other _ _ (Ne.symm hbS)).trans e)
  · exact (Heap.get?_update_other _ _ (Ne.symm hb)).trans ((Heap.get?_update_other _ _ (Ne.symm hb)).trans (Heap.get?_push_of_some _ e))
theorem init_text {R : Result → Shared → Prop} {x : Str} {t : Tok} (hh : A.handled = none) (S : Addr) (hS : s.heap.get? S = some { cls := .type "list", data := .seq #[] })
    (hR : ∀ h' tk acc' c', (∀ b o, b ≠ S → s.heap.get? b = some o → h'.get? b = some o) → h'.get? S = some { cls := .type "list", dict := none, data := .seq acc' c', slots := #[] } → ItemsOf (SignAt x) acc' x.cps.size → R (.ok (.ret .none)) { s with heap := h', toks := tk }) (hn : x.cps.size ≤ sizeLine) :
    wpAny (model prog w) A.in1 (Builtin.«list.__init__» ⟨[.ref S, .str x t], []⟩)
      (fun fin s' => match fin with | .done f => R (.ok f) s' | .again c' => c'.quiet = true ∧ codeAny (model prog w) A c' R s') (fun e s' => R (.error e) s') s := by
  show wpAny _ _ (do let old ← Builtin.List.listItems (.ref S); Builtin.List.listUpdate (.ref S) (fun _ => #[]); letGo old.toList.reverse; Builtin.List.listExtendWith (.ref S) (.str x t) .none) _ _ s
  refine wpAny_bind ?_
  unfold Builtin.List.listItems
  refine wpAny_bind (wpAny_seqItems hS rfl (wpAny_pure ?_))
  show wpAny _ _ (updateSeq S (fun _ => #[]) >>= fun _ => letGo (#[] : Array Value).toList.reverse >>= fun _ => Builtin.List.listExtendWith (.ref S) (.str x t) .none) _ _ s
  refine wpAny_bind (wpAny_updateSeq hS rfl ?_)
  have hS₂ := Heap.get?_update_self (Obj.mapSeq (fun _ => (#[] : Array Value))) hS rfl
  have oth : ∀ b o, b ≠ S → s.heap.get? b = some o → (s.heap.update S (Obj.mapSeq (fun _ => (#[] : Array Value)))).get? b = some o :=
    fun b o hb e => (Heap.get?_update_other _ _ (Ne.symm hb)).trans e
  refine wpAny_bind (wpAny_letGo ?_)
  refine extend_text hh S .none _ hS₂ (fun h' tk acc' c' hk hS' hacc => ?_) hn
  exact hR h' tk acc' c' (fun b o hb e => hk b o hb (oth b o hb e)) hS' hacc
theorem call_list_text {x : Str} {t : Tok} {Q : Value → Shared → Prop} (hh : A.handled = none) (hn : x.cps.size ≤ sizeLine)
    (hQ : ∀ h' tk acc' c', (∀ b o, s.heap.get? b = some o → h'.get? b = some o) → h'.get? s.heap.objs.size = some { cls := .type "list", dict := none, data := .seq acc' c', slots := #[] } → ItemsOf (SignAt x) acc' x.cps.size → Q (.ref s.heap.objs.size) { s with heap := h', toks := tk }) :
    wpAny (model prog w) A (call (.type "list") [.str x t]) Q E s := by
  refine callType_codes (Q₁ := fun obj s₁ => obj = .ref s.heap.objs.size ∧ s₁ = { s with heap := s.heap.push { cls := .type "list", data := .seq #[] } }) PySem.F.called_list (PySem.F.typeCall_list_1 _) PySem.F.entry_list_init
    (code_list_new _ ⟨rfl, rfl⟩) fun obj s₁ h₁ => ?_
  obtain ⟨rfl, rfl⟩ := h₁
  have hS : (s.heap.push { cls := .type "list", data := .seq #[] }).get? s.heap.objs.size = some { cls := .type "list", data := .seq #[] } := Heap.get?_push_size _ rfl
  refine ⟨⟨_, hS, rfl⟩, PySem.F.args_list_init_2 _ _, init_text (A := A.in1) hh _ hS (fun h' tk acc' c' hk hS' hacc => ?_) hn⟩
  exact ⟨rfl, hQ h' tk acc' c' (fun b o e => hk b o (Nat.ne_of_lt (Heap.lt_size e)) (Heap.get?_push_of_some _ e)) hS' hacc⟩
end
/-- the signs of a text, each a text -/
def sgs (l : List Nat) : List V := l.map fun c => V.str ⟨#[c]⟩
def rListT : List V → Hp → VK → Prop := fun xs H Q => ∃ x : Str, xs = [.str x] ∧ x.length ≤ sizeLine ∧ ∀ q, H q = none → Q (.ref q) (upd H q (.lst (sgs x.cps.toList)))
theorem call_listT {X : Cx} (hc : X.calm = true) : CallR X (.type "list") rListT := by
  intro pins s σ H xs us Q I r h
  obtain ⟨x, e, hz, q⟩ := h
  subst e
  obtain ⟨u, eu, rx⟩ := vals1 r
  subst eu
  obtain ⟨t, rfl⟩ := rx
  refine call_list_text (I.ok.hd hc) hz fun h' tk acc' c' hkeep hS hacc => ?_
  refine ⟨.ref s.heap.objs.size, upd H s.heap.objs.size (.lst (sgs x.cps.toList)), I.laid hkeep (Nat.le_refl _) (show ObjOk X.prog X.w _ _ _ (.lst (sgs x.cps.toList)) from ⟨?_, acc'.toList, c', ?_, ?_⟩), rfl, q _ (I.hok.fresh (Nat.le_refl _))⟩
  · unfold sgs; rw [List.length_map, Array.length_toList]; exact hz
  · have el : acc'.toList.length = acc'.size := by simp
    refine vals_of_at (by unfold sgs; rw [List.length_map, Array.length_toList, el, hacc.1]) fun j v w h1 h2 => ?_
    obtain ⟨c, u, hc1, hu⟩ := hacc.2 j w (by rw [← Array.getElem?_toList]; exact h2)
    have e2 : (sgs x.cps.toList)[j]? = some (V.str ⟨#[c]⟩) := by
      unfold sgs
      rw [List.getElem?_map, Array.getElem?_toList, hc1] <;> rfl
    rw [e2] at h1
    cases h1
    exact ⟨u, hu⟩
  · rw [Array.toArray_toList]; exact hS
section
variable {X : Cx}
/-- D.get(e) of a written dict D -/
def rKGet (K : PySem.W.Frag) (d : Addr) (y : V) (H1 : Hp) (Q : VK) : Prop := ∃ (z : Str) (r : Option Value) (v : V), y = .str z ∧ PySem.W.nsIn K d z = some r ∧ RelV v (r.getD .none) ∧ Q v H1
def tKGet (K : PySem.W.Frag) (d : Addr) (te : TE) : TE := fun σ H Q => te σ H fun y H1 => rKGet K d y H1 Q
theorem g_kget {K : PySem.W.Frag} {d : Addr} {te : TE} {σ : L2.St} {H : Hp} {Q : VK} (k : te σ H fun y H1 => rKGet K d y H1 Q) : tKGet K d te σ H Q := k
theorem pe_kget {o e : Expr} {apos cpos : Pos} {d : Addr} {es : Array DictEntry} {n : Nat} {te : TE} (D : KDict X.K X.w d es n) (ho : PE X o (tC (.ref d))) (he : PE X e te) (m : M1 X o "get" apos e cpos) : PE X (.Call (.Attribute o "get" apos) [e] [] cpos) (tKGet X.K d te) := by
  refine ⟨fun pins s σ H Q I h => ?_⟩
  refine wpAny_Call_method m.base m.few m.line PySem.F.plainAttrs_dict PySem.F.slot_dict_get PySem.F.type_dict_get (thn (ho.run pins s σ H (fun x H1 => x = .ref d ∧ te σ H1 fun y H1 => ∃ (z : Str) (r : Option Value) (v : V), y = .str z ∧ PySem.W.nsIn X.K d z = some r ∧ RelV v (r.getD .none) ∧ Q v H1) I ⟨rfl, h⟩) fun u s1 ⟨x, H1, I1, rx, ex, q1⟩ => ?_)
  subst ex
  obtain rfl : u = Value.ref d := rx
  have mo := PySem.W.mapOf_K (prog := X.prog) (w := X.w) I1.kIn D.at_ D.lit
  refine ⟨mo.typeIs, fun b q => ?_, ?_⟩
  · cases q
    obtain ⟨ob, es', ep, h1, h2, _⟩ := mo
    exact ⟨ob, h1, h2.2.1⟩
  rw [m.trees]
  refine Calls.callWith_builtin rfl (Calls.evalArgs_plain (Calls.spliced_cons (thn (he.run pins s1 σ H1 _ I1 q1) fun iv s2 ⟨y, H2, I2, ry, z, r, v, ey, en, rv, q2⟩ => Calls.spliced_nil ?_)))
  subst ey
  obtain ⟨t, rfl⟩ := ry
  have mo2 := PySem.W.mapOf_K (prog := X.prog) (w := X.w) I2.kIn D.at_ D.lit
  refine call_meetsIn PySem.F.slot_dict_get mo2.typeIs PySem.F.entry_dict_get (PySem.F.args_dict_get_2 _ _) (meets_dict_get (strKind X.prog X.w) d (PySem.strKind_is X.prog X.w z t) D.low) ⟨_, mo2, ⟨v, H2, I2.tok _, ?_, q2⟩⟩
  rw [PySem.W.find_K D.at_ en]
  exact rv
end
end Lw

/-! ## bodies and how they are spoilt -/
namespace Lw
open PySem L2
open PyProof.Rows (envOfC)
/-- where the text of a body of this kind stands -/
def PL (k : Str) : Option Nat := if k = "part" then some 3 else if k = "put" then some 3 else if k = "piece" then some 4 else none
def words9 : List Str := ["part", "put", "piece", "open", "kept", "name", "look", "wrong", "have"]
/-- a body as the law makes it, or as it is spoilt -/
inductive GB : List Key → Prop
  | txt (k : Str) (pre post : List Key) (t : List Nat) : k ∈ words9 → PL k = some (pre.length + 1) → t.length ≤ 4 → pre.length ≤ 3 → post.length ≤ 1 → GB (.inr k :: pre ++ .inr (SX.S t) :: post)
  | pl (k : Str) (r : List Key) : k ∈ words9 → PL k = none → r.length ≤ 5 → GB (.inr k :: r)
/-- what the text becomes -/
def spoT (t : List Nat) (p ch : Nat) : List Nat := t.set (p % t.length) ch
/-- b' is b spoilt at p by ch -/
inductive SpB (p ch : Nat) : List Key → List Key → Prop
  | txt (k : Str) (pre post : List Key) (t : List Nat) : PL k = some (pre.length + 1) → t ≠ [] → SpB p ch (.inr k :: pre ++ .inr (SX.S t) :: post) (.inr k :: pre ++ .inr (SX.S (spoT t p ch)) :: post)
  | nil (k : Str) (pre post : List Key) : PL k = some (pre.length + 1) → SpB p ch (.inr k :: pre ++ .inr (SX.S []) :: post) (.inr k :: pre ++ .inr (SX.S []) :: post)
  | pl (k : Str) (r : List Key) : PL k = none → SpB p ch (.inr k :: r) (.inr k :: r)
theorem SpB.gb {p ch : Nat} {b b' : List Key} (s : SpB p ch b b') (g : GB b) : GB b' := by
  cases s with
  | nil k pre post h => exact g
  | pl k r h => exact g
  | txt k pre post t h ht =>
    generalize hb : (Sum.inr k :: pre ++ Sum.inr (SX.S t) :: post : List Key) = b at g
    cases g with
    | pl k2 r h1 h2 h3 =>
      injection hb with e1 e2
      cases e1
      rw [h] at h2
      cases h2
    | txt k2 pre2 post2 t2 h1 h2 h3 h4 h5 =>
      injection hb with e1 e2
      cases e1
      rw [h] at h2
      have el : pre.length = pre2.length := by injection h2 with z; omega
      obtain ⟨e3, e4⟩ := List.append_inj e2 el
      injection e4 with e5 e6
      have e7 : t = t2 := SX.S_inj (Sum.inr.inj e5)
      subst e3 e6 e7
      exact .txt k pre post _ h1 h (by unfold spoT; rw [List.length_set]; exact h3) h4 h5
/-- spoilt in one way alone -/
theorem SpB.uniq {p ch : Nat} {b b1 b2 : List Key} (s1 : SpB p ch b b1) (s2 : SpB p ch b b2) : b1 = b2 := by
  generalize hb : b = b0 at s2
  cases s1 with
  | pl k r h =>
    cases s2 with
    | pl k2 r2 h2 => exact hb
    | nil k2 pre2 post2 h2 => exact hb
    | txt k2 pre2 post2 t2 h2 ht2 =>
      injection hb with e1 e2
      cases e1
      rw [h] at h2
      cases h2
  | nil k pre post h =>
    cases s2 with
    | pl k2 r2 h2 => exact hb
    | nil k2 pre2 post2 h2 => exact hb
    | txt k2 pre2 post2 t2 h2 ht2 =>
      injection hb with e1 e2
      cases e1
      rw [h] at h2
      have el : pre.length = pre2.length := by injection h2 with z; omega
      obtain ⟨e3, e4⟩ := List.append_inj e2 el
      injection e4 with e5 e6
      exact absurd (SX.S_inj (Sum.inr.inj e5)).symm ht2
  | txt k pre post t h ht =>
    cases s2 with
    | pl k2 r2 h2 =>
      injection hb with e1 e2
      cases e1
      rw [h] at h2
      cases h2
    | nil k2 pre2 post2 h2 =>
      injection hb with e1 e2
      cases e1
      rw [h] at h2
      have el : pre.length = pre2.length := by injection h2 with z; omega
      obtain ⟨e3, e4⟩ := List.append_inj e2 el
      injection e4 with e5 e6
      exact absurd (SX.S_inj (Sum.inr.inj e5)) ht
    | txt k2 pre2 post2 t2 h2 ht2 =>
      injection hb with e1 e2
      cases e1
      rw [h] at h2
      have el : pre.length = pre2.length := by injection h2 with z; omega
      obtain ⟨e3, e4⟩ := List.append_inj e2 el
      injection e4 with e5 e6
      have e7 := SX.S_inj (Sum.inr.inj e5)
      subst e3 e6 e7
      rfl
/-- the data of a body -/
def dK : Key → PyData
  | .inl i => .int i
  | .inr x => .str x
theorem dp_key {K : PySem.W.Frag} {H : Hp} : ∀ k : Key, Dp K H (kV k) (dK k)
  | .inl i => .int i
  | .inr x => .str x
theorem dp_keys {K : PySem.W.Frag} {H : Hp} : ∀ b : List Key, DpAll K H (b.map kV) (b.map dK)
  | [] => .nil
  | k :: b => .cons (dp_key k) (dp_keys b)
theorem dp_body {K : PySem.W.Frag} {H : Hp} {t : Addr} {b : List Key} (h : H t = some (.tup (b.map kV))) : Dp K H (.ref t) (.tuple (b.map dK)) := .tup (SqT.of h) (dp_keys b)
def OkB (b : List Key) : Prop := ∀ x, (Sum.inr x : Key) ∈ b → PyData.strOk x = true
theorem sh_all : ∀ b : List Key, OkB b → PyData.canLayAll0 (b.map dK) = true ∧ PyData.depthAll (b.map dK) = 0
  | [], _ => ⟨rfl, rfl⟩
  | k :: b, h => by
    obtain ⟨h1, h2⟩ := sh_all b fun x hx => h x (List.mem_cons_of_mem _ hx)
    cases k with
    | inl i => exact ⟨by simpa [PyData.canLayAll0, dK, PyData.canLay0] using h1, by simpa [PyData.depthAll, dK, PyData.depth] using h2⟩
    | inr x => exact ⟨by simpa [PyData.canLayAll0, dK, PyData.canLay0, h x (List.mem_cons_self)] using h1, by simpa [PyData.depthAll, dK, PyData.depth] using h2⟩
theorem sh_body {b : List Key} (h : OkB b) : SeqAt.shaped (.tuple (b.map dK)) = true := by
  obtain ⟨h1, h2⟩ := sh_all b h
  unfold SeqAt.shaped
  rw [Bool.and_eq_true, decide_eq_true_eq]
  exact ⟨h1, by simp only [PyData.depth]; omega⟩
theorem okT {l : List Nat} (h : ∀ c ∈ l, c < 0x110000) : PyData.strOk (SX.S l) = true := by
  unfold PyData.strOk
  rw [← Array.all_toList, List.all_eq_true]
  intro c hc
  exact decide_eq_true (h c hc)
theorem okT' {l : List Nat} (h : PyData.strOk (SX.S l) = true) : ∀ c ∈ l, c < 0x110000 := by
  unfold PyData.strOk at h
  rw [← Array.all_toList, List.all_eq_true] at h
  intro c hc
  exact of_decide_eq_true (h c hc)
theorem SpB.okb {p ch : Nat} {b b' : List Key} (s : SpB p ch b b') (hc : ch < 0x110000) (g : OkB b) : OkB b' := by
  cases s with
  | nil k pre post h => exact g
  | pl k r h => exact g
  | txt k pre post t h ht =>
    intro x hx
    rcases List.mem_append.mp hx with z | z
    · exact g x (List.mem_append.mpr (Or.inl z))
    · rcases List.mem_cons.mp z with z | z
      · rw [Sum.inr.inj z]
        refine okT fun c hm => ?_
        rcases List.mem_or_eq_of_mem_set hm with q | q
        · exact okT' (g _ (List.mem_append.mpr (Or.inr List.mem_cons_self))) c q
        · rw [q]; exact hc
      · exact g x (List.mem_append.mpr (Or.inr (List.mem_cons_of_mem _ z)))
/-- the promise of both: a body, a place, a sign; another body comes, or the same -/
def spSpo : Sp := fun vs H Q _ => ∃ (a : Addr) (b : List Key) (p ch : Nat), vs = [.ref a, .int (p : Int), .str (SX.S [ch])] ∧ H a = some (.tup (b.map kV)) ∧ GB b ∧
  ∀ (a' : Addr) (b' : List Key) (H' : Hp), SpB p ch b b' → Same H H' → H' a' = some (.tup (b'.map kV)) → Q (.ref a') H'
theorem gb_head {b : List Key} (g : GB b) : ∃ k r, b = .inr k :: r ∧ k ∈ words9 := by
  cases g with
  | txt k pre post t h1 h2 h3 h4 h5 => exact ⟨k, _, rfl, h1⟩
  | pl k r h1 h2 h3 => exact ⟨k, _, rfl, h1⟩
theorem at_mid {α : Type} (a : α) (pre : List α) (x : α) (post : List α) : (a :: pre ++ x :: post)[pre.length + 1]? = some x := by
  rw [List.getElem?_append_right (by simp)]
  simp
theorem mid_all (a x y : Key) (pre post : List Key) : ((a :: pre ++ x :: post).map kV).take (pre.length + 1) ++ [kV y] ++ ((a :: pre ++ x :: post).map kV).drop (pre.length + 2) = (a :: pre ++ y :: post).map kV := by
  have e1 : ((a :: pre ++ x :: post).map kV).take (pre.length + 1) = (a :: pre).map kV := by
    rw [List.map_append]
    exact List.take_left' (by simp)
  have e2 : ((a :: pre ++ x :: post).map kV).drop (pre.length + 2) = post.map kV := by
    have e : (a :: pre ++ x :: post).map kV = ((a :: pre).map kV ++ [kV x]) ++ post.map kV := by simp
    rw [e]
    exact List.drop_left' (by simp)
  rw [e1, e2]
  simp
theorem cut_lo (xs : List V) (n : Nat) (h : n ≤ xs.length) : cutV xs none (some (n : Int)) = xs.take n := by
  unfold cutV
  rw [HT.sIx_nat]
  show (xs.drop 0).take (min n xs.length - 0) = _
  rw [List.drop_zero, Nat.min_eq_left h, Nat.sub_zero]
theorem cut_hi (xs : List V) (n : Nat) (h : n ≤ xs.length) : cutV xs (some (n : Int)) none = xs.drop n := by
  unfold cutV
  rw [HT.sIx_nat, Nat.min_eq_left h]
  show (xs.drop n).take (xs.length - n) = _
  exact List.take_of_length_le (by rw [List.length_drop]; exact Nat.le_refl _)
theorem six_lo {n k : Nat} (h : k < n) : ¬ (HT.sIx n 0 none = 0 ∧ HT.sIx n n (some (k : Int)) = n) := by
  rintro ⟨_, h2⟩
  rw [HT.sIx_nat] at h2
  omega
theorem six_hi {n k : Nat} (h : 0 < k) (hk : 0 < n) : ¬ (HT.sIx n 0 (some (k : Int)) = 0 ∧ HT.sIx n n none = n) := by
  rintro ⟨h2, _⟩
  rw [HT.sIx_nat] at h2
  omega
def tbl : List (Key × V) := [(.inr "part", .int 3), (.inr "put", .int 3), (.inr "piece", .int 4)]
theorem tbl_at : ∀ k ∈ words9, (valV (mergeK [] tbl) (Sum.inr k : Key)).getD (.int 0) = .int (match PL k with | some n => (n : Int) | none => 0) := by decide +kernel
theorem sgs_set (l : List Nat) (j ch : Nat) : (sgs l).set j (.str (SX.S [ch])) = sgs (l.set j ch) := by
  unfold sgs
  rw [List.map_set]
theorem sgs_str (l : List Nat) : sgs l = (l.map fun c => SX.S [c]).map V.str := by
  unfold sgs
  rw [List.map_map]
  rfl
end Lw

namespace Lw
open PySem L2
open PyProof.Rows (envOfC)
def top (i : Nat) : Stmt := PySem.Challenge.pw_layerwharf_k20_wire.main.body.getD i (.Pass ⟨0, 0, 0, 0⟩)
abbrev s_spoilt_body : Stmt := top 3
abbrev n_spoilt_body : List Str := ["body", "place", "character", "spot", "text", "at"]
theorem sc_spoilt_body : FnScope n_spoilt_body ["body", "place", "character"] (defScope s_spoilt_body) := ⟨rfl, rfl, rfl, by decide +kernel, rfl, by decide +kernel, by decide +kernel⟩
abbrev s_Wire___init__ : Stmt := inClass (top 4) 0
abbrev n_Wire___init__ : List Str := ["self"]
theorem sc_Wire___init__ : FnScope n_Wire___init__ ["self"] (defScope s_Wire___init__) := ⟨rfl, rfl, rfl, by decide +kernel, rfl, by decide +kernel, by decide +kernel⟩
abbrev s_Wire_send : Stmt := inClass (top 4) 1
abbrev n_Wire_send : List Str := ["self", "letter"]
theorem sc_Wire_send : FnScope n_Wire_send ["self", "letter"] (defScope s_Wire_send) := ⟨rfl, rfl, rfl, by decide +kernel, rfl, by decide +kernel, by decide +kernel⟩
abbrev s_Wire_deliver : Stmt := inClass (top 4) 2
abbrev n_Wire_deliver : List Str := ["self", "index"]
theorem sc_Wire_deliver : FnScope n_Wire_deliver ["self", "index"] (defScope s_Wire_deliver) := ⟨rfl, rfl, rfl, by decide +kernel, rfl, by decide +kernel, by decide +kernel⟩
abbrev s_Wire_lose : Stmt := inClass (top 4) 3
abbrev n_Wire_lose : List Str := ["self", "index"]
theorem sc_Wire_lose : FnScope n_Wire_lose ["self", "index"] (defScope s_Wire_lose) := ⟨rfl, rfl, rfl, by decide +kernel, rfl, by decide +kernel, by decide +kernel⟩
abbrev s_Wire_double : Stmt := inClass (top 4) 4
abbrev n_Wire_double : List Str := ["self", "index"]
theorem sc_Wire_double : FnScope n_Wire_double ["self", "index"] (defScope s_Wire_double) := ⟨rfl, rfl, rfl, by decide +kernel, rfl, by decide +kernel, by decide +kernel⟩
abbrev s_Wire_spoil : Stmt := inClass (top 4) 5
abbrev n_Wire_spoil : List Str := ["self", "index", "place", "character", "client", "number", "body", "changed"]
theorem sc_Wire_spoil : FnScope n_Wire_spoil ["self", "index", "place", "character"] (defScope s_Wire_spoil) := ⟨rfl, rfl, rfl, by decide +kernel, rfl, by decide +kernel, by decide +kernel⟩
abbrev s__law_state : Stmt := top 6
abbrev n__law_state : List Str := ["_law_script", "_law_cells", "_law_cell"]
theorem sc__law_state : FnScope n__law_state ["_law_script"] (defScope s__law_state) := ⟨rfl, rfl, rfl, by decide +kernel, rfl, by decide +kernel, by decide +kernel⟩
abbrev s__law_take : Stmt := top 7
abbrev n__law_take : List Str := ["_law_state_here", "_law_most", "_law_cells", "_law_at", "_law_cell", "_law_mixed"]
theorem sc__law_take : FnScope n__law_take ["_law_state_here", "_law_most"] (defScope s__law_take) := ⟨rfl, rfl, rfl, by decide +kernel, rfl, by decide +kernel, by decide +kernel⟩
abbrev s__law_bits : Stmt := top 8
abbrev n__law_bits : List Str := ["_law_state_here", "_law_count", "_law_k"]
theorem sc__law_bits : FnScope n__law_bits ["_law_state_here", "_law_count"] (defScope s__law_bits) := ⟨rfl, rfl, rfl, by decide +kernel, rfl, by decide +kernel, by decide +kernel⟩
abbrev s__law_text : Stmt := top 9
abbrev n__law_text : List Str := ["_law_state_here", "_law_most", "_law_k"]
theorem sc__law_text : FnScope n__law_text ["_law_state_here", "_law_most"] (defScope s__law_text) := ⟨rfl, rfl, rfl, by decide +kernel, rfl, by decide +kernel, by decide +kernel⟩
abbrev s__law_body : Stmt := top 10
abbrev n__law_body : List Str := ["_law_state_here", "_law_text_here", "_law_bodies"]
theorem sc__law_body : FnScope n__law_body ["_law_state_here"] (defScope s__law_body) := ⟨rfl, rfl, rfl, by decide +kernel, rfl, by decide +kernel, by decide +kernel⟩
abbrev s__law_spoilt : Stmt := top 11
abbrev n__law_spoilt : List Str := ["_law_body_here", "_law_place", "_law_character", "_law_spot", "_law_signs"]
theorem sc__law_spoilt : FnScope n__law_spoilt ["_law_body_here", "_law_place", "_law_character"] (defScope s__law_spoilt) := ⟨rfl, rfl, rfl, by decide +kernel, rfl, by decide +kernel, by decide +kernel⟩
abbrev s_law : Stmt := top 12
abbrev n_law : List Str := ["_law_script", "_law_state_here", "_law_wire", "_law_due", "_law_busy", "_law_turn", "_law_kind", "_law_letter", "_law_index", "_law_place", "_law_character", "_law_client", "_law_number", "_law_body_here", "_law_changed"]
theorem sc_law : FnScope n_law ["_law_script"] (defScope s_law) := ⟨rfl, rfl, rfl, by decide +kernel, rfl, by decide +kernel, by decide +kernel⟩
/-- the fields of Wire -/
def f_Wire (x_letters : V) : List (Str × V) := [("letters", x_letters)]
theorem f_Wire_letters {x_letters : V} : (f_Wire x_letters).lookup ("letters" : Str) = some x_letters := lk_eq
theorem f_Wire_put_letters {x_letters y : V} : putF "letters" y (f_Wire x_letters) = f_Wire y := pf_eq
theorem f_Wire_no {x_letters : V} {m : Str} (h : (["letters"] : List Str).all (fun f => !(m == f)) = true) : (f_Wire x_letters).lookup m = none := lk_no h
theorem f_Wire_len {x_letters : V} : (f_Wire x_letters).length < 1000 := (by decide : 1 < 1000)
theorem f_Wire_mk {x_letters : V} : putF "letters" x_letters ([]) = f_Wire x_letters := by
  unfold f_Wire; simp only [putF]; first | rfl | (repeat' (first | rfl | rw [if_neg (by decide +kernel)]))
structure Txt (w : World) (K : PySem.W.Frag) (mg : Str → Option Value) (C_Wire : Addr) (a_PLACES : Addr) : Prop where
  cl_Wire : Cls K C_Wire
  na_Wire_letters : NoAttr K C_Wire "letters"
  i_Wire : IniAt K mg "Wire" C_Wire "Wire.__init__" s_Wire___init__ ["self"]
  m_Wire_send : MetAt K C_Wire "send" "Wire.send" s_Wire_send ["self", "letter"]
  m_Wire_deliver : MetAt K C_Wire "deliver" "Wire.deliver" s_Wire_deliver ["self", "index"]
  m_Wire_lose : MetAt K C_Wire "lose" "Wire.lose" s_Wire_lose ["self", "index"]
  m_Wire_double : MetAt K C_Wire "double" "Wire.double" s_Wire_double ["self", "index"]
  m_Wire_spoil : MetAt K C_Wire "spoil" "Wire.spoil" s_Wire_spoil ["self", "index", "place", "character"]
  d_spoilt_body : DefAt K mg "spoilt_body" s_spoilt_body ["body", "place", "character"]
  d__law_state : DefAt K mg "_law_state" s__law_state ["_law_script"]
  d__law_take : DefAt K mg "_law_take" s__law_take ["_law_state_here", "_law_most"]
  d__law_bits : DefAt K mg "_law_bits" s__law_bits ["_law_state_here", "_law_count"]
  d__law_text : DefAt K mg "_law_text" s__law_text ["_law_state_here", "_law_most"]
  d__law_body : DefAt K mg "_law_body" s__law_body ["_law_state_here"]
  d__law_spoilt : DefAt K mg "_law_spoilt" s__law_spoilt ["_law_body_here", "_law_place", "_law_character"]
  n_abs : mg "abs" = none
  n_int : mg "int" = none
  n_len : mg "len" = none
  n_list : mg "list" = none
  n_range : mg "range" = none
  n_repr : mg "repr" = none
  g_MOST_LETTERS : ∃ u, mg "MOST_LETTERS" = some u ∧ RelV (.int 60) u
  D_PLACES : ∃ es n, KDict K w a_PLACES es n
  K_PLACES : ∀ k ∈ words9, ∃ rv v, PySem.W.nsIn K a_PLACES k = some rv ∧ RelV v (rv.getD .none) ∧ v = (match PL k with | some n => V.int (n : Int) | none => V.non)
  g_PLACES : ∃ u, mg "PLACES" = some u ∧ RelV (.ref a_PLACES) u
end Lw
/-! ## the law's draws: any number below the bound may come -/
namespace Lw
open PySem L2
open PyProof.Rows (envOfC)
theorem at_in {α : Type} {xs : List α} {i : Int} (h0 : 0 ≤ i) (h1 : i < xs.length) : ∃ v, xs[i.toNat]? = some v ∧ atI xs i = some v := by
  have hl : i.toNat < xs.length := by omega
  refine ⟨xs[i.toNat], List.getElem?_eq_getElem hl, ?_⟩
  have := atI_nat (xs := xs) (j := i.toNat) (v := xs[i.toNat]) (List.getElem?_eq_getElem hl)
  rw [show ((i.toNat : Nat) : Int) = i by omega] at this
  exact this
theorem ix_in {n : Nat} {i : Int} (h0 : 0 ≤ i) (h1 : i < n) : ixN n i = some i.toNat := by
  unfold ixN
  rw [if_pos h0, if_pos h1]
theorem map_int_set (l : List Int) (j : Nat) (z : Int) : (l.map V.int).set j (.int z) = (l.set j z).map V.int := by rw [List.map_set]
/-- the state of the draws at S: its place, its cells at C -/
structure StateAt (c : Addr → Nat) (H : Hp) (S : Addr) : Prop where
  ex : ∃ (C : Addr) (pos : Int) (cells : List Int), c S = 0 ∧ c C = 0 ∧ S ≠ C ∧ H S = some (.lst [.int pos, .ref C]) ∧ H C = some (.lst (cells.map V.int)) ∧ cells ≠ [] ∧ (∀ x ∈ cells, 0 ≤ x) ∧ 0 ≤ pos
theorem StateAt.frame {I : Nat → Prop} {c c' : Addr → Nat} {H H' : Hp} {S : Addr} (h : StateAt c H S) (s : Stp I c c' H H') (hi : ¬ I 0 := by decide) : StateAt c' H' S := by
  obtain ⟨C, pos, cells, h1, h2, h3, h4, h5, h6⟩ := h.ex
  exact ⟨C, pos, cells, by rw [s.col _ _ h4, h1], by rw [s.col _ _ h5, h2], h3, s.keep _ _ h4 (by rw [h1]; exact hi), s.keep _ _ h5 (by rw [h2]; exact hi), h6⟩
def spState (K : PySem.W.Frag) : Sp := fun vs H Q _ => ∃ (a : Addr) (ns : List Int) (c : Addr → Nat), vs = [.ref a] ∧ SqL K H a (ns.map V.int) ∧ ns.length ≤ 63 ∧
  ∀ S c' H', StateAt c' H' S → Stp (fun _ => False) c c' H H' → Q (.ref S) H'
def spTake : Sp := fun vs H Q _ => ∃ (c : Addr → Nat) (S : Addr) (m : Int), vs = [.ref S, .int m] ∧ StateAt c H S ∧ 0 < m ∧ m < 1073741824 ∧
  ∀ (r : Int) c' H', 0 ≤ r → r < m → StateAt c' H' S → Stp (fun i => i = 0) c c' H H' → Q (.int r) H'
section
variable {P : Program} {w : World} {K : PySem.W.Frag} {mg : Str → Option Value} {base : Heap} {C_Wire a_PLACES : Addr}
theorem ok__law_state (T : Txt w K mg C_Wire a_PLACES) : Cal P w K mg base 1 "_law_state" (spState K) := by
  refine cal_mk T.d__law_state sc__law_state (fun vs H Q E h => ?_) (fun f cdv A outer s H vs Q E hr h => ?_)
  · obtain ⟨a, ns, c, rfl, _⟩ := h
    rfl
  · obtain ⟨a, ns, c, rfl, hS, hlen, k⟩ := h
    refine ⟨_, (pss_cons (ps_setLc (i := 1) (own := [("_law_cell", 2)]) (g := (gName 2)) (by rfl) sc__law_state.nd rfl rfl (sw_true rfl rfl rfl (by decide +kernel)) (pi_list (pe_slice sl_list (pv 0) po_none (po_some (pe_int)))) (blkOk_by (own := [("_law_cell", 2)]) (N := n__law_state) (sc := defScope s__law_state) (by decide +kernel)) (fun _ _ _ _ _ => (pg_name (i := 2) sc__law_state.nd rfl (by first | exact Or.inl rfl | exact Or.inr rfl))) (fun _ _ _ _ _ => pts_nil) (fun _ _ _ _ _ => (pe_callB call_abs (by rfl) T.n_abs (by decide +kernel) (pa_cons (pv 2) pa_nil))))
      (pss_cons (ps_if (pt_cmpR op_eq (pe_callB call_len_seq' (by rfl) T.n_len (by decide +kernel) (pa_cons (pv 1) pa_nil)) (pe_int) (nomark _)) (pss_one (ps_set (i := 1) sc__law_state.nd rfl (by first | exact Or.inl rfl | exact Or.inr rfl) (pe_lst (pa_cons (pe_int) pa_nil)))) pss_nil)
      (pss_one (ps_ret (pe_lst (pa_cons (pe_int) (pa_cons (pv 1) pa_nil))))))), ?_⟩
    refine ⟨_, rfl, 63, rfl, a, _, rfl, hS, fun p np => ?_⟩
    have e63 : (cutV (ns.map V.int) none (some 63)) = ns.map V.int := by
      unfold cutV
      rw [HT.sIx_none, show ((63 : Int)) = ((63 : Nat) : Int) from rfl, HT.sIx_nat, List.drop_zero, List.take_of_length_le (by rw [List.length_map]; omega)]
    rw [e63]
    refine ⟨p, rfl, ⟨_, SqL.of upd_same⟩, fun D hD => ?_⟩
    have hDp : D ≠ p := fun z => by subst z; rw [upd_same] at hD; cases hD
    have hD0 : H D = none := by rw [upd_ne hDp] at hD; exact hD
    refine lc_list (K := K) (a := p) (xs := ns.map V.int) (fun i H2 => ∃ l : List Int, l.length = i ∧ (∀ x ∈ l, 0 ≤ x) ∧ Same H H2 ∧ H2 p = some (.lst (ns.map V.int)) ∧ H2 D = some (.lst (l.map V.int)))
      ⟨[], rfl, by simp, (Same.new np).thenNew hD, by rw [upd_ne (Ne.symm hDp)]; exact upd_same, upd_same⟩
      (fun i H2 hi h => by obtain ⟨l, _, _, _, h2, _⟩ := h; exact SqL.of h2) (fun i x H2 hx h => ?_) (fun H2 h => ?_)
    · obtain ⟨l, h1, h2, h3, h4, h5⟩ := h
      obtain ⟨z, hz, rfl⟩ : ∃ z, ns[i]? = some z ∧ V.int z = x := by
        rw [List.getElem?_map] at hx
        cases e : ns[i]? with
        | none => rw [e] at hx; cases hx
        | some z => rw [e] at hx; exact ⟨z, rfl, Option.some.inj hx⟩
      refine ⟨rfl, ?_⟩
      refine ⟨_, rfl, z, rfl, l.map V.int, h5, ?_, l ++ [if z < 0 then -z else z], by simp [h1], ?_, h3.grow hD0, by rw [upd_ne (Ne.symm hDp)]; exact h4, by rw [upd_same]; simp⟩
      · have hi := (List.getElem?_eq_some_iff.mp hz).1
        rw [List.length_map, h1]
        exact small1000 (by omega)
      · intro x hx
        rcases List.mem_append.mp hx with q | q
        · exact h2 x q
        · rw [List.mem_singleton.mp q]
          split <;> omega
    · obtain ⟨l, h1, h2, h3, h4, h5⟩ := h
      rw [List.length_map] at h1
      refine ⟨_, rfl, D, l.map V.int, rfl, Or.inl (SqL.of h5), ?_⟩
      refine ⟨rfl, _, rfl, ?_⟩
      refine if2 (fun hz => ?_) (fun hz => ?_)
      · refine ⟨(by show 1 ≤ sizeLine; decide), fun q nq => ?_⟩
        refine ⟨_, rfl, (by show 2 ≤ sizeLine; decide), fun S nS => ?_⟩
        have hqS : q ≠ S := fun z => by subst z; rw [upd_same] at nS; cases nS
        refine k S (Stp.paint (Stp.paint c q 0) S 0) _ ⟨q, 0, [0], Stp.paint_same, by rw [Stp.paint_ne hqS]; exact Stp.paint_same, Ne.symm hqS, upd_same, by rw [upd_ne hqS]; exact upd_same, by simp, by simp, by decide⟩ ?_
        exact ((Stp.same h3).trans (Stp.newc nq)).trans (Stp.newc nS)
      · refine ⟨_, rfl, (by show 2 ≤ sizeLine; decide), fun S nS => ?_⟩
        have hDS : D ≠ S := ne_of_none h5 nS
        refine k S (Stp.paint (Stp.paint c D 0) S 0) _ ⟨D, 0, l, Stp.paint_same, by rw [Stp.paint_ne hDS]; exact Stp.paint_same, Ne.symm hDS, upd_same, by rw [upd_ne hDS]; exact h5, fun e => hz (by rw [int_eq, e]; rfl), h2, by decide⟩ ?_
        have s1 : Stp (fun _ => False) c (Stp.paint c D 0) H H2 := ⟨fun b o e _ => h3 b o e, fun b o e => Stp.paint_ne (ne_of_none e hD0), fun b xs e => h3 b _ e, fun b e => h3.free e⟩
        exact s1.trans (Stp.newc nS)
theorem ok__law_take (T : Txt w K mg C_Wire a_PLACES) : Cal P w K mg base 1 "_law_take" spTake := by
  refine cal_mk T.d__law_take sc__law_take (fun vs H Q E h => ?_) (fun f cdv A outer s H vs Q E hr h => ?_)
  · obtain ⟨c, S, m, rfl, _⟩ := h
    rfl
  · obtain ⟨c, S, m, rfl, hS, hm0, hm1, k⟩ := h
    obtain ⟨C, pos, cells, c1, c2, ne, h1, h2, h3, h4, h5⟩ := hS.ex
    have hcl : 0 < cells.length := List.length_pos_iff.mpr h3
    refine ⟨_, (pss_cons (ps_set (i := 2) sc__law_take.nd rfl (by first | exact Or.inl rfl | exact Or.inr rfl) (pe_ix ix_list (pv 0) (pe_int) (fun _ _ => rfl)))
      (pss_cons (ps_set (i := 3) sc__law_take.nd rfl (by first | exact Or.inl rfl | exact Or.inr rfl) (pe_op op_mod (pe_ix ix_list (pv 0) (pe_int) (fun _ _ => rfl)) (pe_callB call_len_seq' (by rfl) T.n_len (by decide +kernel) (pa_cons (pv 2) pa_nil))))
      (pss_cons (ps_set (i := 4) sc__law_take.nd rfl (by first | exact Or.inl rfl | exact Or.inr rfl) (pe_ix ix_list (pv 2) (pv 3) (fun _ _ => rfl)))
      (pss_cons (ps_if (pt_cmpR op_ge (pv 4) (pe_int) (nomark _)) (pss_cons (ps_asg (pe_op op_fdiv (pv 4) (pv 1)) (pg_sub (pv 2) (pv 3) set_list))
      (pss_one (ps_ret (pe_op op_mod (pv 4) (pv 1))))) pss_nil)
      (pss_cons (ps_asg (pe_op op_add (pe_ix ix_list (pv 0) (pe_int) (fun _ _ => rfl)) (pe_int)) (pg_sub (pv 0) (pe_int) set_list))
      (pss_cons (ps_set (i := 5) sc__law_take.nd rfl (by first | exact Or.inl rfl | exact Or.inr rfl) (pe_op op_mod (pe_callTy call_int1' (by rfl) T.n_int (by decide +kernel) (pa_cons (pe_op op_add (pe_op op_mul (pv 4) (pe_int)) (pe_op op_mul (pe_ix ix_list (pv 0) (pe_int) (fun _ _ => rfl)) (pe_int))) pa_nil)) (pe_int)))
      (pss_cons (ps_set (i := 5) sc__law_take.nd rfl (by first | exact Or.inl rfl | exact Or.inr rfl) (pe_op op_mod (pe_callTy call_int1' (by rfl) T.n_int (by decide +kernel) (pa_cons (pe_op op_add (pe_op op_mul (pv 5) (pe_int)) (pe_op op_mul (pe_ix ix_list (pv 0) (pe_int) (fun _ _ => rfl)) (pe_int))) pa_nil)) (pe_int)))
      (pss_one (ps_ret (pe_op op_mod (pe_op op_fdiv (pv 5) (pe_int)) (pv 1))))))))))), ?_⟩
    refine ⟨_, rfl, S, _, 1, .ref C, rfl, rfl, SqL.of h1, atI_nat (j := 1) rfl, ?_⟩
    refine ⟨_, rfl, S, _, 0, .int pos, rfl, rfl, SqL.of h1, atI_nat (j := 0) rfl, ?_⟩
    have hpl : 0 ≤ pos % (cells.length : Int) ∧ pos % (cells.length : Int) < (cells.length : Int) := ⟨Int.emod_nonneg _ (by omega), Int.emod_lt_of_pos _ (by omega)⟩
    refine ⟨_, rfl, C, _, rfl, Or.inl (SqL.of h2), _, _, rfl, rfl, by show (0 : Int) < ((cells.map V.int).length : Int); rw [List.length_map]; omega, ?_⟩
    rw [List.length_map]
    obtain ⟨v, hv, hat⟩ := at_in (xs := cells.map V.int) (i := pos % (cells.length : Int)) hpl.1 (by rw [List.length_map]; exact hpl.2)
    obtain ⟨x, hx, rfl⟩ : ∃ x, x ∈ cells ∧ V.int x = v := by
      rw [List.getElem?_map] at hv
      cases e : cells[(pos % (cells.length : Int)).toNat]? with
      | none => rw [e] at hv; cases hv
      | some x => rw [e] at hv; exact ⟨x, List.mem_of_getElem? e, Option.some.inj hv⟩
    have hx0 := h4 x hx
    refine ⟨_, rfl, _, rfl, C, _, _, _, rfl, rfl, SqL.of h2, hat, ?_⟩
    refine ⟨_, rfl, _, _, rfl, rfl, _, rfl, ?_⟩
    refine if2 (fun hz => ?_) (fun hz => ?_)
    · refine ⟨_, rfl, _, rfl, _, _, rfl, rfl, ⟨hm0, hm1⟩, ?_⟩
      refine ⟨_, rfl, _, rfl, C, _, _, _, rfl, rfl, h2, by rw [List.length_map]; exact ix_in hpl.1 hpl.2, ?_⟩
      refine ⟨_, rfl, _, rfl, _, _, rfl, rfl, hm0, ?_⟩
      refine k _ c _ (Int.emod_nonneg _ (by omega)) (Int.emod_lt_of_pos _ hm0) ⟨C, pos, cells.set (pos % (cells.length : Int)).toNat (x / m), c1, c2, ne, by rw [upd_ne ne]; exact h1, by rw [upd_same, map_int_set], ?_, ?_, h5⟩ ?_
      · intro e
        have := congrArg List.length e
        rw [List.length_set, List.length_nil] at this
        omega
      · intro y hy
        rcases List.mem_or_eq_of_mem_set hy with q | q
        · exact h4 y q
        · rw [q]; exact Int.ediv_nonneg hx0 (by omega)
      · exact Stp.own h2 c2 (fun xs z => by cases z)
    · refine ⟨_, rfl, S, _, 0, .int pos, rfl, rfl, SqL.of h1, atI_nat (j := 0) rfl, _, _, rfl, rfl, ?_⟩
      refine ⟨_, rfl, S, _, _, 0, rfl, rfl, h1, rfl, ?_⟩
      have h1' : (upd H S (.lst [.int (pos + 1), .ref C])) S = some (.lst [.int (pos + 1), .ref C]) := upd_same
      refine ⟨_, rfl, _, _, rfl, rfl, .inr ⟨by decide, by decide⟩, ?_⟩
      refine ⟨_, rfl, S, _, 0, .int (pos + 1), rfl, rfl, SqL.of h1', atI_nat (j := 0) rfl, _, _, rfl, rfl, .inr ⟨by decide, by decide⟩, _, _, rfl, rfl, ?_⟩
      refine Or.inl ⟨_, rfl, _, _, rfl, rfl, (by show (0 : Int) < 2147483647; decide), ?_⟩
      refine ⟨_, rfl, _, _, rfl, rfl, .inr ⟨by decide, by decide⟩, ?_⟩
      refine ⟨_, rfl, S, _, 0, .int (pos + 1), rfl, rfl, SqL.of h1', atI_nat (j := 0) rfl, _, _, rfl, rfl, .inr ⟨by decide, by decide⟩, _, _, rfl, rfl, ?_⟩
      refine Or.inl ⟨_, rfl, _, _, rfl, rfl, (by show (0 : Int) < 1000000007; decide), ?_⟩
      refine ⟨_, rfl, _, _, rfl, rfl, ⟨by decide, by decide⟩, ?_⟩
      refine ⟨_, rfl, _, _, rfl, rfl, hm0, ?_⟩
      refine k _ c _ (Int.emod_nonneg _ (by omega)) (Int.emod_lt_of_pos _ hm0) ⟨C, pos + 1, cells, c1, c2, ne, h1', by rw [upd_ne ne.symm]; exact h2, h3, h4, by omega⟩ ?_
      exact Stp.own h1 c1 (fun xs z => by cases z)
end
end Lw

/-! ## a drawn text -/
namespace Lw
open PySem L2
open PyProof.Rows (envOfC)
def signs8 : List Nat := [97, 98, 99, 88, 89, 32, 48, 49]
theorem signs8_eq : ("abcXY 01" : Str) = SX.S signs8 := by decide +kernel
theorem empty_S : ("" : Str) = SX.S [] := by decide +kernel
theorem join_empty (l : List Nat) : Txt.join ("" : Str) (l.map fun c => SX.S [c]) = SX.S l := by
  have e : (l.map fun c => SX.S [c]) = (l.map fun c => [c]).map SX.S := by rw [List.map_map]; rfl
  rw [empty_S, e, SX.join_S]
  have h : ∀ l : List Nat, TL.joinL [] (l.map fun c => [c]) = l := by
    intro l
    induction l with
    | nil => rfl
    | cons a r ih =>
      cases r with
      | nil => rfl
      | cons b r => 
        show [a] ++ ([] ++ TL.joinL [] ((b :: r).map fun c => [c])) = a :: b :: r
        rw [ih]
        rfl
  rw [h]
theorem sum_ones (l : List Nat) : ((l.map fun c => SX.S [c]).map (·.length)).sum = l.length := by
  induction l with
  | nil => rfl
  | cons a r ih =>
    rw [List.map_cons, List.map_cons, List.sum_cons, ih, SX.S_len, List.length_cons]
    simp only [List.length_cons, List.length_nil]
    omega
def spText : Sp := fun vs H Q _ => ∃ (c : Addr → Nat) (S : Addr) (m : Int), vs = [.ref S, .int m] ∧ StateAt c H S ∧ 0 ≤ m ∧ m ≤ 1000 ∧
  ∀ (l : List Nat) c' H', (l.length : Int) ≤ m → (∀ x ∈ l, x ∈ signs8) → StateAt c' H' S → Stp (fun i => i = 0) c c' H H' → Q (.str (SX.S l)) H'
section
variable {P : Program} {w : World} {K : PySem.W.Frag} {mg : Str → Option Value} {base : Heap} {C_Wire a_PLACES : Addr}
theorem ok__law_text (T : Txt w K mg C_Wire a_PLACES) : Cal P w K mg base 2 "_law_text" spText := by
  have c__law_take : Cal P w K mg base 1 "_law_take" spTake := ok__law_take T
  refine cal_mk T.d__law_text sc__law_text (fun vs H Q E h => ?_) (fun f cdv A outer s H vs Q E hr h => ?_)
  · obtain ⟨c, S, m, rfl, _⟩ := h
    rfl
  · obtain ⟨c, S, m, rfl, hS, hm0, hm1, k⟩ := h
    refine ⟨_, (pss_one (ps_ret (pe_join (pe_str) (pe_lc (own := [("_law_k", 2)]) (g := (gName 2)) (by rfl) sc__law_text.nd (pi_range1 (by rfl) T.n_range (pa_cons (pe_c c__law_take hr (by decide) rfl (pa_cons (pv 0) (pa_cons (pe_op op_add (pv 1) (pe_int)) pa_nil))) pa_nil)) (blkOk_by (own := [("_law_k", 2)]) (N := n__law_text) (sc := defScope s__law_text) (by decide +kernel)) (fun _ _ _ _ _ => (pg_name (i := 2) sc__law_text.nd rfl (by first | exact Or.inl rfl | exact Or.inr rfl))) (fun _ _ _ _ _ => pts_nil) (fun _ _ _ _ _ => (pe_ix ix_str (pe_str) (pe_c c__law_take hr (by decide) rfl (pa_cons (pv 0) (pa_cons (pe_int) pa_nil))) (fun _ _ => rfl))))))), ?_⟩
    refine ⟨⟨_, rfl⟩, ?_⟩
    refine ⟨_, rfl, _, rfl, _, _, rfl, rfl, ?_⟩
    refine ⟨c, S, m + 1, rfl, hS, by omega, by omega, fun r c1 H1 r0 r1 S1 st1 => ?_⟩
    refine ⟨r, rfl, by omega, by omega, fun D hD => ?_⟩
    refine lc_range (lo := 0) (n := r.toNat) (fun i H2 => ∃ (l : List Nat) (c2 : Addr → Nat), l.length = i ∧ (∀ x ∈ l, x ∈ signs8) ∧ StateAt c2 H2 S ∧ Stp (fun i => i = 0) c1 c2 H1 H2 ∧ c2 D = 9 ∧ H2 D = some (.lst ((l.map fun c => SX.S [c]).map V.str)))
      ⟨[], Stp.paint c1 D 9, rfl, by simp, S1.frame (I := fun _ => False) (Stp.newc hD) (by decide), Stp.newc hD, Stp.paint_same, upd_same⟩ (fun i H2 hi h => ?_) (fun H2 h => ?_)
    · obtain ⟨l, c2, h1, h2, S2, st2, cD, hl⟩ := h
      refine ⟨rfl, _, rfl, ?_⟩
      refine ⟨c2, S, 8, rfl, S2, by decide, by decide, fun q c3 H3 q0 q1 S3 st3 => ?_⟩
      have hD3 := st3.keep _ _ hl (by rw [cD]; decide)
      obtain ⟨ch, hch, hat⟩ := at_in (xs := signs8) (i := q) q0 q1
      refine ⟨"abcXY 01", q, ch, rfl, rfl, by decide +kernel, by rw [signs8_eq]; exact hat, ?_⟩
      refine ⟨_, hD3, ?_, l ++ [ch], c3, by rw [List.length_append, h1]; rfl, fun x hx => ?_, S3.frame (I := fun i => i = 9) (Stp.own hD3 (by rw [st3.col _ _ hl, cD]) (fun xs z => by cases z)) (by decide), ?_, by rw [st3.col _ _ hl, cD], ?_⟩
      · rw [List.length_map, List.length_map, h1]
        exact small1000 (by omega)
      · rcases List.mem_append.mp hx with z | z
        · exact h2 x z
        · rw [List.mem_singleton.mp z]
          exact List.mem_of_getElem? hch
      · have st4 : Stp (fun i => i = 0) c1 c3 H1 H3 := st2.trans st3
        have hDn : H1 D = none := hD
        exact ⟨fun b o e n => by rw [upd_ne (ne_of_none e hDn)]; exact st4.keep b o e n, st4.col, fun b xs e => by rw [upd_ne (ne_of_none e hDn)]; exact st4.tup b xs e, fun b e => by
          by_cases z : b = D
          · subst z; rw [upd_same] at e; cases e
          · rw [upd_ne z] at e; exact st4.fre b e⟩
      · rw [upd_same, List.map_append, List.map_append]
        rfl
    · obtain ⟨l, c2, h1, h2, S2, st2, cD, hl⟩ := h
      refine ⟨"", D, _, rfl, rfl, Or.inl (SqL.of hl), ?_, ?_⟩
      · rw [sum_ones, List.length_map, h1]
        show r.toNat + r.toNat * 0 ≤ 16777216
        omega
      · rw [join_empty]
        exact k l c2 H2 (by omega) h2 S2 (st1.trans st2)
end
end Lw

namespace Lw
open PySem L2
open PyProof.Rows (envOfC)
section
variable {P : Program} {w : World} {K : PySem.W.Frag} {mg : Str → Option Value} {base : Heap} {C_Wire a_PLACES : Addr}
theorem ok_spoilt_body (T : Txt w K mg C_Wire a_PLACES) : Cal P w K mg base 1 "spoilt_body" spSpo := by
  refine cal_mk T.d_spoilt_body sc_spoilt_body (fun vs H Q E h => ?_) (fun f cdv A outer s H vs Q E hr h => ?_)
  · obtain ⟨a, b, p, ch, rfl, _⟩ := h
    rfl
  · obtain ⟨a, b, p, ch, rfl, hb, g, k⟩ := h
    obtain ⟨es, n, D_PLACES⟩ := T.D_PLACES
    refine ⟨_, (pss_cons (ps_set (i := 3) sc_spoilt_body.nd rfl (by first | exact Or.inl rfl | exact Or.inr rfl) (pe_kget D_PLACES (pe_gc rfl T.g_PLACES) (pe_ix ix_tup (pv 0) (pe_int) (fun _ _ => rfl)) ⟨rfl, by rfl, rfl, rfl⟩))
      (pss_cons (ps_if (PW.pt (pw_or (pt_cmpR op_isN' (pv 3) (pe_non) (nomark _)) (pw_or1 (pt_cmpR op_eq (pe_ix ix_tup (pv 0) (pv 3) (fun _ _ => rfl)) (pe_str) (nomark _))))) (pss_one (ps_ret (pv 0))) pss_nil)
      (pss_cons (ps_set (i := 4) sc_spoilt_body.nd rfl (by first | exact Or.inl rfl | exact Or.inr rfl) (pe_ix ix_tup (pv 0) (pv 3) (fun _ _ => rfl)))
      (pss_cons (ps_set (i := 5) sc_spoilt_body.nd rfl (by first | exact Or.inl rfl | exact Or.inr rfl) (pe_op op_mod (pv 1) (pe_callB call_len_str' (by rfl) T.n_len (by decide +kernel) (pa_cons (pv 4) pa_nil))))
      (pss_one (ps_ret (pe_op op_catA (pe_op op_catA (pe_slice sl_tupA (pv 0) po_none (po_some (pv 3))) (pe_tup (pa_cons (pe_op op_cat_str (pe_op op_cat_str (pe_slice C8.sl_txt (pv 4) po_none (po_some (pv 5))) (pv 2)) (pe_slice C8.sl_txt (pv 4) (po_some (pe_op op_add (pv 5) (pe_int))) po_none)) pa_nil))) (pe_slice sl_tupA (pv 0) (po_some (pe_op op_add (pv 3) (pe_int))) po_none)))))))), ?_⟩
    walk_at "lw"
    refine g_kget ?_
    walk_at "lw"
    obtain ⟨k0, r0, e0, hk0⟩ := gb_head g
    refine g_rixT (SqT.of hb) (atI_nat (j := 0) (v := .str k0) (by rw [e0]; rfl)) ?_
    obtain ⟨rv, v, h1, h2, h3⟩ := T.K_PLACES k0 hk0
    refine ⟨k0, rv, v, rfl, h1, h2, ?_⟩
    subst h3
    cases g with
    | pl k r q1 q2 q3 =>
      injection e0 with e1 e2
      cases e1
      rw [q2]
      walk_at "lw"
      refine ifp rfl ?_
      walk_at "lw"
      exact k a _ H (SpB.pl _ _ q2) (Same.refl H) hb
    | txt k pre post t q1 q2 q3 q4 q5 =>
      injection e0 with e1 e2
      cases e1
      rw [q2]
      have hat : atI ((Sum.inr k0 :: pre ++ Sum.inr (SX.S t) :: post : List Key).map kV) ((pre.length + 1 : Nat) : Int) = some (.str (SX.S t)) := by
        refine atI_nat ?_
        rw [List.getElem?_map, at_mid]
        rfl
      walk_at "lw"
      refine ifn (by simp) ?_
      walk_at "lw"
      refine g_rixT (SqT.of hb) hat ?_
      walk_at "lw"
      refine if2 (fun z => ?_) (fun z => ?_)
      · have ht : t = [] := SX.S_inj ((str_eq.mp z).trans empty_S)
        subst ht
        walk_at "lw"
        exact k a _ H (SpB.nil _ _ _ q2) (Same.refl H) hb
      · have ht : t ≠ [] := fun e => z (by rw [e, ← empty_S])
        have htl : 0 < t.length := List.length_pos_iff.mpr ht
        have hbl : ((Sum.inr k0 :: pre ++ Sum.inr (SX.S t) :: post : List Key).map kV).length = pre.length + post.length + 2 := by
          rw [List.length_map, List.length_append, List.length_cons, List.length_cons]; omega
        walk_at "lw"
        refine g_rixT (SqT.of hb) hat ?_
        walk_at "lw"
        refine ⟨SX.S t, rfl, by rw [SX.S_len]; exact Nat.le_trans q3 (by decide), ?_⟩
        rw [SX.S_len]
        refine g_I (by omega) ?_
        have hpl : p % t.length < t.length := Nat.mod_lt _ htl
        rw [show (p : Int) % (t.length : Int) = ((p % t.length : Nat) : Int) by omega]
        walk_at "lw"
        refine g_slA hb fun a1 H1 s1 h1 => ?_
        rw [cut_lo _ _ (by rw [hbl]; omega)] at h1
        walk_at "lw"
        refine g_rslS (by rw [SX.S_len]; exact Nat.le_trans q3 (by decide)) ?_
        rw [SX.slice_to (by omega)]
        walk_at "lw"
        refine g_cat_str (by rw [SX.S_len, SX.S_len, List.length_take]; exact Nat.le_trans (by show min _ _ + 1 ≤ 5; omega) (by decide : 5 ≤ sizeLine)) ?_
        walk_at "lw"
        refine g_rslS (by rw [SX.S_len]; exact Nat.le_trans q3 (by decide)) ?_
        rw [SX.slice_from (by omega), SX.S_cat]
        refine g_cat_str (by rw [SX.S_len, SX.S_len, List.length_append, List.length_take, List.length_drop]; exact Nat.le_trans (by show min _ _ + 1 + _ ≤ 9; omega) (by decide : 9 ≤ sizeLine)) ?_
        rw [SX.S_cat]
        walk_at "lw"
        refine g_ktup (by show 1 ≤ 100; decide) fun a2 H2 n2 s2 h2 => ?_
        refine g_catA (s2 _ _ h1) h2 ?_ ?_ fun a3 H3 s3 h3 => ?_
        · intro z
          exact absurd (congrArg List.length z) (by rw [List.length_take, hbl]; show ¬ min _ _ = 0; omega)
        · rw [List.length_take, hbl]
          show min _ _ + 1 ≤ 100
          omega
        walk_at "lw"
        have s13 := (s1.trans s2).trans s3
        refine g_slA (s13 _ _ hb) fun a4 H4 s4 h4 => ?_
        rw [show (((pre.length + 1 : Nat) : Int) + 1) = ((pre.length + 2 : Nat) : Int) by omega, cut_hi _ _ (by rw [hbl]; omega)] at h4
        refine g_catA (s4 _ _ h3) h4 (by simp) ?_ fun a5 H5 s5 h5 => ?_
        · rw [List.length_append, List.length_take, List.length_drop, hbl]
          show min _ _ + 1 + _ ≤ 100
          omega
        walk_at "lw"
        refine k a5 _ H5 (SpB.txt _ _ _ _ q2 ht) ((s13.trans s4).trans s5) ?_
        have el : spoT t p ch = t.take (p % t.length) ++ [ch] ++ t.drop (p % t.length + 1) := by
          unfold spoT
          rw [List.set_eq_take_append_cons_drop, if_pos hpl]
          simp
        have en : (((p % t.length : Nat) : Int)).toNat = p % t.length := Int.toNat_natCast _
        have en1 : (((p % t.length : Nat) : Int) + 1).toNat = p % t.length + 1 := by omega
        rw [h5, el, en, en1]
        exact congrArg (fun z => some (HO.tup z)) (mid_all (.inr k0) (.inr (SX.S t)) (.inr (SX.S (t.take (p % t.length) ++ [ch] ++ t.drop (p % t.length + 1)))) pre post)
theorem ok__law_spoilt (T : Txt w K mg C_Wire a_PLACES) : Cal P w K mg base 1 "_law_spoilt" spSpo := by
  refine cal_mk T.d__law_spoilt sc__law_spoilt (fun vs H Q E h => ?_) (fun f cdv A outer s H vs Q E hr h => ?_)
  · obtain ⟨a, b, p, ch, rfl, _⟩ := h
    rfl
  · obtain ⟨a, b, p, ch, rfl, hb, g, k⟩ := h
    have hu := hu_of hr
    refine ⟨_, (pss_cons (ps_set (i := 3) sc__law_spoilt.nd rfl (by first | exact Or.inl rfl | exact Or.inr rfl) (pe_dget2 hu (pe_disp (pps_cons (pe_str) (pe_int) (pps_cons (pe_str) (pe_int) (pps_cons (pe_str) (pe_int) pps_nil))) (by rfl) (by rfl) (fun z => by cases z) (by decide)) (pe_ix ix_tup (pv 0) (pe_int) (fun _ _ => rfl)) (pe_int) ⟨rfl, by rfl, rfl, rfl⟩))
      (pss_cons (ps_if (PW.pt (pw_or (pt_cmpR op_eq (pv 3) (pe_int) (nomark _)) (pw_or1 (pt_cmpR op_eq (pe_callB call_len_str' (by rfl) T.n_len (by decide +kernel) (pa_cons (pe_ix ix_tup (pv 0) (pv 3) (fun _ _ => rfl)) pa_nil)) (pe_int) (nomark _))))) (pss_one (ps_ret (pv 0))) pss_nil)
      (pss_cons (ps_set (i := 4) sc__law_spoilt.nd rfl (by first | exact Or.inl rfl | exact Or.inr rfl) (pe_callTy (call_listT rfl) (by rfl) T.n_list (by decide +kernel) (pa_cons (pe_ix ix_tup (pv 0) (pv 3) (fun _ _ => rfl)) pa_nil)))
      (pss_cons (ps_asg (pv 2) (pg_sub (pv 4) (pe_op op_mod (pe_callTy call_int1' (by rfl) T.n_int (by decide +kernel) (pa_cons (pv 1) pa_nil)) (pe_callB call_len_seq' (by rfl) T.n_len (by decide +kernel) (pa_cons (pv 4) pa_nil))) set_list))
      (pss_one (ps_ret (pe_op op_catA (pe_op op_catA (pe_slice sl_tupA (pv 0) po_none (po_some (pv 3))) (pe_tup (pa_cons (pe_join (pe_str) (pv 4)) pa_nil))) (pe_slice sl_tupA (pv 0) (po_some (pe_op op_add (pv 3) (pe_int))) po_none)))))))), ?_⟩
    walk_at "lw"
    refine g_dget2 ?_
    intro d nd
    refine ⟨upd_same, tbl, rfl, by decide, ?_⟩
    generalize hG : upd (upd H d (.dK [])) d (.dK (mergeK [] tbl)) = H1
    have hd : H1 d = some (.dK (mergeK [] tbl)) := by rw [← hG]; exact upd_same
    have s1 : Same H H1 := by
      rw [← hG, upd_upd]
      exact Same.new nd
    obtain ⟨k0, r0, e0, hk0⟩ := gb_head g
    refine ⟨d, rfl, .inl ⟨_, .of hd⟩, ?_⟩
    walk_at "lw"
    refine g_rixT (SqT.of (s1 _ _ hb)) (atI_nat (j := 0) (v := .str k0) (by rw [e0]; rfl)) ?_
    walk_at "lw"
    refine ⟨_, DGet.k (k := Sum.inr k0) hd, ?_⟩
    rw [tbl_at k0 hk0]
    cases g with
    | pl k r q1 q2 q3 =>
      injection e0 with e1 e2
      cases e1
      rw [q2]
      walk_at "lw"
      refine ifp rfl ?_
      walk_at "lw"
      exact k a _ H1 (SpB.pl _ _ q2) s1 (s1 _ _ hb)
    | txt k pre post t q1 q2 q3 q4 q5 =>
      injection e0 with e1 e2
      cases e1
      rw [q2]
      have hat : atI ((Sum.inr k0 :: pre ++ Sum.inr (SX.S t) :: post : List Key).map kV) ((pre.length + 1 : Nat) : Int) = some (.str (SX.S t)) := by
        refine atI_nat ?_
        rw [List.getElem?_map, at_mid]
        rfl
      walk_at "lw"
      refine ifn (by intro z; have h := int_eq.mp z; change ((pre.length + 1 : Nat) : Int) = 0 at h; omega) ?_
      walk_at "lw"
      refine g_rixT (SqT.of (s1 _ _ hb)) hat ?_
      walk_at "lw"
      refine g_lenT (by rw [SX.S_len]; exact Nat.le_trans q3 (by decide)) ?_
      rw [SX.S_len]
      walk_at "lw"
      refine if2 (fun z => ?_) (fun z => ?_)
      · have ht : t = [] := List.eq_nil_of_length_eq_zero (by have := int_eq.mp z; omega)
        subst ht
        walk_at "lw"
        exact k a _ H1 (SpB.nil _ _ _ q2) s1 (s1 _ _ hb)
      · have ht : t ≠ [] := fun e => z (by rw [e]; rfl)
        have htl : 0 < t.length := List.length_pos_iff.mpr ht
        have hbl : ((Sum.inr k0 :: pre ++ Sum.inr (SX.S t) :: post : List Key).map kV).length = pre.length + post.length + 2 := by
          rw [List.length_map, List.length_append, List.length_cons, List.length_cons]; omega
        walk_at "lw"
        refine g_rixT (SqT.of (s1 _ _ hb)) hat ?_
        walk_at "lw"
        refine ⟨SX.S t, rfl, by rw [SX.S_len]; exact Nat.le_trans q3 (by decide), fun q nq => ?_⟩
        generalize hG2 : upd H1 q (.lst (sgs t)) = H2
        have hq : H2 q = some (.lst (sgs t)) := by rw [← hG2]; exact upd_same
        have s2 : Same H1 H2 := by rw [← hG2]; exact Same.new nq
        have hsl : (sgs t).length = t.length := by unfold sgs; rw [List.length_map]
        show tSeq _ _ _ _ H2
        walk_at "lw"
        rw [hsl]
        have hpl : p % t.length < t.length := Nat.mod_lt _ htl
        rw [show (p : Int) % (t.length : Int) = ((p % t.length : Nat) : Int) by omega]
        walk_at "lw"
        refine g_setL (n := p % t.length) hq (by rw [hsl]; have := ix_in (n := t.length) (i := ((p % t.length : Nat) : Int)) (by omega) (by omega); rw [this, Int.toNat_natCast]) ?_
        rw [sgs_set]
        generalize hG3 : upd H2 q (.lst (sgs (t.set (p % t.length) ch))) = H3
        have hq3 : H3 q = some (.lst (sgs (spoT t p ch))) := by rw [← hG3]; exact upd_same
        have s3 : Same H H3 := by rw [← hG3]; exact (s1.trans s2).grow (s1.free nq)
        walk_at "lw"
        refine g_slA (s3 _ _ hb) fun a1 H4 s4 h4 => ?_
        rw [cut_lo _ _ (by rw [hbl]; omega)] at h4
        walk_at "lw"
        have hstl : (spoT t p ch).length = t.length := by unfold spoT; rw [List.length_set]
        refine ⟨"", q, (spoT t p ch).map fun c => SX.S [c], rfl, rfl, Or.inl (SqL.of (by rw [← sgs_str]; exact s4 _ _ hq3)), ?_, ?_⟩
        · rw [sum_ones, List.length_map, hstl]
          show t.length + t.length * 0 ≤ 16777216
          omega
        rw [join_empty]
        walk_at "lw"
        refine g_ktup (by show 1 ≤ 100; decide) fun a2 H5 n5 s5 h5 => ?_
        refine g_catA (s5 _ _ h4) h5 ?_ ?_ fun a3 H6 s6 h6 => ?_
        · intro z
          exact absurd (congrArg List.length z) (by rw [List.length_take, hbl]; show ¬ min _ _ = 0; omega)
        · rw [List.length_take, hbl]
          show min _ _ + 1 ≤ 100
          omega
        walk_at "lw"
        have s16 := ((s3.trans s4).trans s5).trans s6
        refine g_slA (s16 _ _ hb) fun a4 H7 s7 h7 => ?_
        rw [show (((pre.length + 1 : Nat) : Int) + 1) = ((pre.length + 2 : Nat) : Int) by omega, cut_hi _ _ (by rw [hbl]; omega)] at h7
        refine g_catA (s7 _ _ h6) h7 (by simp) ?_ fun a5 H8 s8 h8 => ?_
        · rw [List.length_append, List.length_take, List.length_drop, hbl]
          show min _ _ + 1 + _ ≤ 100
          omega
        walk_at "lw"
        refine k a5 _ H8 (SpB.txt _ _ _ _ q2 ht) ((s16.trans s7).trans s8) ?_
        rw [h8]
        exact congrArg (fun z => some (HO.tup z)) (mid_all (.inr k0) (.inr (SX.S t)) (.inr (SX.S (spoT t p ch))) pre post)
end
end Lw

/-! ## the wire's methods -/
namespace Lw
open PySem L2
open PyProof.Rows (envOfC)
structure WireAt (C : Addr) (c : Addr → Nat) (H : Hp) (p l : Addr) (xs : List V) : Prop where
  cp : c p = 1
  cl : c l = 1
  ob : ∃ dx, H p = some (.ins C dx (f_Wire (.ref l)))
  ls : H l = some (.lst xs)
theorem WireAt.frame {C : Addr} {I : Nat → Prop} {c c' : Addr → Nat} {H H' : Hp} {p l : Addr} {xs : List V} (h : WireAt C c H p l xs) (s : Stp I c c' H H') (hi : ¬ I 1) : WireAt C c' H' p l xs := by
  obtain ⟨h1, h2, ⟨dx, h3⟩, h4⟩ := h
  exact ⟨by rw [s.col _ _ h3, h1], by rw [s.col _ _ h4, h2], ⟨dx, s.keep _ _ h3 (by rw [h1]; exact hi)⟩, s.keep _ _ h4 (by rw [h2]; exact hi)⟩
theorem WireAt.set {C : Addr} {c : Addr → Nat} {H H' : Hp} {p l : Addr} {xs ys : List V} (h : WireAt C c H p l xs) (h1 : H' l = some (.lst ys)) (h2 : ∀ b, b ≠ l → H' b = H b) : WireAt C c H' p l ys ∧ Stp (fun i => i = 1) c c H H' := by
  obtain ⟨k1, k2, ⟨dx, k3⟩, k4⟩ := h
  have ne : p ≠ l := ne_of k3 k4 (by intro z; cases z)
  exact ⟨⟨k1, k2, ⟨dx, by rw [h2 p ne]; exact k3⟩, h1⟩, Stp.ch k4 k2 (fun xs z => by cases z) h1 h2⟩
def spWInit (C : Addr) : Sp := fun vs H Q _ => ∃ (p dx : Addr), vs = [.ref p] ∧ H p = some (.ins C dx []) ∧ ∀ l H', H l = none → H' p = some (.ins C dx (f_Wire (.ref l))) → H' l = some (.lst []) → (∀ b o, H b = some o → b ≠ p → H' b = some o) → Q .non H'
def spSend (C : Addr) : Sp := fun vs H Q _ => ∃ (c : Addr → Nat) (p l : Addr) (xs : List V) (v : V), vs = [.ref p, v] ∧ WireAt C c H p l xs ∧ xs.length ≤ 1000 ∧
  ∀ H', WireAt C c H' p l (if xs.length < 60 then xs ++ [v] else xs) → Stp (fun i => i = 1) c c H H' → Q (.bl (decide (xs.length < 60))) H'
def spPop (C : Addr) (out : Bool) : Sp := fun vs H Q _ => ∃ (c : Addr → Nat) (p l : Addr) (xs : List V) (i : Nat) (v : V), vs = [.ref p, .int (i : Int)] ∧ WireAt C c H p l xs ∧ xs.length ≤ 1000 ∧ xs[i]? = some v ∧
  ∀ H', WireAt C c H' p l (xs.eraseIdx i) → Stp (fun i => i = 1) c c H H' → Q (if out then v else .non) H'
def spDouble (C : Addr) : Sp := fun vs H Q _ => ∃ (c : Addr → Nat) (p l : Addr) (xs : List V) (i : Nat) (v : V), vs = [.ref p, .int (i : Int)] ∧ WireAt C c H p l xs ∧ xs.length ≤ 1000 ∧ xs[i]? = some v ∧
  ∀ H', WireAt C c H' p l (if xs.length < 60 then xs ++ [v] else xs) → Stp (fun i => i = 1) c c H H' → Q (.bl (decide (xs.length < 60))) H'
/-- a letter: its client, its number, its body -/
def LetAt (H : Hp) (v : V) (e : Int × Int × List Key) : Prop := ∃ t tb : Addr, v = .ref t ∧ H t = some (.tup [.int e.1, .int e.2.1, .ref tb]) ∧ H tb = some (.tup (e.2.2.map kV)) ∧ GB e.2.2 ∧ OkB e.2.2
theorem LetAt.frame {I : Nat → Prop} {c c' : Addr → Nat} {H H' : Hp} {v : V} {e : Int × Int × List Key} (h : LetAt H v e) (s : Stp I c c' H H') : LetAt H' v e := by
  obtain ⟨t, tb, h1, h2, h3, h4⟩ := h
  exact ⟨t, tb, h1, s.tup _ _ h2, s.tup _ _ h3, h4⟩
def spSpoil (C : Addr) : Sp := fun vs H Q _ => ∃ (c : Addr → Nat) (p l : Addr) (xs : List V) (i pl ch : Nat) (v : V) (cl nu : Int) (b : List Key), vs = [.ref p, .int (i : Int), .int (pl : Int), .str (SX.S [ch])] ∧ WireAt C c H p l xs ∧ xs.length ≤ 1000 ∧ xs[i]? = some v ∧ LetAt H v (cl, nu, b) ∧ ch < 0x110000 ∧
  ∀ v' b' H', SpB pl ch b b' → LetAt H' v' (cl, nu, b') → WireAt C c H' p l (xs.set i v') → Stp (fun i => i = 1) c c H H' → Q (.bl (!PyData.eqv (.tuple (b'.map dK)) (.tuple (b.map dK)))) H'
section
variable {P : Program} {w : World} {K : PySem.W.Frag} {mg : Str → Option Value} {base : Heap} {C_Wire a_PLACES : Addr}
theorem ok_Wire___init__ (T : Txt w K mg C_Wire a_PLACES) : Mak P w K mg base 1 "Wire" C_Wire (spWInit C_Wire) := by
  refine mak_mk T.i_Wire sc_Wire___init__ (fun vs H Q E h => ?_) (fun f cdv A outer s H vs Q E hr h => ?_)
  · obtain ⟨p, dx, rfl, _⟩ := h
    rfl
  · obtain ⟨p, dx, rfl, hp, k⟩ := h
    refine ⟨_, (pss_one (ps_fld (pv 0) (pe_lst pa_nil) rfl)), ?_⟩
    walk_at "lw"
    refine g_klst (by show 0 ≤ 100; decide) fun l H1 nl s1 hl => ?_
    walk_at "lw"
    refine g_rsfld (s1 _ _ hp) T.cl_Wire T.na_Wire_letters (by decide) fun H2 h2 k2 => ?_
    walk_at "lw"
    have ne : l ≠ p := Ne.symm (ne_of_none hp nl)
    exact k l H2 nl h2 (by rw [k2 l ne]; exact hl) fun b o e hb => by rw [k2 b hb]; exact s1 _ _ e
theorem ok_Wire_send (T : Txt w K mg C_Wire a_PLACES) : Met P w K mg base 1 C_Wire "send" (spSend C_Wire) := by
  refine met_mk T.cl_Wire T.m_Wire_send sc_Wire_send (fun vs H Q E h => ?_) (fun f cdv A outer s H vs Q E hr h => ?_)
  · obtain ⟨c, p, l, xs, v, rfl, _⟩ := h
    rfl
  · obtain ⟨c, p, l, xs, v, rfl, W, hz, k⟩ := h
    obtain ⟨_, _, ⟨dx, hp⟩, hl⟩ := id W
    refine ⟨_, (pss_cons (ps_if (pt_cmpR op_ge (pe_callB call_len_seq' (by rfl) T.n_len (by decide +kernel) (pa_cons (pe_fld (pv 0) rfl) pa_nil)) (pe_gc rfl T.g_MOST_LETTERS) (nomark _)) (pss_one (ps_ret (pe_bl))) pss_nil)
      (pss_cons (ps_expr (pe_bm PySem.F.plainAttrs_list PySem.F.slot_list_append PySem.F.type_list_append mt_append (pe_fld (pv 0) rfl) (pa_cons (pv 1) pa_nil)))
      (pss_one (ps_ret (pe_bl))))), ?_⟩
    walk_at "lw"
    refine g_rfld hp T.cl_Wire T.na_Wire_letters f_Wire_letters ?_
    walk_at "lw"
    refine if2 (fun h => ?_) (fun h => ?_)
    · walk_at "lw"
      have e : decide (xs.length < 60) = false := decide_eq_false (by omega)
      rw [← e]
      exact k H (by rw [if_neg (by omega)]; exact W) Stp.refl
    · walk_at "lw"
      refine g_rfld hp T.cl_Wire T.na_Wire_letters f_Wire_letters ?_
      refine g_tyL hl ?_
      walk_at "lw"
      refine g_append hl (by omega) fun H1 h1 h2 => ?_
      walk_at "lw"
      obtain ⟨W1, s1⟩ := W.set h1 h2
      have e : decide (xs.length < 60) = true := decide_eq_true (by omega)
      rw [← e]
      exact k H1 (by rw [if_pos (by omega)]; exact W1) s1
theorem ok_Wire_deliver (T : Txt w K mg C_Wire a_PLACES) : Met P w K mg base 1 C_Wire "deliver" (spPop C_Wire true) := by
  refine met_mk T.cl_Wire T.m_Wire_deliver sc_Wire_deliver (fun vs H Q E h => ?_) (fun f cdv A outer s H vs Q E hr h => ?_)
  · obtain ⟨c, p, l, xs, i, v, rfl, _⟩ := h
    rfl
  · obtain ⟨c, p, l, xs, i, v, rfl, W, hz, hi, k⟩ := h
    obtain ⟨_, _, ⟨dx, hp⟩, hl⟩ := id W
    refine ⟨_, (pss_one (ps_ret (pe_bm PySem.F.plainAttrs_list PySem.F.slot_list_pop PySem.F.type_list_pop mt_popAt (pe_fld (pv 0) rfl) (pa_cons (pv 1) pa_nil)))), ?_⟩
    walk_at "lw"
    refine g_rfld hp T.cl_Wire T.na_Wire_letters f_Wire_letters ?_
    refine g_tyL hl ?_
    walk_at "lw"
    refine g_popAt hl hi (by omega) fun H1 h1 h2 => ?_
    walk_at "lw"
    obtain ⟨W1, s1⟩ := W.set h1 h2
    exact k H1 W1 s1
theorem ok_Wire_lose (T : Txt w K mg C_Wire a_PLACES) : Met P w K mg base 1 C_Wire "lose" (spPop C_Wire false) := by
  refine met_mk T.cl_Wire T.m_Wire_lose sc_Wire_lose (fun vs H Q E h => ?_) (fun f cdv A outer s H vs Q E hr h => ?_)
  · obtain ⟨c, p, l, xs, i, v, rfl, _⟩ := h
    rfl
  · obtain ⟨c, p, l, xs, i, v, rfl, W, hz, hi, k⟩ := h
    obtain ⟨_, _, ⟨dx, hp⟩, hl⟩ := id W
    refine ⟨_, (pss_one (ps_expr (pe_bm PySem.F.plainAttrs_list PySem.F.slot_list_pop PySem.F.type_list_pop mt_popAt (pe_fld (pv 0) rfl) (pa_cons (pv 1) pa_nil)))), ?_⟩
    walk_at "lw"
    refine g_rfld hp T.cl_Wire T.na_Wire_letters f_Wire_letters ?_
    refine g_tyL hl ?_
    walk_at "lw"
    refine g_popAt hl hi (by omega) fun H1 h1 h2 => ?_
    walk_at "lw"
    obtain ⟨W1, s1⟩ := W.set h1 h2
    exact k H1 W1 s1
theorem ok_Wire_double (T : Txt w K mg C_Wire a_PLACES) : Met P w K mg base 2 C_Wire "double" (spDouble C_Wire) := by
  have t_Wire_send : Met P w K mg base 1 C_Wire "send" (spSend C_Wire) := ok_Wire_send T
  refine met_mk T.cl_Wire T.m_Wire_double sc_Wire_double (fun vs H Q E h => ?_) (fun f cdv A outer s H vs Q E hr h => ?_)
  · obtain ⟨c, p, l, xs, i, v, rfl, _⟩ := h
    rfl
  · obtain ⟨c, p, l, xs, i, v, rfl, W, hz, hi, k⟩ := h
    obtain ⟨_, _, ⟨dx, hp⟩, hl⟩ := id W
    refine ⟨_, (pss_one (ps_ret (pe_mt t_Wire_send hr (by decide) (pv 0) (pa_cons (pe_ix ix_list (pe_fld (pv 0) rfl) (pv 1) (fun _ _ => rfl)) pa_nil)))), ?_⟩
    walk_at "lw"
    refine g_rmeth hp (f_Wire_no (by decide +kernel)) ?_
    walk_at "lw"
    refine g_rfld hp T.cl_Wire T.na_Wire_letters f_Wire_letters ?_
    walk_at "lw"
    refine g_rix (SqL.of hl) (atI_nat hi) ?_
    walk_at "lw"
    exact ⟨c, p, l, xs, v, rfl, W, hz, k⟩
theorem ok_Wire_spoil (T : Txt w K mg C_Wire a_PLACES) : Met P w K mg base 2 C_Wire "spoil" (spSpoil C_Wire) := by
  have c_spoilt_body : Cal P w K mg base 1 "spoilt_body" spSpo := ok_spoilt_body T
  refine met_mk T.cl_Wire T.m_Wire_spoil sc_Wire_spoil (fun vs H Q E h => ?_) (fun f cdv A outer s H vs Q E hr h => ?_)
  · obtain ⟨c, p, l, xs, i, pl, ch, v, cl, nu, b, rfl, _⟩ := h
    rfl
  · obtain ⟨c, p, l, xs, i, pl, ch, v, cl, nu, b, rfl, W, hz, hi, ⟨t, tb, rfl, ht, htb, hg, hok⟩, hch, k⟩ := h
    obtain ⟨_, _, ⟨dx, hp⟩, hl⟩ := id W
    refine ⟨_, (pss_cons (ps_asg (pe_ix ix_list (pe_fld (pv 0) rfl) (pv 1) (fun _ _ => rfl)) (pg_tup (by rfl) (pgs_cons (pg_name (i := 4) sc_Wire_spoil.nd rfl (by first | exact Or.inl rfl | exact Or.inr rfl)) (pgs_cons (pg_name (i := 5) sc_Wire_spoil.nd rfl (by first | exact Or.inl rfl | exact Or.inr rfl)) (pgs_cons (pg_name (i := 6) sc_Wire_spoil.nd rfl (by first | exact Or.inl rfl | exact Or.inr rfl)) pgs_nil)))))
      (pss_cons (ps_set (i := 7) sc_Wire_spoil.nd rfl (by first | exact Or.inl rfl | exact Or.inr rfl) (pe_c c_spoilt_body hr (by decide) rfl (pa_cons (pv 6) (pa_cons (pv 2) (pa_cons (pv 3) pa_nil)))))
      (pss_cons (ps_asg (pe_tup (pa_cons (pv 4) (pa_cons (pv 5) (pa_cons (pv 7) pa_nil)))) (pg_sub (pe_fld (pv 0) rfl) (pv 1) set_list))
      (pss_one (ps_ret (pe_cmpR (op_neD hr.units) (pv 7) (pv 6) (nomark _))))))), ?_⟩
    walk_at "lw"
    refine g_rfld hp T.cl_Wire T.na_Wire_letters f_Wire_letters ?_
    walk_at "lw"
    refine g_rix (SqL.of hl) (atI_nat hi) ?_
    refine ⟨t, _, rfl, SqT.of ht, rfl, _, _, rfl, ?_⟩
    walk_at "lw"
    refine ⟨_, _, rfl, ?_⟩
    walk_at "lw"
    refine ⟨_, _, rfl, ?_⟩
    walk_at "lw"
    refine ⟨rfl, ?_⟩
    walk_at "lw"
    refine ⟨tb, b, pl, ch, rfl, htb, hg, fun tb' b' H1 sp s1 h1 => ?_⟩
    walk_at "lw"
    refine g_ktup (by show 3 ≤ 100; decide) fun t' H2 n2 s2 h2 => ?_
    have s12 := s1.trans s2
    walk_at "lw"
    refine g_rfld (s12 _ _ hp) T.cl_Wire T.na_Wire_letters f_Wire_letters ?_
    walk_at "lw"
    have hil := (List.getElem?_eq_some_iff.mp hi).1
    refine g_setL (n := i) (s12 _ _ hl) (by unfold ixN; rw [if_pos (by omega), if_pos (by omega), Int.toNat_natCast]) ?_
    generalize hG : upd H2 l (.lst (xs.set i (.ref t'))) = H3
    have h3l : H3 l = some (.lst (xs.set i (.ref t'))) := by rw [← hG]; exact upd_same
    have h3 : ∀ b, b ≠ l → H3 b = H2 b := fun b hb => by rw [← hG]; exact upd_ne hb
    have W2 : WireAt C_Wire c H2 p l xs := W.frame (I := fun _ => False) (Stp.same s12) (by decide)
    obtain ⟨W3, st3⟩ := W2.set h3l h3
    have nt : ∀ {a : Addr} {ys : List V}, H2 a = some (.tup ys) → H3 a = some (.tup ys) := fun e => st3.tup _ _ e
    walk_at "lw"
    have hb' := nt (s2 _ _ h1)
    have hb := nt (s12 _ _ htb)
    refine ⟨_, _, dp_body hb', dp_body hb, sh_body (sp.okb hch hok), sh_body hok, ?_⟩
    exact k (.ref t') b' H3 sp ⟨t', tb', rfl, nt h2, hb', sp.gb hg, sp.okb hch hok⟩ W3 ((Stp.same s12).trans st3)
end
end Lw

/-! ## a drawn body -/
namespace Lw
open PySem L2
open PyProof.Rows (envOfC)
theorem okb_nil : OkB [] := fun _ h => nomatch h
theorem okb_int {i : Int} {b : List Key} (h : OkB b) : OkB (.inl i :: b) := fun x hx => by
  rcases List.mem_cons.mp hx with z | z
  · cases z
  · exact h x z
theorem okb_str {x : Str} {b : List Key} (hx : PyData.strOk x = true) (h : OkB b) : OkB (.inr x :: b) := fun y hy => by
  rcases List.mem_cons.mp hy with z | z
  · rw [Sum.inr.inj z]; exact hx
  · exact h y z
def BodyAt (H : Hp) (v : V) : Prop := ∃ (t : Addr) (b : List Key), v = .ref t ∧ H t = some (.tup (b.map kV)) ∧ GB b ∧ OkB b
theorem mkB {H : Hp} {t : Addr} {b : List Key} (g : GB b) (o : OkB b) (h : H t = some (.tup (b.map kV))) : BodyAt H (.ref t) := ⟨t, b, rfl, h, g, o⟩
def spBody : Sp := fun vs H Q _ => ∃ (c : Addr → Nat) (S : Addr), vs = [.ref S] ∧ StateAt c H S ∧
  ∀ (t : Addr) (b : List Key) c' H', H' t = some (.tup (b.map kV)) → GB b → OkB b → StateAt c' H' S → Stp (fun i => i = 0) c c' H H' → Q (.ref t) H'
theorem ok8 {l : List Nat} (h : ∀ x ∈ l, x ∈ signs8) : PyData.strOk (SX.S l) = true := okT fun c hc => by
  have : ∀ x ∈ signs8, x < 0x110000 := by decide
  exact this c (h c hc)
section
variable {P : Program} {w : World} {K : PySem.W.Frag} {mg : Str → Option Value} {base : Heap} {C_Wire a_PLACES : Addr}
theorem ok__law_body (T : Txt w K mg C_Wire a_PLACES) : Cal P w K mg base 3 "_law_body" spBody := by
  have c__law_take : Cal P w K mg base 1 "_law_take" spTake := ok__law_take T
  have c__law_text : Cal P w K mg base 2 "_law_text" spText := ok__law_text T
  refine cal_mk T.d__law_body sc__law_body (fun vs H Q E h => ?_) (fun f cdv A outer s H vs Q E hr h => ?_)
  · obtain ⟨c, S, rfl, _⟩ := h
    rfl
  · obtain ⟨c, S, rfl, hS, k⟩ := h
    refine ⟨_, (pss_cons (ps_set (i := 1) sc__law_body.nd rfl (by first | exact Or.inl rfl | exact Or.inr rfl) (pe_c c__law_text hr (by decide) rfl (pa_cons (pv 0) (pa_cons (pe_int) pa_nil))))
      (pss_cons (ps_set (i := 2) sc__law_body.nd rfl (by first | exact Or.inl rfl | exact Or.inr rfl) (pe_lst (pa_cons (pe_tup (pa_cons (pe_str) (pa_cons (pe_int) (pa_cons (pe_int) (pa_cons (pv 1) pa_nil))))) (pa_cons (pe_tup (pa_cons (pe_str) (pa_cons (pe_int) (pa_cons (pe_str) (pa_cons (pv 1) pa_nil))))) (pa_cons (pe_tup (pa_cons (pe_str) (pa_cons (pe_str) (pa_cons (pe_str) (pa_cons (pe_int) (pa_cons (pv 1) (pa_cons (pe_int) pa_nil))))))) (pa_cons (pe_tup (pa_cons (pe_str) pa_nil)) pa_nil))))))
      (pss_cons (ps_set (i := 2) sc__law_body.nd rfl (by first | exact Or.inl rfl | exact Or.inr rfl) (pe_op op_cat (pv 2) (pe_lst (pa_cons (pe_tup (pa_cons (pe_str) (pa_cons (pv 1) pa_nil))) (pa_cons (pe_tup (pa_cons (pe_str) (pa_cons (pe_int) (pa_cons (pv 1) (pa_cons (pe_str) pa_nil))))) (pa_cons (pe_tup (pa_cons (pe_str) (pa_cons (pv 1) pa_nil))) (pa_cons (pe_tup (pa_cons (pe_str) (pa_cons (pv 1) pa_nil))) (pa_cons (pe_tup (pa_cons (pe_str) (pa_cons (pe_int) (pa_cons (pe_int) pa_nil)))) pa_nil))))))))
      (pss_one (ps_ret (pe_ix ix_list (pv 2) (pe_c c__law_take hr (by decide) rfl (pa_cons (pv 0) (pa_cons (pe_int) pa_nil))) (fun _ _ => rfl))))))), ?_⟩
    walk_at "lw"
    refine ⟨c, S, 4, rfl, hS, by decide, by decide, fun l c1 H1 hl hl8 S1 st1 => ?_⟩
    have hl4 : l.length ≤ 4 := by omega
    walk_at "lw"
    refine g_ktup (by show 4 ≤ 100; decide) fun a1 G1 n1 s1 h1 => ?_
    walk_at "lw"
    refine g_ktup (by show 4 ≤ 100; decide) fun a2 G2 n2 s2 h2 => ?_
    walk_at "lw"
    refine g_ktup (by show 6 ≤ 100; decide) fun a3 G3 n3 s3 h3 => ?_
    walk_at "lw"
    refine g_ktup (by show 1 ≤ 100; decide) fun a4 G4 n4 s4 h4 => ?_
    walk_at "lw"
    refine g_klst (by show 4 ≤ 100; decide) fun q1 G5 nq1 s5 hq1 => ?_
    walk_at "lw"
    refine g_ktup (by show 2 ≤ 100; decide) fun a5 G6 n5 s6 h5 => ?_
    walk_at "lw"
    refine g_ktup (by show 4 ≤ 100; decide) fun a6 G7 n6 s7 h6 => ?_
    walk_at "lw"
    refine g_ktup (by show 2 ≤ 100; decide) fun a7 G8 n7 s8 h7 => ?_
    walk_at "lw"
    refine g_ktup (by show 2 ≤ 100; decide) fun a8 G9 n8 s9 h8 => ?_
    walk_at "lw"
    refine g_ktup (by show 3 ≤ 100; decide) fun a9 GA n9 sA h9 => ?_
    walk_at "lw"
    refine g_klst (by show 5 ≤ 100; decide) fun q2 GB nq2 sB hq2 => ?_
    have sq1 : Same G5 GB := ((((s6.trans s7).trans s8).trans s9).trans sA).trans sB
    refine g_cat (sq1 _ _ hq1) hq2 (by show 4 + 5 ≤ 100000; decide) fun q GC nq sC hq => ?_
    have t9 : Same GA GC := sB.trans sC
    have t8 : Same G9 GC := sA.trans t9
    have t7 : Same G8 GC := s9.trans t8
    have t6 : Same G7 GC := s8.trans t7
    have t5 : Same G6 GC := s7.trans t6
    have t4 : Same G4 GC := (s5.trans s6).trans t5
    have t3 : Same G3 GC := s4.trans t4
    have t2 : Same G2 GC := s3.trans t3
    have t1 : Same G1 GC := s2.trans t2
    have o8 := ok8 hl8
    have all : ∀ v ∈ ([V.ref a1, V.ref a2, V.ref a3, V.ref a4] ++ [V.ref a5, V.ref a6, V.ref a7, V.ref a8, V.ref a9] : List V), BodyAt GC v := by
      intro v hv
      simp only [List.cons_append, List.nil_append, List.mem_cons, List.not_mem_nil, or_false] at hv
      rcases hv with rfl | rfl | rfl | rfl | rfl | rfl | rfl | rfl | rfl
      · exact mkB (.txt "part" [.inl 1, .inl 0] [] l (by decide +kernel) (by decide +kernel) hl4 (by decide) (by decide)) (okb_str (by decide +kernel) (okb_int (okb_int (okb_str o8 okb_nil)))) (t1 _ _ h1)
      · exact mkB (.txt "put" [.inl 1, .inr "image"] [] l (by decide +kernel) (by decide +kernel) hl4 (by decide) (by decide)) (okb_str (by decide +kernel) (okb_int (okb_str (by decide +kernel) (okb_str o8 okb_nil)))) (t2 _ _ h2)
      · exact mkB (.txt "piece" [.inr "0f", .inr "layer", .inl 0] [.inl 9] l (by decide +kernel) (by decide +kernel) hl4 (by decide) (by decide)) (okb_str (by decide +kernel) (okb_str (by decide +kernel) (okb_str (by decide +kernel) (okb_int (okb_str o8 (okb_int okb_nil)))))) (t3 _ _ h3)
      · exact mkB (.pl "open" [] (by decide +kernel) (by decide +kernel) (by simp)) (okb_str (by decide +kernel) okb_nil) (t4 _ _ h4)
      · exact mkB (.pl "kept" [.inr (SX.S l)] (by decide +kernel) (by decide +kernel) (by simp)) (okb_str (by decide +kernel) (okb_str o8 okb_nil)) (t5 _ _ h5)
      · exact mkB (.pl "name" [.inl 1, .inr (SX.S l), .inr "0f"] (by decide +kernel) (by decide +kernel) (by simp)) (okb_str (by decide +kernel) (okb_int (okb_str o8 (okb_str (by decide +kernel) okb_nil)))) (t6 _ _ h6)
      · exact mkB (.pl "look" [.inr (SX.S l)] (by decide +kernel) (by decide +kernel) (by simp)) (okb_str (by decide +kernel) (okb_str o8 okb_nil)) (t7 _ _ h7)
      · exact mkB (.pl "wrong" [.inr (SX.S l)] (by decide +kernel) (by decide +kernel) (by simp)) (okb_str (by decide +kernel) (okb_str o8 okb_nil)) (t8 _ _ h8)
      · exact mkB (.pl "have" [.inl 1, .inl 4] (by decide +kernel) (by decide +kernel) (by simp)) (okb_str (by decide +kernel) (okb_int (okb_int okb_nil))) (t9 _ _ h9)
    have sC1 : Same H1 GC := s1.trans t1
    have stC : Stp (fun _ => False) c1 (Stp.paint c1 q 9) H1 GC := Stp.sameC sC1 fun b o e => Stp.paint_ne (ne_of_none e ((((((s1.trans s2).trans s3).trans s4).trans s5).trans sq1).free nq))
    walk_at "lw"
    refine ⟨_, S, 9, rfl, S1.frame stC (by decide), by decide, by decide, fun r c2 H2 r0 r1 S2 st2 => ?_⟩
    obtain ⟨v, hv, hat⟩ := at_in (xs := ([V.ref a1, V.ref a2, V.ref a3, V.ref a4] ++ [V.ref a5, V.ref a6, V.ref a7, V.ref a8, V.ref a9] : List V)) (i := r) r0 r1
    refine g_rix (SqL.of (st2.keep _ _ hq (by rw [Stp.paint_same]; decide))) hat ?_
    obtain ⟨t, b, rfl, e1, e2, e3⟩ := all v (List.mem_of_getElem? hv)
    walk_at "lw"
    exact k t b c2 H2 (st2.tup _ _ e1) e2 e3 S2 ((st1.trans (stC.mono fun _ z => z.elim)).trans st2)
end
end Lw

/-! ## the law -/
namespace Lw
open PySem L2
open PyProof.Rows (envOfC)
def Ls (H : Hp) (xs : List V) (ls : List (Int × Int × List Key)) : Prop := xs.length = ls.length ∧ ∀ (i : Nat) v e, xs[i]? = some v → ls[i]? = some e → LetAt H v e
theorem Ls.frame {I : Nat → Prop} {c c' : Addr → Nat} {H H' : Hp} {xs : List V} {ls : List (Int × Int × List Key)} (h : Ls H xs ls) (s : Stp I c c' H H') : Ls H' xs ls := ⟨h.1, fun i v e a b => (h.2 i v e a b).frame s⟩
theorem Ls.get {H : Hp} {xs : List V} {ls : List (Int × Int × List Key)} (h : Ls H xs ls) {i : Nat} (hi : i < ls.length) : ∃ v e, xs[i]? = some v ∧ ls[i]? = some e ∧ LetAt H v e := by
  have hx : i < xs.length := by rw [h.1]; exact hi
  exact ⟨xs[i], ls[i], List.getElem?_eq_getElem hx, List.getElem?_eq_getElem hi, h.2 i _ _ (List.getElem?_eq_getElem hx) (List.getElem?_eq_getElem hi)⟩
theorem Ls.append {H : Hp} {xs : List V} {ls : List (Int × Int × List Key)} {v : V} {e : Int × Int × List Key} (h : Ls H xs ls) (k : LetAt H v e) : Ls H (xs ++ [v]) (ls ++ [e]) := by
  refine ⟨by rw [List.length_append, List.length_append, h.1]; rfl, fun i v' e' a b => ?_⟩
  by_cases hi : i < ls.length
  · rw [List.getElem?_append_left (by rw [h.1]; exact hi)] at a
    rw [List.getElem?_append_left hi] at b
    exact h.2 i _ _ a b
  · rw [List.getElem?_append_right (by rw [h.1]; omega)] at a
    rw [List.getElem?_append_right (by omega)] at b
    rw [h.1] at a
    cases hz : i - ls.length with
    | zero =>
      rw [hz] at a b
      cases a
      cases b
      exact k
    | succ n =>
      rw [hz] at b
      cases b
theorem Ls.erase {H : Hp} {xs : List V} {ls : List (Int × Int × List Key)} (h : Ls H xs ls) (j : Nat) : Ls H (xs.eraseIdx j) (ls.eraseIdx j) := by
  refine ⟨by rw [List.length_eraseIdx, List.length_eraseIdx, h.1], fun i v e a b => ?_⟩
  rw [List.getElem?_eraseIdx] at a b
  split at a
  · rename_i hij
    rw [if_pos hij] at b
    exact h.2 i _ _ a b
  · rename_i hij
    rw [if_neg hij] at b
    exact h.2 _ _ _ a b
theorem Ls.set {H : Hp} {xs : List V} {ls : List (Int × Int × List Key)} (h : Ls H xs ls) {v : V} {e : Int × Int × List Key} (k : LetAt H v e) (j : Nat) : Ls H (xs.set j v) (ls.set j e) := by
  refine ⟨by rw [List.length_set, List.length_set, h.1], fun i v' e' a b => ?_⟩
  by_cases hij : j = i
  · subst hij
    have hj : j < xs.length := by
      have := (List.getElem?_eq_some_iff.mp a).1
      rw [List.length_set] at this
      exact this
    rw [List.getElem?_set_self hj] at a
    rw [List.getElem?_set_self (by rw [← h.1]; exact hj)] at b
    cases a
    cases b
    exact k
  · rw [List.getElem?_set_ne hij] at a b
    exact h.2 i _ _ a b
def dL (e : Int × Int × List Key) : PyData := .tuple [.int e.1, .int e.2.1, .tuple (e.2.2.map dK)]
theorem dp_let {K : PySem.W.Frag} {H : Hp} {v : V} {e : Int × Int × List Key} (h : LetAt H v e) : Dp K H v (dL e) := by
  obtain ⟨t, tb, rfl, h1, h2, _⟩ := h
  exact .tup (SqT.of h1) (.cons (.int _) (.cons (.int _) (.cons (dp_body h2) .nil)))
theorem dp_lets {K : PySem.W.Frag} {H : Hp} : ∀ {xs : List V} {ls : List (Int × Int × List Key)}, Ls H xs ls → DpAll K H xs (ls.map dL)
  | [], [], _ => .nil
  | [], _ :: _, h => by cases h.1
  | _ :: _, [], h => by cases h.1
  | x :: xs, e :: ls, h => .cons (dp_let (h.2 0 x e rfl rfl)) (dp_lets ⟨by simpa using h.1, fun i v e a b => h.2 (i + 1) v e (by simpa using a) (by simpa using b)⟩)
theorem okb_all {H : Hp} {xs : List V} {ls : List (Int × Int × List Key)} (h : Ls H xs ls) : ∀ e ∈ ls, OkB e.2.2 := by
  intro e he
  obtain ⟨i, hi, rfl⟩ := List.mem_iff_getElem.mp he
  obtain ⟨v, e', _, h2, h3⟩ := h.get hi
  rw [List.getElem?_eq_getElem hi] at h2
  cases h2
  obtain ⟨_, _, _, _, _, _, h4⟩ := h3
  exact h4
theorem sh_let {e : Int × Int × List Key} (h : OkB e.2.2) : (dL e).canLay0 = true ∧ (dL e).depth ≤ 3 := by
  obtain ⟨h1, h2⟩ := sh_all e.2.2 h
  refine ⟨?_, ?_⟩
  · simp only [dL, PyData.canLay0, PyData.canLayAll0, h1, Bool.and_true]
  · simp only [dL, PyData.depth, PyData.depthAll, h2]
    omega
theorem sh_lets : ∀ {ls : List (Int × Int × List Key)}, (∀ e ∈ ls, OkB e.2.2) → PyData.canLayAll0 (ls.map dL) = true ∧ PyData.depthAll (ls.map dL) ≤ 3
  | [], _ => ⟨rfl, Nat.zero_le _⟩
  | e :: ls, h => by
    obtain ⟨h1, h2⟩ := sh_let (h e List.mem_cons_self)
    obtain ⟨h3, h4⟩ := sh_lets fun e he => h e (List.mem_cons_of_mem _ he)
    refine ⟨?_, ?_⟩
    · simp only [List.map_cons, PyData.canLayAll0, h1, h3, Bool.and_true]
    · simp only [List.map_cons, PyData.depthAll]
      omega
theorem sh1 {e : Int × Int × List Key} (h : OkB e.2.2) : SeqAt.shaped (dL e) = true := by
  obtain ⟨h1, h2⟩ := sh_let h
  unfold SeqAt.shaped
  rw [h1, Bool.true_and, decide_eq_true_eq]
  omega
theorem shs {ls : List (Int × Int × List Key)} (h : ∀ e ∈ ls, OkB e.2.2) : SeqAt.shaped (.list (ls.map dL)) = true := by
  obtain ⟨h1, h2⟩ := sh_lets h
  unfold SeqAt.shaped
  rw [show (PyData.list (ls.map dL)).canLay0 = true from h1, Bool.true_and, decide_eq_true_eq]
  simp only [PyData.depth]
  omega
theorem shaped_lay {d : PyData} (h : SeqAt.shaped d = true) : d.canLay0 = true := by
  unfold SeqAt.shaped at h
  exact (Bool.and_eq_true_iff.mp h).1
theorem eqv_same {d : PyData} (h : SeqAt.shaped d = true) : PyData.eqv d d = true := SeqAt.eqv_refl d (shaped_lay h)
/-- the wire at p, the law's list at d: the same letters -/
structure DI (C : Addr) (c : Addr → Nat) (H : Hp) (p l d : Addr) (xs ys : List V) (ls : List (Int × Int × List Key)) : Prop where
  W : WireAt C c H p l xs
  cd : c d = 2
  hd : H d = some (.lst ys)
  lx : Ls H xs ls
  ly : Ls H ys ls
  n : ls.length ≤ 60
theorem DI.frame {C : Addr} {I : Nat → Prop} {c c' : Addr → Nat} {H H' : Hp} {p l d : Addr} {xs ys : List V} {ls : List (Int × Int × List Key)} (h : DI C c H p l d xs ys ls) (s : Stp I c c' H H') (h1 : ¬ I 1) (h2 : ¬ I 2) : DI C c' H' p l d xs ys ls :=
  ⟨h.W.frame s h1, by rw [s.col _ _ h.hd, h.cd], s.keep _ _ h.hd (by rw [h.cd]; exact h2), h.lx.frame s, h.ly.frame s, h.n⟩
def spLaw (K : PySem.W.Frag) : Sp := fun vs H Q _ => ∃ (a : Addr) (ns : List Int), vs = [.ref a] ∧ SqL K H a (ns.map V.int) ∧ ns.length ≤ 63 ∧ ∀ H', Q (.bl true) H'
/-- what holds between two turns, and behind the step within a turn -/
def Tn (C : Addr) (sc S p : Addr) (busy : Int) (σ : L2.St) (H : Hp) : Prop := ∃ (a5 a6 a7 a8 a9 a10 a11 a12 a13 a14 : Option V) (d l : Addr) (c : Addr → Nat) (xs ys : List V) (ls : List (Int × Int × List Key)),
  σ = [some (.ref sc), some (.ref S), some (.ref p), some (.ref d), some (.int busy), a5, a6, a7, a8, a9, a10, a11, a12, a13, a14] ∧ StateAt c H S ∧ DI C c H p l d xs ys ls
section
variable {P : Program} {w : World} {K : PySem.W.Frag} {mg : Str → Option Value} {base : Heap} {C_Wire a_PLACES : Addr}
theorem ok_law (T : Txt w K mg C_Wire a_PLACES) {f : Addr} {fd : FuncData} (F : Fun K "law" "law" s_law f fd) : FnOk P w K mg base CX0 4 f fd ["_law_script"] (spLaw K) := by
  have c__law_state : Cal P w K mg base 1 "_law_state" (spState K) := ok__law_state T
  have c__law_take : Cal P w K mg base 1 "_law_take" spTake := ok__law_take T
  have c__law_body : Cal P w K mg base 3 "_law_body" spBody := ok__law_body T
  have c__law_spoilt : Cal P w K mg base 1 "_law_spoilt" spSpo := ok__law_spoilt T
  have m_Wire : Mak P w K mg base 1 "Wire" C_Wire (spWInit C_Wire) := ok_Wire___init__ T
  have t_Wire_send : Met P w K mg base 1 C_Wire "send" (spSend C_Wire) := ok_Wire_send T
  have t_Wire_deliver : Met P w K mg base 1 C_Wire "deliver" (spPop C_Wire true) := ok_Wire_deliver T
  have t_Wire_lose : Met P w K mg base 1 C_Wire "lose" (spPop C_Wire false) := ok_Wire_lose T
  have t_Wire_double : Met P w K mg base 2 C_Wire "double" (spDouble C_Wire) := ok_Wire_double T
  have t_Wire_spoil : Met P w K mg base 2 C_Wire "spoil" (spSpoil C_Wire) := ok_Wire_spoil T
  refine F.ok sc_law (fun vs H Q E h => ?_) (fun cdv A outer s H vs Q E hr h => ?_)
  · obtain ⟨a, ns, rfl, _⟩ := h
    rfl
  · obtain ⟨sc, ns, rfl, hS, hlen, k⟩ := h
    refine ⟨_, (pss_cons (ps_set (i := 1) sc_law.nd rfl (by first | exact Or.inl rfl | exact Or.inr rfl) (pe_c c__law_state hr (by decide) rfl (pa_cons (pv 0) pa_nil)))
      (pss_cons (ps_set (i := 2) sc_law.nd rfl (by first | exact Or.inl rfl | exact Or.inr rfl) (pe_mk0 m_Wire hr (by decide) rfl))
      (pss_cons (ps_set (i := 3) sc_law.nd rfl (by first | exact Or.inl rfl | exact Or.inr rfl) (pe_lst pa_nil))
      (pss_cons (ps_set (i := 4) sc_law.nd rfl (by first | exact Or.inl rfl | exact Or.inr rfl) (pe_c c__law_take hr (by decide) rfl (pa_cons (pv 1) (pa_cons (pe_int) pa_nil))))
      (pss_cons (ps_for PassesOwn.never rfl (pi_range1 (by rfl) T.n_range (pa_cons (pe_c c__law_take hr (by decide) rfl (pa_cons (pv 1) (pa_cons (pe_int) pa_nil))) pa_nil)) (pg_name (i := 5) sc_law.nd rfl (by first | exact Or.inl rfl | exact Or.inr rfl)) (pss_cons (ps_set (i := 6) sc_law.nd rfl (by first | exact Or.inl rfl | exact Or.inr rfl) (pe_c c__law_take hr (by decide) rfl (pa_cons (pv 1) (pa_cons (pe_op op_add (pe_int) (pe_op op_mul (pe_int) (pv 4))) pa_nil))))
      (pss_cons (ps_set (i := 7) sc_law.nd rfl (by first | exact Or.inl rfl | exact Or.inr rfl) (pe_tup (pa_cons (pe_c c__law_take hr (by decide) rfl (pa_cons (pv 1) (pa_cons (pe_int) pa_nil))) (pa_cons (pe_c c__law_take hr (by decide) rfl (pa_cons (pv 1) (pa_cons (pe_int) pa_nil))) (pa_cons (pe_c c__law_body hr (by decide) rfl (pa_cons (pv 1) pa_nil)) pa_nil)))))
      (C8.pss_cut (ps_if (PW.pt (pw_or (pt_cmpR op_gt (pv 6) (pe_int) (nomark _)) (pw_or1 (pt_cmpR op_eq (pe_callB call_len_seq' (by rfl) T.n_len (by decide +kernel) (pa_cons (pv 3) pa_nil)) (pe_int) (nomark _))))) (pss_cons (ps_if (pt_cmpR op_ne (pe_callB call_repr_bool (by rfl) T.n_repr (by decide +kernel) (pa_cons (pe_mt t_Wire_send hr (by decide) (pv 2) (pa_cons (pv 7) pa_nil)) pa_nil)) (pe_callB call_repr_bool (by rfl) T.n_repr (by decide +kernel) (pa_cons (pe_cmpR op_lt (pe_callB call_len_seq' (by rfl) T.n_len (by decide +kernel) (pa_cons (pv 3) pa_nil)) (pe_int) (nomark _)) pa_nil)) (nomark _)) (pss_one (ps_ret (pe_bl))) pss_nil)
      (pss_one (ps_if (pt_cmpR op_lt (pe_callB call_len_seq' (by rfl) T.n_len (by decide +kernel) (pa_cons (pv 3) pa_nil)) (pe_int) (nomark _)) (pss_one (ps_expr (pe_bm PySem.F.plainAttrs_list PySem.F.slot_list_append PySem.F.type_list_append mt_append (pv 3) (pa_cons (pv 7) pa_nil)))) pss_nil))) (pss_cons (ps_set (i := 8) sc_law.nd rfl (by first | exact Or.inl rfl | exact Or.inr rfl) (pe_c c__law_take hr (by decide) rfl (pa_cons (pv 1) (pa_cons (pe_callB call_len_seq' (by rfl) T.n_len (by decide +kernel) (pa_cons (pv 3) pa_nil)) pa_nil))))
      (pss_cons (ps_if (PW.pt (pw_or (PW.pt (pw_and (pt_cmpR op_eq (pv 6) (pe_int) (nomark _)) (pw_and1 (pt_cmpR (op_neD hr.units) (pe_mt t_Wire_deliver hr (by decide) (pv 2) (pa_cons (pv 8) pa_nil)) (pe_ix ix_list (pv 3) (pv 8) (fun _ _ => rfl)) (nomark _))))) (pw_or1 (PW.pt (pw_and (pt_cmpR op_eq (pv 6) (pe_int) (nomark _)) (pw_and1 (pt_cmpR op_notN' (pe_mt t_Wire_lose hr (by decide) (pv 2) (pa_cons (pv 8) pa_nil)) (pe_non) (nomark _)))))))) (pss_one (ps_ret (pe_bl))) pss_nil)
      (pss_cons (ps_if (pt_cmpR op_lt (pv 6) (pe_int) (nomark _)) (pss_one (ps_set (i := 3) sc_law.nd rfl (by first | exact Or.inl rfl | exact Or.inr rfl) (pe_op op_cat (pe_slice sl_list (pv 3) po_none (po_some (pv 8))) (pe_slice sl_list (pv 3) (po_some (pe_op op_add (pv 8) (pe_int))) po_none)))) pss_nil)
      (pss_cons (ps_if (pt_cmpR op_eq (pv 6) (pe_int) (nomark _)) (pss_cons (ps_if (pt_cmpR op_ne (pe_callB call_repr_bool (by rfl) T.n_repr (by decide +kernel) (pa_cons (pe_mt t_Wire_double hr (by decide) (pv 2) (pa_cons (pv 8) pa_nil)) pa_nil)) (pe_callB call_repr_bool (by rfl) T.n_repr (by decide +kernel) (pa_cons (pe_cmpR op_lt (pe_callB call_len_seq' (by rfl) T.n_len (by decide +kernel) (pa_cons (pv 3) pa_nil)) (pe_int) (nomark _)) pa_nil)) (nomark _)) (pss_one (ps_ret (pe_bl))) pss_nil)
      (pss_one (ps_if (pt_cmpR op_lt (pe_callB call_len_seq' (by rfl) T.n_len (by decide +kernel) (pa_cons (pv 3) pa_nil)) (pe_int) (nomark _)) (pss_one (ps_expr (pe_bm PySem.F.plainAttrs_list PySem.F.slot_list_append PySem.F.type_list_append mt_append (pv 3) (pa_cons (pe_ix ix_list (pv 3) (pv 8) (fun _ _ => rfl)) pa_nil)))) pss_nil))) pss_nil)
      (pss_one (ps_if (pt_cmpR op_eq (pv 6) (pe_int) (nomark _)) (pss_cons (ps_set (i := 9) sc_law.nd rfl (by first | exact Or.inl rfl | exact Or.inr rfl) (pe_c c__law_take hr (by decide) rfl (pa_cons (pv 1) (pa_cons (pe_int) pa_nil))))
      (pss_cons (ps_set (i := 10) sc_law.nd rfl (by first | exact Or.inl rfl | exact Or.inr rfl) (pe_ix ix_str (pe_str) (pe_c c__law_take hr (by decide) rfl (pa_cons (pv 1) (pa_cons (pe_int) pa_nil))) (fun _ _ => rfl)))
      (pss_cons (ps_asg (pe_ix ix_list (pv 3) (pv 8) (fun _ _ => rfl)) (pg_tup (by rfl) (pgs_cons (pg_name (i := 11) sc_law.nd rfl (by first | exact Or.inl rfl | exact Or.inr rfl)) (pgs_cons (pg_name (i := 12) sc_law.nd rfl (by first | exact Or.inl rfl | exact Or.inr rfl)) (pgs_cons (pg_name (i := 13) sc_law.nd rfl (by first | exact Or.inl rfl | exact Or.inr rfl)) pgs_nil)))))
      (pss_cons (ps_set (i := 14) sc_law.nd rfl (by first | exact Or.inl rfl | exact Or.inr rfl) (pe_c c__law_spoilt hr (by decide) rfl (pa_cons (pv 13) (pa_cons (pv 9) (pa_cons (pv 10) pa_nil)))))
      (pss_cons (ps_if (pt_cmpR op_ne (pe_callB call_repr_bool (by rfl) T.n_repr (by decide +kernel) (pa_cons (pe_mt t_Wire_spoil hr (by decide) (pv 2) (pa_cons (pv 8) (pa_cons (pv 9) (pa_cons (pv 10) pa_nil)))) pa_nil)) (pe_callB call_repr_bool (by rfl) T.n_repr (by decide +kernel) (pa_cons (pe_cmpR (op_neD hr.units) (pv 14) (pv 13) (nomark _)) pa_nil)) (nomark _)) (pss_one (ps_ret (pe_bl))) pss_nil)
      (pss_one (ps_asg (pe_tup (pa_cons (pv 11) (pa_cons (pv 12) (pa_cons (pv 14) pa_nil)))) (pg_sub (pv 3) (pv 8) set_list)))))))) pss_nil)))))))
      (pss_one (ps_if (PW.pt (pw_or (pt_cmpR (op_neD hr.units) (pe_fld (pv 2) rfl) (pv 3) (nomark _)) (pw_or1 (pt_cmpR op_ne (pe_gc rfl T.g_MOST_LETTERS) (pe_int) (nomark _))))) (pss_one (ps_ret (pe_bl))) pss_nil))))))
      (pss_one (ps_ret (pe_bl)))))))), ?_⟩
    walk_at "lw"
    refine ⟨sc, ns, fun _ => 9, rfl, hS, hlen, fun S c1 H1 S1 st1 => ?_⟩
    walk_at "lw"
    intro p dx np ndx nex
    refine ⟨p, dx, rfl, upd_same, fun l H2 nl hp hl kp => ⟨rfl, ?_⟩⟩
    have s2 : Same H1 H2 := Same.made np ndx kp
    have s2' : Same H1 (upd (upd H1 dx (.own p)) p (.ins C_Wire dx [])) := (Same.new ndx).thenNew (by rw [upd_ne nex.symm]; exact np)
    have npl : p ≠ l := fun z => by subst z; rw [upd_same] at nl; cases nl
    have nl1 : H1 l = none := s2'.free nl
    have st2 : Stp (fun _ => False) c1 (Stp.paint (Stp.paint c1 p 1) l 1) H1 H2 := Stp.sameC s2 fun b o e => by
      rw [Stp.paint_ne (ne_of_none e nl1), Stp.paint_ne (ne_of_none e np)]
    have W2 : WireAt C_Wire (Stp.paint (Stp.paint c1 p 1) l 1) H2 p l [] := ⟨by rw [Stp.paint_ne npl]; exact Stp.paint_same, Stp.paint_same, ⟨dx, hp⟩, hl⟩
    generalize Stp.paint (Stp.paint c1 p 1) l 1 = c2 at st2 W2
    have S2 := S1.frame st2 (by decide)
    walk_at "lw"
    refine g_klst (by show 0 ≤ 100; decide) fun d H3 nd s3 hd => ?_
    have st3 : Stp (fun _ => False) c2 (Stp.paint c2 d 2) H2 H3 := Stp.sameC s3 fun b o e => Stp.paint_ne (ne_of_none e nd)
    have D3 : DI C_Wire (Stp.paint c2 d 2) H3 p l d [] [] [] := ⟨W2.frame st3 (by decide), Stp.paint_same, hd, ⟨rfl, fun i v e a => by cases a⟩, ⟨rfl, fun i v e a => by cases a⟩, by decide⟩
    have S3 := S2.frame st3 (by decide)
    generalize Stp.paint c2 d 2 = c3 at st3 D3 S3
    walk_at "lw"
    refine ⟨c3, S, 3, rfl, S3, by decide, by decide, fun busy c4 H4 b0 b1 S4 st4 => ?_⟩
    have D4 := D3.frame st4 (by decide) (by decide)
    walk_at "lw"
    refine ⟨c4, S, 81, rfl, S4, by decide, by decide, fun r c5 H5 r0 r1 S5 st5 => ?_⟩
    have D5 := D4.frame st5 (by decide) (by decide)
    walk_at "lw"
    refine g_for1 r0 (by omega) (fun i σ H => Tn C_Wire sc S p busy σ H) ?_ ?_ ?_
    · exact ⟨_, _, _, _, _, _, _, _, _, _, d, l, c5, [], [], [], rfl, S5, D5⟩
    · clear st1 st2 st3 st4 st5 D5 D4 D3 S5 S4 S3 S2 W2 S1
      intro i σ H6 hi hT
      obtain ⟨a5, a6, a7, a8, a9, a10, a11, a12, a13, a14, d, l, c, xs, ys, ls, rfl, S6, D6⟩ := hT
      walk_at "lw"
      refine ⟨c, S, 5 + 5 * busy, rfl, S6, by omega, by omega, fun kind c7 H7 k0 k1 S7 st7 => ?_⟩
      have D7 := D6.frame st7 (by decide) (by decide)
      walk_at "lw"
      refine ⟨c7, S, 3, rfl, S7, by decide, by decide, fun cl c8 H8 _ _ S8 st8 => ?_⟩
      have D8 := D7.frame st8 (by decide) (by decide)
      walk_at "lw"
      refine ⟨c8, S, 50, rfl, S8, by decide, by decide, fun nu c9 H9 _ _ S9 st9 => ?_⟩
      have D9 := D8.frame st9 (by decide) (by decide)
      walk_at "lw"
      refine ⟨c9, S, rfl, S9, fun tb b c10 H10 hb gb ob S10 st10 => ?_⟩
      have D10 := D9.frame st10 (by decide) (by decide)
      walk_at "lw"
      refine g_ktup (by show 3 ≤ 100; decide) fun t H11 nt s11 ht => ?_
      have st11 : Stp (fun _ => False) c10 c10 H10 H11 := Stp.same s11
      have S11 := S10.frame st11 (by decide)
      have D11 := D10.frame st11 (by decide) (by decide)
      have L11 : LetAt H11 (.ref t) (cl, nu, b) := ⟨t, tb, rfl, ht, s11 _ _ hb, gb, ob⟩
      clear D10 D9 D8 D7 D6 S10 S9 S8 S7 S6 st7 st8 st9 st10 st11
      walk_at "lw"
      refine g_cut (Tn C_Wire sc S p busy) ?_ ?_
      · have hx := D11.lx.1
        have hy := D11.ly.1
        have hn := D11.n
        have hdd := D11.hd
        obtain ⟨_, _, ⟨dx, hp⟩, hl⟩ := D11.W
        refine g_ifs ?_
        refine g_orD (b1 := decide (3 < kind)) (b2 := decide (V.int (ys.length : Int) = V.int 0)) (fun Q q => by walk_at "lw"; exact q) (fun Q q => by walk_at "lw"; exact q) ?_
        refine ifb (fun hb => ?_) (fun hb => ?_)
        · walk_at "lw"
          refine g_rmeth hp (f_Wire_no (by decide +kernel)) ?_
          walk_at "lw"
          refine ⟨c10, p, l, xs, .ref t, rfl, D11.W, by omega, fun H12 W12 st12 => ?_⟩
          have hd12 : H12 d = some (.lst ys) := st12.keep _ _ hdd (by rw [D11.cd]; decide)
          walk_at "lw"
          have e : decide (xs.length < 60) = decide ((ys.length : Int) < 60) := by
            rw [Bool.eq_iff_iff, decide_eq_true_eq, decide_eq_true_eq]; omega
          refine ifnp (by rw [e]) ?_
          walk_at "lw"
          refine if2 (fun h60 => ?_) (fun h60 => ?_)
          · walk_at "lw"
            refine g_tyL hd12 ?_
            walk_at "lw"
            refine g_append hd12 (by omega) fun H13 h13 k13 => ?_
            have st13 : Stp (fun i => i = 2) c10 c10 H12 H13 := Stp.ch hd12 D11.cd (fun xs z => by cases z) h13 k13
            rw [if_pos (by omega)] at W12
            have lx12 := (D11.lx.append L11).frame st12
            have ly12 := (D11.ly.append L11).frame st12
            walk_at "lw"
            exact ⟨_, _, _, _, _, _, _, _, _, _, d, l, c10, _, _, _, rfl, (S11.frame st12 (by decide)).frame st13 (by decide), W12.frame st13 (by decide), D11.cd, h13, lx12.frame st13, ly12.frame st13, by rw [List.length_append]; show _ + 1 ≤ 60; omega⟩
          · walk_at "lw"
            rw [if_neg (by omega)] at W12
            exact ⟨_, _, _, _, _, _, _, _, _, _, d, l, c10, _, _, _, rfl, S11.frame st12 (by decide), W12, D11.cd, hd12, D11.lx.frame st12, D11.ly.frame st12, hn⟩
        · rw [Bool.or_eq_false_iff, decide_eq_false_iff_not, decide_eq_false_iff_not, int_eq] at hb
          obtain ⟨hb1, hb2⟩ := hb
          walk_at "lw"
          refine ⟨c10, S, (ys.length : Int), rfl, S11, by omega, by omega, fun r c12 H12 r0 r1 S12 st12 => ?_⟩
          have D12 := D11.frame st12 (by decide) (by decide)
          have hd12 := D12.hd
          obtain ⟨j, rfl⟩ := Int.eq_ofNat_of_zero_le r0
          have hj : j < ls.length := by omega
          obtain ⟨v, e, hv, he, Lv⟩ := D12.lx.get hj
          obtain ⟨y, e2, hyy, he2, Ly⟩ := D12.ly.get hj
          rw [he] at he2
          cases he2
          have oke : OkB e.2.2 := okb_all D12.lx e (List.mem_of_getElem? he)
          obtain ⟨_, _, ⟨dx, hp⟩, hl⟩ := D12.W
          have c12d := D12.cd
          have del : ∀ (H13 : Hp), WireAt C_Wire c12 H13 p l (xs.eraseIdx j) → Stp (fun i => i = 1) c12 c12 H12 H13 → H13 d = some (.lst ys) ∧ ∀ (d2 : Addr) (H16 : Hp), Same H13 H16 → H13 d2 = none → H16 d2 = some (.lst (cutV ys none (some (j : Int)) ++ cutV ys (some ((j : Int) + 1)) none)) →
              DI C_Wire (Stp.paint c12 d2 2) H16 p l d2 (xs.eraseIdx j) (ys.eraseIdx j) (ls.eraseIdx j) ∧ StateAt (Stp.paint c12 d2 2) H16 S := by
            intro H13 W13 st13
            refine ⟨st13.keep _ _ hd12 (by rw [c12d]; decide), fun d2 H16 s16 n2 h16 => ?_⟩
            have st16 : Stp (fun _ => False) c12 (Stp.paint c12 d2 2) H13 H16 := Stp.sameC s16 fun b o e => Stp.paint_ne (ne_of_none e n2)
            have lx16 := ((D12.lx.erase j).frame st13).frame st16
            have ly16 := ((D12.ly.erase j).frame st13).frame st16
            have ey : cutV ys none (some (j : Int)) ++ cutV ys (some ((j : Int) + 1)) none = ys.eraseIdx j := by
              rw [cut_lo _ _ (by omega), show ((j : Int) + 1) = ((j + 1 : Nat) : Int) by omega, cut_hi _ _ (by omega), List.eraseIdx_eq_take_drop_succ]
            rw [ey] at h16
            exact ⟨⟨W13.frame st16 (by decide), Stp.paint_same, h16, lx16, ly16, by rw [List.length_eraseIdx]; split <;> omega⟩, (S12.frame st13 (by decide)).frame st16 (by decide)⟩
          have hk4 : kind = 0 ∨ kind = 1 ∨ kind = 2 ∨ kind = 3 := by omega
          rcases hk4 with rfl | rfl | rfl | rfl
          · walk_at "lw"
            refine ifp rfl ?_
            walk_at "lw"
            refine g_rmeth hp (f_Wire_no (by decide +kernel)) ?_
            walk_at "lw"
            refine ⟨c12, p, l, xs, j, v, rfl, D12.W, by omega, hv, fun H13 W13 st13 => ?_⟩
            obtain ⟨hd13, fin⟩ := del H13 W13 st13
            walk_at "lw"
            refine g_rix (SqL.of hd13) (atI_nat hyy) ?_
            refine ⟨_, _, dp_let (Lv.frame st13), dp_let (Ly.frame st13), sh1 oke, sh1 oke, ?_⟩
            rw [eqv_same (sh1 oke), Bool.not_true]
            walk_at "lw"
            refine ifn (by decide) ?_
            walk_at "lw"
            refine ifp (by decide) ?_
            walk_at "lw"
            refine g_slL (SqL.of hd13) fun q1 H14 n1 s14 h14 => ?_
            walk_at "lw"
            refine g_slL (SqL.of (s14 _ _ hd13)) fun q2 H15 n2 s15 h15 => ?_
            refine g_cat (s15 _ _ h14) h15 ?_ fun d2 H16 n3 s16 h16 => ?_
            · have := cutV_length ys none (some (j : Int))
              have := cutV_length ys (some ((j : Int) + 1)) none
              omega
            obtain ⟨D16, S16⟩ := fin d2 H16 ((s14.trans s15).trans s16) ((s14.trans s15).free n3) h16
            walk_at "lw"
            refine ifn (by decide) ?_
            walk_at "lw"
            refine ifn (by decide) ?_
            walk_at "lw"
            exact ⟨_, _, _, _, _, _, _, _, _, _, d2, l, _, _, _, _, rfl, S16, D16⟩
          · walk_at "lw"
            refine ifn (by decide) ?_
            walk_at "lw"
            refine ifp rfl ?_
            walk_at "lw"
            refine g_rmeth hp (f_Wire_no (by decide +kernel)) ?_
            walk_at "lw"
            refine ⟨c12, p, l, xs, j, v, rfl, D12.W, by omega, hv, fun H13 W13 st13 => ?_⟩
            obtain ⟨hd13, fin⟩ := del H13 W13 st13
            walk_at "lw"
            refine ifnp rfl ?_
            walk_at "lw"
            refine ifp (by decide) ?_
            walk_at "lw"
            refine g_slL (SqL.of hd13) fun q1 H14 n1 s14 h14 => ?_
            walk_at "lw"
            refine g_slL (SqL.of (s14 _ _ hd13)) fun q2 H15 n2 s15 h15 => ?_
            refine g_cat (s15 _ _ h14) h15 ?_ fun d2 H16 n3 s16 h16 => ?_
            · have := cutV_length ys none (some (j : Int))
              have := cutV_length ys (some ((j : Int) + 1)) none
              omega
            obtain ⟨D16, S16⟩ := fin d2 H16 ((s14.trans s15).trans s16) ((s14.trans s15).free n3) h16
            walk_at "lw"
            refine ifn (by decide) ?_
            walk_at "lw"
            refine ifn (by decide) ?_
            walk_at "lw"
            exact ⟨_, _, _, _, _, _, _, _, _, _, d2, l, _, _, _, _, rfl, S16, D16⟩
          · walk_at "lw"
            refine ifn (by decide) ?_
            walk_at "lw"
            refine ifn (by decide) ?_
            walk_at "lw"
            refine ifn (by decide) ?_
            walk_at "lw"
            refine ifp rfl ?_
            walk_at "lw"
            refine g_rmeth hp (f_Wire_no (by decide +kernel)) ?_
            walk_at "lw"
            refine ⟨c12, p, l, xs, j, v, rfl, D12.W, by omega, hv, fun H13 W13 st13 => ?_⟩
            have hd13 : H13 d = some (.lst ys) := st13.keep _ _ hd12 (by rw [c12d]; decide)
            walk_at "lw"
            have e60 : decide (xs.length < 60) = decide ((ys.length : Int) < 60) := by
              rw [Bool.eq_iff_iff, decide_eq_true_eq, decide_eq_true_eq]; omega
            refine ifnp (by rw [e60]) ?_
            walk_at "lw"
            refine if2 (fun h60 => ?_) (fun h60 => ?_)
            · walk_at "lw"
              refine g_tyL hd13 ?_
              walk_at "lw"
              refine g_rix (SqL.of hd13) (atI_nat hyy) ?_
              walk_at "lw"
              refine g_append hd13 (by omega) fun H14 h14 k14 => ?_
              have st14 : Stp (fun i => i = 2) c12 c12 H13 H14 := Stp.ch hd13 c12d (fun xs z => by cases z) h14 k14
              rw [if_pos (by omega)] at W13
              have lx13 := (D12.lx.append Lv).frame st13
              have ly13 := (D12.ly.append Ly).frame st13
              walk_at "lw"
              refine ifn (by decide) ?_
              walk_at "lw"
              exact ⟨_, _, _, _, _, _, _, _, _, _, d, l, c12, _, _, _, rfl, (S12.frame st13 (by decide)).frame st14 (by decide), W13.frame st14 (by decide), c12d, h14, lx13.frame st14, ly13.frame st14, by rw [List.length_append]; show _ + 1 ≤ 60; omega⟩
            · walk_at "lw"
              rw [if_neg (by omega)] at W13
              refine ifn (by decide) ?_
              walk_at "lw"
              exact ⟨_, _, _, _, _, _, _, _, _, _, d, l, c12, _, _, _, rfl, S12.frame st13 (by decide), W13, c12d, hd13, D12.lx.frame st13, D12.ly.frame st13, hn⟩
          · walk_at "lw"
            refine ifn (by decide) ?_
            walk_at "lw"
            refine ifn (by decide) ?_
            walk_at "lw"
            refine ifn (by decide) ?_
            walk_at "lw"
            refine ifn (by decide) ?_
            walk_at "lw"
            refine ifp rfl ?_
            walk_at "lw"
            refine ⟨c12, S, 9, rfl, S12, by decide, by decide, fun plc c13 H13 p0 p1 S13 st13 => ?_⟩
            have D13 := D12.frame st13 (by decide) (by decide)
            obtain ⟨pl, rfl⟩ := Int.eq_ofNat_of_zero_le p0
            walk_at "lw"
            refine ⟨c13, S, 3, rfl, S13, by decide, by decide, fun q c14 H14 q0 q1 S14 st14 => ?_⟩
            have D14 := D13.frame st14 (by decide) (by decide)
            obtain ⟨ch, hch, hcat⟩ := at_in (xs := [97, 98, 126]) (i := q) q0 q1
            have hch' : ch < 0x110000 := by
              have : ∀ x ∈ [97, 98, 126], x < 0x110000 := by decide
              exact this ch (List.mem_of_getElem? hch)
            refine g_rixS (by decide +kernel) (ch := ch) (by rw [show ("ab~" : Str) = SX.S [97, 98, 126] by decide +kernel]; exact hcat) ?_
            walk_at "lw"
            refine g_rix (SqL.of D14.hd) (atI_nat hyy) ?_
            obtain ⟨t2, tb2, rfl, ht2, htb2, gb2, ob2⟩ := (Ly.frame st13).frame st14
            refine ⟨t2, _, rfl, SqT.of ht2, rfl, _, _, rfl, ?_⟩
            walk_at "lw"
            refine ⟨_, _, rfl, ?_⟩
            walk_at "lw"
            refine ⟨_, _, rfl, ?_⟩
            walk_at "lw"
            refine ⟨rfl, ?_⟩
            walk_at "lw"
            refine ⟨tb2, e.2.2, pl, ch, rfl, htb2, gb2, fun a15 b15 H15 sp15 s15 h15 => ?_⟩
            have st15 : Stp (fun _ => False) c14 c14 H14 H15 := Stp.same s15
            have D15 := D14.frame st15 (by decide) (by decide)
            have S15 := S14.frame st15 (by decide)
            obtain ⟨_, _, ⟨dx15, hp15⟩, _⟩ := D15.W
            walk_at "lw"
            refine g_rmeth hp15 (f_Wire_no (by decide +kernel)) ?_
            walk_at "lw"
            refine ⟨c14, p, l, xs, j, pl, ch, v, e.1, e.2.1, e.2.2, rfl, D15.W, by omega, hv, ((Lv.frame st13).frame st14).frame st15, hch', fun v' b16 H16 sp16 L16 W16 st16 => ?_⟩
            have eb : b16 = b15 := sp16.uniq sp15
            subst eb
            walk_at "lw"
            have h15' := st16.tup _ _ h15
            have htb16 := st16.tup _ _ (s15 _ _ htb2)
            refine ⟨_, _, dp_body h15', dp_body htb16, sh_body (sp15.okb hch' ob2), sh_body ob2, ?_⟩
            walk_at "lw"
            refine ifnp rfl ?_
            walk_at "lw"
            refine g_ktup (by show 3 ≤ 100; decide) fun t17 H17 n17 s17 h17 => ?_
            have st17 : Stp (fun _ => False) c14 c14 H16 H17 := Stp.same s17
            have hd17 : H17 d = some (.lst ys) := s17 _ _ (st16.keep _ _ D15.hd (by rw [D15.cd]; decide))
            walk_at "lw"
            refine g_setL (n := j) hd17 (by unfold ixN; rw [if_pos (by omega), if_pos (by omega), Int.toNat_natCast]) ?_
            generalize hG : upd H17 d (.lst (ys.set j (.ref t17))) = H18
            have h18d : H18 d = some (.lst (ys.set j (.ref t17))) := by rw [← hG]; exact upd_same
            have h18 : ∀ b, b ≠ d → H18 b = H17 b := fun b hb => by rw [← hG]; exact upd_ne hb
            have st18 : Stp (fun i => i = 2) c14 c14 H17 H18 := Stp.ch hd17 D15.cd (fun xs z => by cases z) h18d h18
            have L17 : LetAt H17 (.ref t17) (e.1, e.2.1, b16) := ⟨t17, a15, rfl, h17, s17 _ _ h15', sp15.gb gb2, sp15.okb hch' ob2⟩
            have lx17 := (((D15.lx.frame st16).set L16 j).frame st17).frame st18
            have ly17 := (((D15.ly.frame st16).frame st17).set L17 j).frame st18
            walk_at "lw"
            exact ⟨_, _, _, _, _, _, _, _, _, _, d, l, c14, _, _, _, rfl, ((S15.frame st16 (by decide)).frame st17 (by decide)).frame st18 (by decide), (W16.frame st17 (by decide)).frame st18 (by decide), D15.cd, h18d, lx17, ly17, by rw [List.length_set]; exact hn⟩
      · rintro σ H12 ⟨a5, a6, a7, a8, a9, a10, a11, a12, a13, a14, d, l, c, xs, ys, ls, rfl, S12, D12⟩
        obtain ⟨_, _, ⟨dx, hp⟩, hl⟩ := D12.W
        refine g_ifs ?_
        walk_at "lw"
        refine g_rfld hp T.cl_Wire T.na_Wire_letters f_Wire_letters ?_
        walk_at "lw"
        refine ⟨_, _, .lst (SqL.of hl) (dp_lets D12.lx), .lst (SqL.of D12.hd) (dp_lets D12.ly), shs (okb_all D12.lx), shs (okb_all D12.ly), ?_⟩
        rw [eqv_same (shs (okb_all D12.lx)), Bool.not_true]
        walk_at "lw"
        refine ifnp rfl ?_
        walk_at "lw"
        exact ⟨_, _, _, _, _, _, _, _, _, _, d, l, c, _, _, _, rfl, S12, D12⟩
    · intro σ H6 _
      walk_at "lw"
      exact k H6
end
end Lw

namespace Lw
open PySem L2
open PyProof.Rows (envOfC)
theorem all_mk {l : PySem.W.OpenLaw} {w : World} {K : PySem.W.Frag} {h : Heap} {mg : Str → Option Value} {fa C_Wire a_PLACES f_Wire___init__ f_Wire_send f_Wire_deliver f_Wire_lose f_Wire_double f_Wire_spoil f_spoilt_body f__law_state f__law_take f__law_bits f__law_text f__law_body f__law_spoilt f_law : Addr} {od_Wire___init__ an_Wire___init__ : Option Addr} {sl_Wire___init__ : Array (Option Value)} {oc_Wire___init__ kV_Wire___init__ dc_Wire___init__ pm_Wire___init__ cd_Wire___init__ ct_Wire___init__ : Value} {od_Wire_send an_Wire_send : Option Addr} {sl_Wire_send : Array (Option Value)} {oc_Wire_send kV_Wire_send dc_Wire_send pm_Wire_send cd_Wire_send ct_Wire_send : Value} {od_Wire_deliver an_Wire_deliver : Option Addr} {sl_Wire_deliver : Array (Option Value)} {oc_Wire_deliver kV_Wire_deliver dc_Wire_deliver pm_Wire_deliver cd_Wire_deliver ct_Wire_deliver : Value} {od_Wire_lose an_Wire_lose : Option Addr} {sl_Wire_lose : Array (Option Value)} {oc_Wire_lose kV_Wire_lose dc_Wire_lose pm_Wire_lose cd_Wire_lose ct_Wire_lose : Value} {od_Wire_double an_Wire_double : Option Addr} {sl_Wire_double : Array (Option Value)} {oc_Wire_double kV_Wire_double dc_Wire_double pm_Wire_double cd_Wire_double ct_Wire_double : Value} {od_Wire_spoil an_Wire_spoil : Option Addr} {sl_Wire_spoil : Array (Option Value)} {oc_Wire_spoil kV_Wire_spoil dc_Wire_spoil pm_Wire_spoil cd_Wire_spoil ct_Wire_spoil : Value} {od_spoilt_body an_spoilt_body : Option Addr} {sl_spoilt_body : Array (Option Value)} {oc_spoilt_body kV_spoilt_body dc_spoilt_body pm_spoilt_body cd_spoilt_body ct_spoilt_body : Value} {od__law_state an__law_state : Option Addr} {sl__law_state : Array (Option Value)} {oc__law_state kV__law_state dc__law_state pm__law_state cd__law_state ct__law_state : Value} {od__law_take an__law_take : Option Addr} {sl__law_take : Array (Option Value)} {oc__law_take kV__law_take dc__law_take pm__law_take cd__law_take ct__law_take : Value} {od__law_bits an__law_bits : Option Addr} {sl__law_bits : Array (Option Value)} {oc__law_bits kV__law_bits dc__law_bits pm__law_bits cd__law_bits ct__law_bits : Value} {od__law_text an__law_text : Option Addr} {sl__law_text : Array (Option Value)} {oc__law_text kV__law_text dc__law_text pm__law_text cd__law_text ct__law_text : Value} {od__law_body an__law_body : Option Addr} {sl__law_body : Array (Option Value)} {oc__law_body kV__law_body dc__law_body pm__law_body cd__law_body ct__law_body : Value} {od__law_spoilt an__law_spoilt : Option Addr} {sl__law_spoilt : Array (Option Value)} {oc__law_spoilt kV__law_spoilt dc__law_spoilt pm__law_spoilt cd__law_spoilt ct__law_spoilt : Value} {od_law an_law : Option Addr} {sl_law : Array (Option Value)} {oc_law kV_law dc_law pm_law cd_law ct_law : Value} {t_MOST_LETTERS : Tok} {es_PLACES : Array DictEntry} {n_PLACES : Nat} {t_part t_put t_piece : Tok} (X : K.In h) (G : h.Ns mainGlobals mg) (hfa : mg "law" = some (.ref fa))
    (a_Wire : PySem.W.nsIn K mainGlobals "Wire" = some (some (.ref C_Wire)))
    (pg_Wire : PySem.W.plainGet K C_Wire Str.empty = true)
    (hd_Wire : PySem.W.hasDictIn K C_Wire = true)
    (po_Wire : PySem.W.plainOver K C_Wire = true)
    (sa_Wire : PySem.W.findIn K (.ref C_Wire) "__setattr__" = some (some (.builtin "object.__setattr__")))
    (mk_Wire : PySem.W.makesIn K C_Wire = true)
    (kc_Wire : PySem.W.keepIn K (.ref C_Wire) = true)
    (na_Wire_letters : PySem.W.findIn K (.ref C_Wire) "letters" = some none)
    (a_Wire___init__ : PySem.W.findIn K (.ref C_Wire) "__init__" = some (some (.ref f_Wire___init__)))
    (i_Wire___init__ : PySem.W.isFn K (.ref f_Wire___init__) = true)
    (l_Wire___init__ : K.lookup f_Wire___init__ = some ⟨oc_Wire___init__, od_Wire___init__, .func (PySem.W.fnOf "__init__" "Wire.__init__" (defArgs s_Wire___init__) (defBody s_Wire___init__) (defScope s_Wire___init__) .none kV_Wire___init__ dc_Wire___init__ pm_Wire___init__ an_Wire___init__ cd_Wire___init__ ct_Wire___init__), sl_Wire___init__⟩)
    (c_Wire___init__ : PySem.W.codeIn K cd_Wire___init__ "Wire.__init__" = true)
    (k_Wire___init__ : PySem.W.keepIn K (.ref f_Wire___init__) = true)
    (a_Wire_send : PySem.W.findIn K (.ref C_Wire) "send" = some (some (.ref f_Wire_send)))
    (i_Wire_send : PySem.W.isFn K (.ref f_Wire_send) = true)
    (l_Wire_send : K.lookup f_Wire_send = some ⟨oc_Wire_send, od_Wire_send, .func (PySem.W.fnOf "send" "Wire.send" (defArgs s_Wire_send) (defBody s_Wire_send) (defScope s_Wire_send) .none kV_Wire_send dc_Wire_send pm_Wire_send an_Wire_send cd_Wire_send ct_Wire_send), sl_Wire_send⟩)
    (c_Wire_send : PySem.W.codeIn K cd_Wire_send "Wire.send" = true)
    (k_Wire_send : PySem.W.keepIn K (.ref f_Wire_send) = true)
    (a_Wire_deliver : PySem.W.findIn K (.ref C_Wire) "deliver" = some (some (.ref f_Wire_deliver)))
    (i_Wire_deliver : PySem.W.isFn K (.ref f_Wire_deliver) = true)
    (l_Wire_deliver : K.lookup f_Wire_deliver = some ⟨oc_Wire_deliver, od_Wire_deliver, .func (PySem.W.fnOf "deliver" "Wire.deliver" (defArgs s_Wire_deliver) (defBody s_Wire_deliver) (defScope s_Wire_deliver) .none kV_Wire_deliver dc_Wire_deliver pm_Wire_deliver an_Wire_deliver cd_Wire_deliver ct_Wire_deliver), sl_Wire_deliver⟩)
    (c_Wire_deliver : PySem.W.codeIn K cd_Wire_deliver "Wire.deliver" = true)
    (k_Wire_deliver : PySem.W.keepIn K (.ref f_Wire_deliver) = true)
    (a_Wire_lose : PySem.W.findIn K (.ref C_Wire) "lose" = some (some (.ref f_Wire_lose)))
    (i_Wire_lose : PySem.W.isFn K (.ref f_Wire_lose) = true)
    (l_Wire_lose : K.lookup f_Wire_lose = some ⟨oc_Wire_lose, od_Wire_lose, .func (PySem.W.fnOf "lose" "Wire.lose" (defArgs s_Wire_lose) (defBody s_Wire_lose) (defScope s_Wire_lose) .none kV_Wire_lose dc_Wire_lose pm_Wire_lose an_Wire_lose cd_Wire_lose ct_Wire_lose), sl_Wire_lose⟩)
    (c_Wire_lose : PySem.W.codeIn K cd_Wire_lose "Wire.lose" = true)
    (k_Wire_lose : PySem.W.keepIn K (.ref f_Wire_lose) = true)
    (a_Wire_double : PySem.W.findIn K (.ref C_Wire) "double" = some (some (.ref f_Wire_double)))
    (i_Wire_double : PySem.W.isFn K (.ref f_Wire_double) = true)
    (l_Wire_double : K.lookup f_Wire_double = some ⟨oc_Wire_double, od_Wire_double, .func (PySem.W.fnOf "double" "Wire.double" (defArgs s_Wire_double) (defBody s_Wire_double) (defScope s_Wire_double) .none kV_Wire_double dc_Wire_double pm_Wire_double an_Wire_double cd_Wire_double ct_Wire_double), sl_Wire_double⟩)
    (c_Wire_double : PySem.W.codeIn K cd_Wire_double "Wire.double" = true)
    (k_Wire_double : PySem.W.keepIn K (.ref f_Wire_double) = true)
    (a_Wire_spoil : PySem.W.findIn K (.ref C_Wire) "spoil" = some (some (.ref f_Wire_spoil)))
    (i_Wire_spoil : PySem.W.isFn K (.ref f_Wire_spoil) = true)
    (l_Wire_spoil : K.lookup f_Wire_spoil = some ⟨oc_Wire_spoil, od_Wire_spoil, .func (PySem.W.fnOf "spoil" "Wire.spoil" (defArgs s_Wire_spoil) (defBody s_Wire_spoil) (defScope s_Wire_spoil) .none kV_Wire_spoil dc_Wire_spoil pm_Wire_spoil an_Wire_spoil cd_Wire_spoil ct_Wire_spoil), sl_Wire_spoil⟩)
    (c_Wire_spoil : PySem.W.codeIn K cd_Wire_spoil "Wire.spoil" = true)
    (k_Wire_spoil : PySem.W.keepIn K (.ref f_Wire_spoil) = true)
    (a_spoilt_body : PySem.W.nsIn K mainGlobals "spoilt_body" = some (some (.ref f_spoilt_body)))
    (l_spoilt_body : K.lookup f_spoilt_body = some ⟨oc_spoilt_body, od_spoilt_body, .func (PySem.W.fnOf "spoilt_body" "spoilt_body" (defArgs s_spoilt_body) (defBody s_spoilt_body) (defScope s_spoilt_body) .none kV_spoilt_body dc_spoilt_body pm_spoilt_body an_spoilt_body cd_spoilt_body ct_spoilt_body), sl_spoilt_body⟩)
    (c_spoilt_body : PySem.W.codeIn K cd_spoilt_body "spoilt_body" = true)
    (k_spoilt_body : PySem.W.keepIn K (.ref f_spoilt_body) = true)
    (a__law_state : PySem.W.nsIn K mainGlobals "_law_state" = some (some (.ref f__law_state)))
    (l__law_state : K.lookup f__law_state = some ⟨oc__law_state, od__law_state, .func (PySem.W.fnOf "_law_state" "_law_state" (defArgs s__law_state) (defBody s__law_state) (defScope s__law_state) .none kV__law_state dc__law_state pm__law_state an__law_state cd__law_state ct__law_state), sl__law_state⟩)
    (c__law_state : PySem.W.codeIn K cd__law_state "_law_state" = true)
    (k__law_state : PySem.W.keepIn K (.ref f__law_state) = true)
    (a__law_take : PySem.W.nsIn K mainGlobals "_law_take" = some (some (.ref f__law_take)))
    (l__law_take : K.lookup f__law_take = some ⟨oc__law_take, od__law_take, .func (PySem.W.fnOf "_law_take" "_law_take" (defArgs s__law_take) (defBody s__law_take) (defScope s__law_take) .none kV__law_take dc__law_take pm__law_take an__law_take cd__law_take ct__law_take), sl__law_take⟩)
    (c__law_take : PySem.W.codeIn K cd__law_take "_law_take" = true)
    (k__law_take : PySem.W.keepIn K (.ref f__law_take) = true)
    (a__law_bits : PySem.W.nsIn K mainGlobals "_law_bits" = some (some (.ref f__law_bits)))
    (l__law_bits : K.lookup f__law_bits = some ⟨oc__law_bits, od__law_bits, .func (PySem.W.fnOf "_law_bits" "_law_bits" (defArgs s__law_bits) (defBody s__law_bits) (defScope s__law_bits) .none kV__law_bits dc__law_bits pm__law_bits an__law_bits cd__law_bits ct__law_bits), sl__law_bits⟩)
    (c__law_bits : PySem.W.codeIn K cd__law_bits "_law_bits" = true)
    (k__law_bits : PySem.W.keepIn K (.ref f__law_bits) = true)
    (a__law_text : PySem.W.nsIn K mainGlobals "_law_text" = some (some (.ref f__law_text)))
    (l__law_text : K.lookup f__law_text = some ⟨oc__law_text, od__law_text, .func (PySem.W.fnOf "_law_text" "_law_text" (defArgs s__law_text) (defBody s__law_text) (defScope s__law_text) .none kV__law_text dc__law_text pm__law_text an__law_text cd__law_text ct__law_text), sl__law_text⟩)
    (c__law_text : PySem.W.codeIn K cd__law_text "_law_text" = true)
    (k__law_text : PySem.W.keepIn K (.ref f__law_text) = true)
    (a__law_body : PySem.W.nsIn K mainGlobals "_law_body" = some (some (.ref f__law_body)))
    (l__law_body : K.lookup f__law_body = some ⟨oc__law_body, od__law_body, .func (PySem.W.fnOf "_law_body" "_law_body" (defArgs s__law_body) (defBody s__law_body) (defScope s__law_body) .none kV__law_body dc__law_body pm__law_body an__law_body cd__law_body ct__law_body), sl__law_body⟩)
    (c__law_body : PySem.W.codeIn K cd__law_body "_law_body" = true)
    (k__law_body : PySem.W.keepIn K (.ref f__law_body) = true)
    (a__law_spoilt : PySem.W.nsIn K mainGlobals "_law_spoilt" = some (some (.ref f__law_spoilt)))
    (l__law_spoilt : K.lookup f__law_spoilt = some ⟨oc__law_spoilt, od__law_spoilt, .func (PySem.W.fnOf "_law_spoilt" "_law_spoilt" (defArgs s__law_spoilt) (defBody s__law_spoilt) (defScope s__law_spoilt) .none kV__law_spoilt dc__law_spoilt pm__law_spoilt an__law_spoilt cd__law_spoilt ct__law_spoilt), sl__law_spoilt⟩)
    (c__law_spoilt : PySem.W.codeIn K cd__law_spoilt "_law_spoilt" = true)
    (k__law_spoilt : PySem.W.keepIn K (.ref f__law_spoilt) = true)
    (a_law : PySem.W.nsIn K mainGlobals "law" = some (some (.ref f_law)))
    (l_law : K.lookup f_law = some ⟨oc_law, od_law, .func (PySem.W.fnOf "law" "law" (defArgs s_law) (defBody s_law) (defScope s_law) .none kV_law dc_law pm_law an_law cd_law ct_law), sl_law⟩)
    (c_law : PySem.W.codeIn K cd_law "law" = true)
    (k_law : PySem.W.keepIn K (.ref f_law) = true)
    (z_abs : PySem.W.nsIn K mainGlobals "abs" = some none)
    (z_int : PySem.W.nsIn K mainGlobals "int" = some none)
    (z_len : PySem.W.nsIn K mainGlobals "len" = some none)
    (z_list : PySem.W.nsIn K mainGlobals "list" = some none)
    (z_range : PySem.W.nsIn K mainGlobals "range" = some none)
    (z_repr : PySem.W.nsIn K mainGlobals "repr" = some none)
    (v_MOST_LETTERS : PySem.W.nsIn K mainGlobals "MOST_LETTERS" = some (some (Value.int 60 t_MOST_LETTERS)))
    (v_PLACES : PySem.W.nsIn K mainGlobals "PLACES" = some (some (.ref a_PLACES)))
    (at_PLACES : K.lookup a_PLACES = some ⟨.type "dict", none, .dict es_PLACES n_PLACES, #[]⟩)
    (p_part : PySem.W.nsIn K a_PLACES "part" = some (some (.int 3 t_part)))
    (p_put : PySem.W.nsIn K a_PLACES "put" = some (some (.int 3 t_put)))
    (p_piece : PySem.W.nsIn K a_PLACES "piece" = some (some (.int 4 t_piece)))
    (p_open : PySem.W.nsIn K a_PLACES "open" = some none)
    (p_kept : PySem.W.nsIn K a_PLACES "kept" = some none)
    (p_name : PySem.W.nsIn K a_PLACES "name" = some none)
    (p_look : PySem.W.nsIn K a_PLACES "look" = some none)
    (p_wrong : PySem.W.nsIn K a_PLACES "wrong" = some none)
    (p_have : PySem.W.nsIn K a_PLACES "have" = some none)
    (lit_PLACES : PySem.W.KeysLit w.params es_PLACES.toList)
    (low_PLACES : (a_PLACES == sysModules) = false)
    : ∃ fd : FuncData, (∀ (s : Shared) (v : Value), BindsTo s fd ⟨[v], []⟩ [("_law_script", v)]) ∧ ∀ base : Heap, K.In base → base.Ns mainGlobals mg → FnOk l.prog w K mg base CX0 4 fa fd ["_law_script"] (spLaw K) := by
  have e := hfa.symm.trans (PySem.W.mg_of X G a_law)
  cases e
  have F_Wire___init__ := fun_mk (st := s_Wire___init__) l_Wire___init__ c_Wire___init__ k_Wire___init__
  have b_Wire___init__ := F_Wire___init__.binds (ps := ["self"]) fun _ _ _ _ _ _ us hl => match us, hl with | [_], _ => rfl
  have F_Wire_send := fun_mk (st := s_Wire_send) l_Wire_send c_Wire_send k_Wire_send
  have b_Wire_send := F_Wire_send.binds (ps := ["self", "letter"]) fun _ _ _ _ _ _ us hl => match us, hl with | [_, _], _ => rfl
  have F_Wire_deliver := fun_mk (st := s_Wire_deliver) l_Wire_deliver c_Wire_deliver k_Wire_deliver
  have b_Wire_deliver := F_Wire_deliver.binds (ps := ["self", "index"]) fun _ _ _ _ _ _ us hl => match us, hl with | [_, _], _ => rfl
  have F_Wire_lose := fun_mk (st := s_Wire_lose) l_Wire_lose c_Wire_lose k_Wire_lose
  have b_Wire_lose := F_Wire_lose.binds (ps := ["self", "index"]) fun _ _ _ _ _ _ us hl => match us, hl with | [_, _], _ => rfl
  have F_Wire_double := fun_mk (st := s_Wire_double) l_Wire_double c_Wire_double k_Wire_double
  have b_Wire_double := F_Wire_double.binds (ps := ["self", "index"]) fun _ _ _ _ _ _ us hl => match us, hl with | [_, _], _ => rfl
  have F_Wire_spoil := fun_mk (st := s_Wire_spoil) l_Wire_spoil c_Wire_spoil k_Wire_spoil
  have b_Wire_spoil := F_Wire_spoil.binds (ps := ["self", "index", "place", "character"]) fun _ _ _ _ _ _ us hl => match us, hl with | [_, _, _, _], _ => rfl
  have F_spoilt_body := fun_mk (st := s_spoilt_body) l_spoilt_body c_spoilt_body k_spoilt_body
  have b_spoilt_body := F_spoilt_body.binds (ps := ["body", "place", "character"]) fun _ _ _ _ _ _ us hl => match us, hl with | [_, _, _], _ => rfl
  have F__law_state := fun_mk (st := s__law_state) l__law_state c__law_state k__law_state
  have b__law_state := F__law_state.binds (ps := ["_law_script"]) fun _ _ _ _ _ _ us hl => match us, hl with | [_], _ => rfl
  have F__law_take := fun_mk (st := s__law_take) l__law_take c__law_take k__law_take
  have b__law_take := F__law_take.binds (ps := ["_law_state_here", "_law_most"]) fun _ _ _ _ _ _ us hl => match us, hl with | [_, _], _ => rfl
  have F__law_bits := fun_mk (st := s__law_bits) l__law_bits c__law_bits k__law_bits
  have b__law_bits := F__law_bits.binds (ps := ["_law_state_here", "_law_count"]) fun _ _ _ _ _ _ us hl => match us, hl with | [_, _], _ => rfl
  have F__law_text := fun_mk (st := s__law_text) l__law_text c__law_text k__law_text
  have b__law_text := F__law_text.binds (ps := ["_law_state_here", "_law_most"]) fun _ _ _ _ _ _ us hl => match us, hl with | [_, _], _ => rfl
  have F__law_body := fun_mk (st := s__law_body) l__law_body c__law_body k__law_body
  have b__law_body := F__law_body.binds (ps := ["_law_state_here"]) fun _ _ _ _ _ _ us hl => match us, hl with | [_], _ => rfl
  have F__law_spoilt := fun_mk (st := s__law_spoilt) l__law_spoilt c__law_spoilt k__law_spoilt
  have b__law_spoilt := F__law_spoilt.binds (ps := ["_law_body_here", "_law_place", "_law_character"]) fun _ _ _ _ _ _ us hl => match us, hl with | [_, _, _], _ => rfl
  have F_law := fun_mk (st := s_law) l_law c_law k_law
  have T : Txt w K mg C_Wire a_PLACES := ⟨⟨pg_Wire, hd_Wire, po_Wire, sa_Wire⟩,
    na_Wire_letters,
    ⟨_, _, F_Wire___init__, ⟨mk_Wire, a_Wire___init__, i_Wire___init__, kc_Wire⟩, PySem.W.mg_of X G a_Wire, b_Wire___init__⟩,
    ⟨_, _, F_Wire_send, ⟨a_Wire_send, i_Wire_send, k_Wire_send⟩, b_Wire_send⟩,
    ⟨_, _, F_Wire_deliver, ⟨a_Wire_deliver, i_Wire_deliver, k_Wire_deliver⟩, b_Wire_deliver⟩,
    ⟨_, _, F_Wire_lose, ⟨a_Wire_lose, i_Wire_lose, k_Wire_lose⟩, b_Wire_lose⟩,
    ⟨_, _, F_Wire_double, ⟨a_Wire_double, i_Wire_double, k_Wire_double⟩, b_Wire_double⟩,
    ⟨_, _, F_Wire_spoil, ⟨a_Wire_spoil, i_Wire_spoil, k_Wire_spoil⟩, b_Wire_spoil⟩,
    ⟨_, _, F_spoilt_body, PySem.W.mg_of X G a_spoilt_body, b_spoilt_body⟩,
    ⟨_, _, F__law_state, PySem.W.mg_of X G a__law_state, b__law_state⟩,
    ⟨_, _, F__law_take, PySem.W.mg_of X G a__law_take, b__law_take⟩,
    ⟨_, _, F__law_bits, PySem.W.mg_of X G a__law_bits, b__law_bits⟩,
    ⟨_, _, F__law_text, PySem.W.mg_of X G a__law_text, b__law_text⟩,
    ⟨_, _, F__law_body, PySem.W.mg_of X G a__law_body, b__law_body⟩,
    ⟨_, _, F__law_spoilt, PySem.W.mg_of X G a__law_spoilt, b__law_spoilt⟩,
    PySem.W.mg_none_of X G z_abs,
    PySem.W.mg_none_of X G z_int,
    PySem.W.mg_none_of X G z_len,
    PySem.W.mg_none_of X G z_list,
    PySem.W.mg_none_of X G z_range,
    PySem.W.mg_none_of X G z_repr,
    ⟨_, PySem.W.mg_of X G v_MOST_LETTERS, ⟨_, rfl⟩⟩,
    ⟨_, _, at_PLACES, lit_PLACES, low_PLACES⟩,
    (by
      intro k hk
      simp only [words9, List.mem_cons, List.not_mem_nil, or_false] at hk
      rcases hk with rfl | rfl | rfl | rfl | rfl | rfl | rfl | rfl | rfl
      · exact ⟨_, V.int 3, p_part, ⟨_, rfl⟩, by decide +kernel⟩
      · exact ⟨_, V.int 3, p_put, ⟨_, rfl⟩, by decide +kernel⟩
      · exact ⟨_, V.int 4, p_piece, ⟨_, rfl⟩, by decide +kernel⟩
      · exact ⟨_, V.non, p_open, rfl, by decide +kernel⟩
      · exact ⟨_, V.non, p_kept, rfl, by decide +kernel⟩
      · exact ⟨_, V.non, p_name, rfl, by decide +kernel⟩
      · exact ⟨_, V.non, p_look, rfl, by decide +kernel⟩
      · exact ⟨_, V.non, p_wrong, rfl, by decide +kernel⟩
      · exact ⟨_, V.non, p_have, rfl, by decide +kernel⟩),
    ⟨_, PySem.W.mg_of X G v_PLACES, rfl⟩⟩
  exact ⟨PySem.W.fnOf "law" "law" (defArgs s_law) (defBody s_law) (defScope s_law) .none kV_law dc_law pm_law an_law cd_law ct_law, fun s v => .of_eq rfl, fun base _ _ => ok_law T F_law⟩
theorem walk {l : PySem.W.OpenLaw} {q : Program} {loose : List Str} {XP : (Str → Option Value) → Heap → Prop} {YP : World → Heap → Prop} {d : DefRec} {K : Params → PySem.W.Frag} (hn : l.most = some 63) (hdf : d.params.defaults = [])
    (hY : ∀ (w : World) (h : Heap), YP w h → (K w.params).In h)
    (F : ∀ (w : World) (mg : Str → Option Value) (fa : Addr) (h : Heap), (K w.params).In h → h.Ns mainGlobals mg → mg d.name = some (.ref fa) →
      ∃ fd : FuncData, (∀ (s : Shared) (u : Value), BindsTo s fd ⟨[u], []⟩ [("_law_script", u)]) ∧ ∀ base : Heap, (K w.params).In base → base.Ns mainGlobals mg → FnOk l.prog w (K w.params) mg base CX0 4 fa fd ["_law_script"] (spLaw (K w.params))) :
    PySem.W.WalkO q loose XP YP l.row.toRowW d [] (fun f vs => PySem.call f vs) :=
  L2.walk_of (n := 63) (k := 4) (x := "_law_script") (CX := fun _ => CX0) (sp := fun w => spLaw (K w.params)) hn (by decide) hdf ⟨rfl, by decide, by decide⟩ hY F (fun _ _ a ns hl _ hS => ⟨a, ns, rfl, hS, hl, fun _ => rfl⟩) fun _ _ _ _ _ z => z
end Lw
open PySem PySem.W PyProof.Rows
set_option maxRecDepth 100000 in
set_option maxHeartbeats 0 in
theorem PySem.Challenge.cw_layerwharf_k20_wire_holds : PySem.Challenge.rw_layerwharf_k20_wire.Holds := by
  w_on; o_law; k_head; (case hw => w_witness2)
  k_fill
  refine Lw.walk (l := PySem.Challenge.rw_layerwharf_k20_wire) rfl rfl (fun w h Y => PySem.W.kIn_of Y) ?F
  case F =>
    intro w mg fa h KX G hmg
    refine' Lw.all_mk KX G hmg ?a_Wire ?pg_Wire ?hd_Wire ?po_Wire ?sa_Wire ?mk_Wire ?kc_Wire ?na_Wire_letters ?a_Wire___init__ ?i_Wire___init__ ?l_Wire___init__ ?c_Wire___init__ ?k_Wire___init__ ?a_Wire_send ?i_Wire_send ?l_Wire_send ?c_Wire_send ?k_Wire_send ?a_Wire_deliver ?i_Wire_deliver ?l_Wire_deliver ?c_Wire_deliver ?k_Wire_deliver ?a_Wire_lose ?i_Wire_lose ?l_Wire_lose ?c_Wire_lose ?k_Wire_lose ?a_Wire_double ?i_Wire_double ?l_Wire_double ?c_Wire_double ?k_Wire_double ?a_Wire_spoil ?i_Wire_spoil ?l_Wire_spoil ?c_Wire_spoil ?k_Wire_spoil ?a_spoilt_body ?l_spoilt_body ?c_spoilt_body ?k_spoilt_body ?a__law_state ?l__law_state ?c__law_state ?k__law_state ?a__law_take ?l__law_take ?c__law_take ?k__law_take ?a__law_bits ?l__law_bits ?c__law_bits ?k__law_bits ?a__law_text ?l__law_text ?c__law_text ?k__law_text ?a__law_body ?l__law_body ?c__law_body ?k__law_body ?a__law_spoilt ?l__law_spoilt ?c__law_spoilt ?k__law_spoilt ?a_law ?l_law ?c_law ?k_law ?z_abs ?z_int ?z_len ?z_list ?z_range ?z_repr ?v_MOST_LETTERS ?v_PLACES ?at_PLACES ?p_part ?p_put ?p_piece ?p_open ?p_kept ?p_name ?p_look ?p_wrong ?p_have ?lit_PLACES ?low_PLACES
    (case a_Wire => k_is)
    (case pg_Wire => k_is)
    (case hd_Wire => k_is)
    (case po_Wire => k_is)
    (case sa_Wire => k_is)
    (case mk_Wire => k_is)
    (case kc_Wire => k_is)
    (case na_Wire_letters => k_is)
    (case a_Wire___init__ => k_is)
    (case i_Wire___init__ => k_is)
    (case l_Wire___init__ => k_is)
    (case c_Wire___init__ => k_is)
    (case k_Wire___init__ => k_is)
    (case a_Wire_send => k_is)
    (case i_Wire_send => k_is)
    (case l_Wire_send => k_is)
    (case c_Wire_send => k_is)
    (case k_Wire_send => k_is)
    (case a_Wire_deliver => k_is)
    (case i_Wire_deliver => k_is)
    (case l_Wire_deliver => k_is)
    (case c_Wire_deliver => k_is)
    (case k_Wire_deliver => k_is)
    (case a_Wire_lose => k_is)
    (case i_Wire_lose => k_is)
    (case l_Wire_lose => k_is)
    (case c_Wire_lose => k_is)
    (case k_Wire_lose => k_is)
    (case a_Wire_double => k_is)
    (case i_Wire_double => k_is)
    (case l_Wire_double => k_is)
    (case c_Wire_double => k_is)
    (case k_Wire_double => k_is)
    (case a_Wire_spoil => k_is)
    (case i_Wire_spoil => k_is)
    (case l_Wire_spoil => k_is)
    (case c_Wire_spoil => k_is)
    (case k_Wire_spoil => k_is)
    (case a_spoilt_body => k_is)
    (case l_spoilt_body => k_is)
    (case c_spoilt_body => k_is)
    (case k_spoilt_body => k_is)
    (case a__law_state => k_is)
    (case l__law_state => k_is)
    (case c__law_state => k_is)
    (case k__law_state => k_is)
    (case a__law_take => k_is)
    (case l__law_take => k_is)
    (case c__law_take => k_is)
    (case k__law_take => k_is)
    (case a__law_bits => k_is)
    (case l__law_bits => k_is)
    (case c__law_bits => k_is)
    (case k__law_bits => k_is)
    (case a__law_text => k_is)
    (case l__law_text => k_is)
    (case c__law_text => k_is)
    (case k__law_text => k_is)
    (case a__law_body => k_is)
    (case l__law_body => k_is)
    (case c__law_body => k_is)
    (case k__law_body => k_is)
    (case a__law_spoilt => k_is)
    (case l__law_spoilt => k_is)
    (case c__law_spoilt => k_is)
    (case k__law_spoilt => k_is)
    (case a_law => k_is)
    (case l_law => k_is)
    (case c_law => k_is)
    (case k_law => k_is)
    (case z_abs => k_is)
    (case z_int => k_is)
    (case z_len => k_is)
    (case z_list => k_is)
    (case z_range => k_is)
    (case z_repr => k_is)
    (case v_MOST_LETTERS => k_is)
    (case v_PLACES => k_is)
    (case at_PLACES => k_is)
    (case p_part => k_is)
    (case p_put => k_is)
    (case p_piece => k_is)
    (case p_open => k_is)
    (case p_kept => k_is)
    (case p_name => k_is)
    (case p_look => k_is)
    (case p_wrong => k_is)
    (case p_have => k_is)
    (case lit_PLACES => exact ⟨⟨_, _, rfl, rfl⟩, ⟨_, _, rfl, rfl⟩, ⟨_, _, rfl, rfl⟩, trivial⟩)
    (case low_PLACES => first | rfl | decide)
