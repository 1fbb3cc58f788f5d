import PyProof.Rows.All
import Wide.All
import OpenK.AllK
import Wide.FinOn
import PyProof.EqAt
import PyProof.EqKinds
import PyProof.TupleCall
import HandS.ForMost
import HandS.Exc
import HandS.ExcOwn
import HandS.TryMany
import HandS.Defaults
import KE.KExcStr
import PyProof.ExcRepr
import PyProof.ReprDict
import HandS.IsInst
import PyProof.ReprReads
import PyProof.StrLawsRepr
import PyProof.ReprLen
import HandS.SortInts
import HandS.Wide
import HandS.WideBits
import HandS.TupAny
import HandS.Flow
import HandS.Conv
import HandS.Deep
import HandS.NoneIn
import HandS.Codes
import HandS.Style
import HandS.Small
import HandS.RaiseMore
import KE.KExcIs
import HandS.ExcIs
import HandS.Dict
import HandS.Iter
import HandS.ExcInit
import HandS.ExcValue
import HandS.ExcField
import OpenK.KCls
import HandS.Text
import HandS.Steps
import HandS.WordsDict
import HandS.More
import KE.DataFind
import KE.KStrBytes
import PyProof.InstEq
import PyProof.FactsAll.dict
import HandS.SortRule
import PyProof.NeKinds
import PyProof.InstNe
import HandS.FStr
import HandS.TupMul
import HandS.TryOnly
import HandS.DictTup
import KE.KDictPairs
import KE.KDictCopyH
import KE.KDictOf
import HandS.ListItems
import HandS.SetFor
import HandS.Strs
import KE.KDictDisplayH
import KE.KEqDict
import PySem.Challenge.RW_slantworth_k51_whole_quotients_undo_prod
set_option Elab.async false
set_option linter.all false
set_option maxRecDepth 100000
set_option maxHeartbeats 4000000
namespace Z
open PySem PySem.Spec PyProof.Rows L2

abbrev St := L2.St
structure Wd where
  P : Program
  w : World
  K : PySem.W.Frag
  mg : Str → Option Value
  base : Heap
/-- the ground on which a body stands -/
abbrev wdOf (X : Cx) : Wd := { P := X.prog, w := X.w, K := X.K, mg := X.mg, base := X.base }
/-- room, and no guard -/
structure Rm (k : Nat) (A : Around) : Prop where
  r : Room k A
  g : A.guards = some []
theorem Rm.less {j k : Nat} {A : Around} (m : Rm k A) (h : j ≤ k) : Rm j A := { r := m.r.mono h, g := m.g }
theorem Rm.down {k : Nat} {A : Around} (m : Rm (k + 1) A) (env : Env) : Rm k (A.deeper env) := { r := m.r.deeper env, g := m.g }
theorem made_guards {A : Around} {C : Addr} {us : List Value} {kw : List (Str × Value)} (h : A.guards = some []) :
    (A.under (.builtin "type.__call__" ⟨.ref C :: us, kw⟩)).guards = some [] := by
  show pushGuards (Code.guards (.builtin "type.__call__" ⟨.ref C :: us, kw⟩)) A.guards = some []
  rw [h]
  first | rfl | (simp [Code.guards, Code.isGuard, guardIds, pushGuards]; done)
theorem Rm.made {k : Nat} {A : Around} (m : Rm (k + 1) A) (C : Addr) (us : List Value) (kw : List (Str × Value)) :
    Rm k (A.under (.builtin "type.__call__" ⟨.ref C :: us, kw⟩)) := { r := m.r.make C us kw, g := made_guards m.g }

/-- a def's promise -/
structure Fn (W : Wd) (k : Nat) (f : Addr) (fd : FuncData) (ps : List Str) (sp : Sp) : Prop where
  n : ∀ vs H Q E, sp vs H Q E → vs.length = ps.length
  go : ∀ (A : Around) (out : List Env) (s : Shared) (H : Hp) (as : Args) (us : List Value) (vs : List V) (Q : VK) (E : XK),
    Rm k A → Env0 W.P W.w W.K W.mg W.base A out s H → BindsTo s fd as (ps.zip us) → Vals vs us → sp vs H Q E →
    codeAny (model W.P W.w) A (.call (.ref f) as) (CR (L2.CX W.P W.w) out W.P W.w H s Q E) s

/-- what a caller knows of a def by its name: n written values, the keywords ks, put by gV into the parameters' order -/
structure Cal (W : Wd) (k : Nat) (x : Str) (n : Nat) (ks : List Str) (gV : List V → List V → List V) (sp : Sp) : Prop where
  ex : ∃ (f : Addr) (fd : FuncData) (ps : List Str) (g : List Value → List Value → List Value),
    Fn W k f fd ps sp ∧ W.mg x = some (.ref f) ∧ PySem.W.keepIn W.K (.ref f) = true ∧ KBn W.K fd ps n ks g gV
/-- .. of a method of the class at C (the written values begin with the instance) -/
structure Met (W : Wd) (k : Nat) (C : Addr) (m : Str) (n : Nat) (ks : List Str) (gV : List V → List V → List V) (sp : Sp) : Prop where
  cl : Cls W.K C
  ex : ∃ (f : Addr) (fd : FuncData) (ps : List Str) (g : List Value → List Value → List Value),
    Fn W k f fd ps sp ∧ Meth W.K C m f ∧ KBn W.K fd ps n ks g gV
/-- .. of a class with an __init__ -/
structure Mak (W : Wd) (k : Nat) (x : Str) (C : Addr) (n : Nat) (ks : List Str) (gV : List V → List V → List V) (sp : Sp) : Prop where
  ex : ∃ (f : Addr) (fd : FuncData) (ps : List Str) (g : List Value → List Value → List Value),
    Fn W k f fd ps sp ∧ Mk W.K C f ∧ W.mg x = some (.ref C) ∧ KBn W.K fd ps n ks g gV

/-- the reading of a call: t the written arguments, tk the keywords' -/
def tC2 (n m : Nat) (gV : List V → List V → List V) (sp : Sp) (E : St → XK) (t tk : TA) : TE := fun σ H Q =>
  t σ H fun vs H1 => tk σ H1 fun zs H2 => vs.length = n ∧ zs.length = m ∧ sp (gV vs zs) H2 Q (E σ)
def tM2 (C : Addr) (m : Str) (n j : Nat) (gV : List V → List V → List V) (sp : Sp) (E : St → XK) (to : TE) (t tk : TA) : TE := fun σ H Q =>
  to σ H fun x H0 => ∃ a dx fs, x = .ref a ∧ H0 a = some (.ins C dx fs) ∧ fs.lookup m = none ∧
    t σ H0 fun vs H1 => tk σ H1 fun zs H2 => vs.length + 1 = n ∧ zs.length = j ∧ sp (gV (x :: vs) zs) H2 Q (E σ)
def tK2 (C : Addr) (n m : Nat) (gV : List V → List V → List V) (sp : Sp) (E : St → XK) (t tk : TA) : TE := fun σ H Q =>
  t σ H fun vs H1 => tk σ H1 fun zs H2 => vs.length + 1 = n ∧ zs.length = m ∧
    ∀ x dx, H2 x = none → H2 dx = none → dx ≠ x →
      sp (gV (.ref x :: vs) zs) (upd (upd H2 dx (.own x)) x (.ins C dx [])) (fun v H3 => v = .non ∧ Q (.ref x) H3) (E σ)

section
variable {X : Cx} {k j n : Nat} {f C : Addr} {fd : FuncData} {ps ks : List Str} {sp : Sp} {E : St → XK} {x m : Str} {p pos apos : Pos}
  {e o : Expr} {es : List Expr} {kws : List Keyword} {t tk : TA} {to : TE} {gV : List V → List V → List V} {g : List Value → List Value → List Value}
variable {pins : List (Addr × Obj)} {σ : St} {H : Hp} {s : Shared} {Q : VK}

/-- the end of a call within a body -/
theorem back {E0 : XK} {s0 : Shared} {H0 : Hp} {R : Result} {s' : Shared} {Q' : VK} {B : Value → Shared → Prop}
    (I : Inv X pins σ H0 s0) (hx : ∀ u s', L2.CX X.prog X.w X.stack H0 s0 E0 u s' → X.xe u s')
    (hB : ∀ u s', EP X pins σ Q' u s' → B u s') (h : CR (L2.CX X.prog X.w) X.stack X.prog X.w H0 s0 Q' E0 R s') :
    match (motive := Result → Prop) R with | .ok (.ret u) => B u s' | .ok _ => False | .error u => X.xe u s' := by
  match R, h with
  | .error u, h => exact hx u s' h
  | .ok (.ret u), h => exact hB u s' (I.after h)
  | .ok .next, h => exact False.elim h
  | .ok .brk, h => exact False.elim h
  | .ok .cont, h => exact False.elim h

theorem run2 {us ws : List Value} {vs zs : List V} (F : Fn (wdOf X) k f fd ps sp) (hr : Rm k X.A) (hb : KBn X.K fd ps n ks g gV)
    (hx : PassesAt (L2.CX X.prog X.w) X σ (E σ)) (I : Inv X pins σ H s) (r : Vals vs us) (rz : Vals zs ws) (l1 : vs.length = n) (l2 : zs.length = ks.length)
    (h : sp (gV vs zs) H Q (E σ)) : wpAny (model X.prog X.w) X.A (call (.ref f) us (ks.zip ws)) (EP X pins σ Q) X.xe s := by
  have e1 : us.length = n := r.length ▸ l1
  have e2 : ws.length = ks.length := rz.length ▸ l2
  refine wpAny_call (codeAny_mono (F.go X.A X.stack s H ⟨us, ks.zip ws⟩ (g us ws) (gV vs zs) Q (E σ) hr I.env0 (hb.to s us ws I.kIn e1 e2) (hb.rel r rz) h)
    fun r s' hq => ?_)
  have q := back (B := EP X pins σ Q) I (fun u s' c => hx pins H s u s' I c) (fun _ _ z => z) hq
  match r, q with
  | .error u, q => exact q
  | .ok (.ret u), q => exact q

/-- f(e, .., k = v, ..) -/
theorem c_fn (c : Cal (wdOf X) k x n ks gV sp) (hr : Rm j X.A) (hj : k ≤ j) (hg : Gl X x) (hx : ∀ σ, PassesAt (L2.CX X.prog X.w) X σ (E σ))
    (ha : PA X (e :: es) t) (hkw : PK X kws tk) (hks : (backToKw pos (keywordEach kws X.env)).filterMap (·.1) = ks := by rfl)
    (hall : (backToKw pos (keywordEach kws X.env)).all (·.1.isSome) = true := by rfl) (hdb : (x == ("__debug__" : Str)) = false := by decide)
    (hst : starEach (e :: es) X.env = (false, eval e X.env) :: starEach es X.env := by rfl)
    (hpl : ((backTo pos (starEach (e :: es) X.env)).any (·.1) || (backToKw pos (keywordEach kws X.env)).any (·.1.isNone)) = false := by rfl) :
    PE X (.Call (.Name x p) (e :: es) kws pos) (tC2 n ks.length gV sp E t tk) := by
  obtain ⟨f, fd, ps, g, F, hm, hk, hb⟩ := c.ex
  constructor
  intro pins s σ H Q I h
  apply wpAny_Call_Name_kw
  apply ld_glob I hg hm _ hdb
  refine PySem.W.callWith_KW (h₀ := X.base) I.ok.mod.kin hk hall ?_ hpl hst
  refine thn (ha.run pos pins s σ H _ I h) fun us s1 ⟨vs, H1, I1, r1, q1⟩ => ?_
  refine thn (hkw.run pos pins s1 σ H1 _ I1 q1) fun ws s2 ⟨zs, H2, I2, r2, l1, l2, q2⟩ => ⟨I2.kIn, ?_⟩
  rw [hks]
  exact run2 F (hr.less hj) hb (hx σ) I2 r1 r2 l1 l2 q2
/-- f(k = v, ..) | f() -/
theorem c_fn0 (c : Cal (wdOf X) k x n ks gV sp) (hr : Rm j X.A) (hj : k ≤ j) (hg : Gl X x) (hx : ∀ σ, PassesAt (L2.CX X.prog X.w) X σ (E σ))
    (hkw : PK X kws tk) (hks : (backToKw pos (keywordEach kws X.env)).filterMap (·.1) = ks := by rfl)
    (hall : (backToKw pos (keywordEach kws X.env)).all (·.1.isSome) = true := by rfl) (hdb : (x == ("__debug__" : Str)) = false := by decide)
    (hpl : ((backTo pos (starEach [] X.env)).any (·.1) || (backToKw pos (keywordEach kws X.env)).any (·.1.isNone)) = false := by rfl) :
    PE X (.Call (.Name x p) [] kws pos) (tC2 n ks.length gV sp E tNil tk) := by
  obtain ⟨f, fd, ps, g, F, hm, hk, hb⟩ := c.ex
  constructor
  intro pins s σ H Q I h
  apply wpAny_Call_Name_kw
  apply ld_glob I hg hm _ hdb
  refine PySem.W.callWith_KW0 (h₀ := X.base) I.ok.mod.kin hk hall ?_ hpl
  refine thn (hkw.run pos pins s σ H _ I h) fun ws s2 ⟨zs, H2, I2, r2, l1, l2, q2⟩ => ⟨I2.kIn, ?_⟩
  rw [hks]
  exact run2 (us := []) (vs := []) F (hr.less hj) hb (hx σ) I2 .nil r2 l1 l2 q2

/-- o.m(e, .., k = v, ..), o an own instance -/
theorem c_mt {pl : Sem Bool} (c : Met (wdOf X) k C m n ks gV sp) (hr : Rm j X.A) (hj : k ≤ j) (hx : ∀ σ, PassesAt (L2.CX X.prog X.w) X σ (E σ))
    (ho : PE X o to) (ha : PA X (e :: es) t) (hkw : PK X kws tk) (hks : (backToKw pos (keywordEach kws X.env)).filterMap (·.1) = ks := by rfl)
    (hall : (backToKw pos (keywordEach kws X.env)).all (·.1.isSome) = true := by rfl)
    (hst : starEach (e :: es) X.env = (false, eval e X.env) :: starEach es X.env := by rfl)
    (hpl : ((backTo pos (starEach (e :: es) X.env)).any (·.1) || (backToKw pos (keywordEach kws X.env)).any (·.1.isNone)) = false := by rfl)
    (hev : eval (.Call (.Attribute o m apos) (e :: es) kws pos) X.env = (eval o X.env >>= fun ov => standAt apos.atName >>= fun _ =>
      holding [ov] (getMethod ov m pl) >>= fun fx => callWith pos fx.1 fx.2 (backTo pos (starEach (e :: es) X.env)) (backToKw pos (keywordEach kws X.env))) := by rfl) :
    PE X (.Call (.Attribute o m apos) (e :: es) kws pos) (tM2 C m n ks.length gV sp E to t tk) := by
  obtain ⟨f, fd, ps, g, F, hm, hb⟩ := c.ex
  constructor
  intro pins s σ H Q I h
  refine PySem.W.methodCall_KW (pl := pl) ?_ hev
  refine thn (ho.run pins s σ H _ I h) fun u s1 ⟨y, H0, I0, ry, a, dx, fs, ey, ea, nl, q⟩ => ?_
  subst ey
  cases (show u = Value.ref a from ry)
  apply getmeth_ok I0 ea c.cl hm nl
  refine PySem.W.callWith_KW (first := [.ref a]) (h₀ := X.base) I.ok.mod.kin hm.kp hall ?_ hpl hst
  refine thn (ha.run pos pins s1 σ H0 _ I0 q) fun us s2 ⟨vs, H1, I1, r1, q1⟩ => ?_
  refine thn (hkw.run pos pins s2 σ H1 _ I1 q1) fun ws s3 ⟨zs, H2, I2, r2, l1, l2, q2⟩ => ⟨I2.kIn, ?_⟩
  rw [hks]
  exact run2 (us := .ref a :: us) (vs := .ref a :: vs) F (hr.less hj) hb (hx σ) I2 (.cons rfl r1) r2 l1 l2 q2
/-- o.m(k = v, ..) | o.m() -/
theorem c_mt0 {pl : Sem Bool} (c : Met (wdOf X) k C m n ks gV sp) (hr : Rm j X.A) (hj : k ≤ j) (hx : ∀ σ, PassesAt (L2.CX X.prog X.w) X σ (E σ))
    (ho : PE X o to) (hkw : PK X kws tk) (hks : (backToKw pos (keywordEach kws X.env)).filterMap (·.1) = ks := by rfl)
    (hall : (backToKw pos (keywordEach kws X.env)).all (·.1.isSome) = true := by rfl)
    (hpl : ((backTo pos (starEach [] X.env)).any (·.1) || (backToKw pos (keywordEach kws X.env)).any (·.1.isNone)) = false := by rfl)
    (hev : eval (.Call (.Attribute o m apos) [] kws pos) X.env = (eval o X.env >>= fun ov => standAt apos.atName >>= fun _ =>
      holding [ov] (getMethod ov m pl) >>= fun fx => callWith pos fx.1 fx.2 (backTo pos (starEach [] X.env)) (backToKw pos (keywordEach kws X.env))) := by rfl) :
    PE X (.Call (.Attribute o m apos) [] kws pos) (tM2 C m n ks.length gV sp E to tNil tk) := by
  obtain ⟨f, fd, ps, g, F, hm, hb⟩ := c.ex
  constructor
  intro pins s σ H Q I h
  refine PySem.W.methodCall_KW (pl := pl) ?_ hev
  refine thn (ho.run pins s σ H _ I h) fun u s1 ⟨y, H0, I0, ry, a, dx, fs, ey, ea, nl, q⟩ => ?_
  subst ey
  cases (show u = Value.ref a from ry)
  apply getmeth_ok I0 ea c.cl hm nl
  refine PySem.W.callWith_KW0 (first := [.ref a]) (h₀ := X.base) I.ok.mod.kin hm.kp hall ?_ hpl
  refine thn (hkw.run pos pins s1 σ H0 _ I0 q) fun ws s3 ⟨zs, H2, I2, r2, l1, l2, q2⟩ => ⟨I2.kIn, ?_⟩
  rw [hks]
  exact run2 (us := [.ref a]) (vs := [.ref a]) F (hr.less hj) hb (hx σ) I2 (.cons rfl .nil) r2 l1 l2 q2

theorem make2 {us ws : List Value} {vs zs : List V} (F : Fn (wdOf X) k f fd ps sp) (M : Mk X.K C f) (hr : Rm (k + 1) X.A) (hb : KBn X.K fd ps n ks g gV)
    (hx : PassesAt (L2.CX X.prog X.w) X σ (E σ)) (I : Inv X pins σ H s) (r : Vals vs us) (rz : Vals zs ws) (l1 : vs.length + 1 = n) (l2 : zs.length = ks.length)
    (h : ∀ x dx, H x = none → H dx = none → dx ≠ x →
      sp (gV (.ref x :: vs) zs) (upd (upd H dx (.own x)) x (.ins C dx [])) (fun v H3 => v = .non ∧ Q (.ref x) H3) (E σ)) :
    wpAny (model X.prog X.w) X.A (call (.ref C) us (ks.zip ws)) (EP X pins σ Q) X.xe s := by
  have hq := h (s.heap.objs.size + 1) s.heap.objs.size (I.hok.fresh (Nat.le_succ _)) (I.hok.fresh (Nat.le_refl _)) (Nat.ne_of_lt (Nat.lt_succ_self _))
  have J := Inv.made (C := C) I
  have r1 : Vals (V.ref (s.heap.objs.size + 1) :: vs) (Value.ref (s.heap.objs.size + 1) :: us) := Paired.cons rfl r
  have e1 : (Value.ref (s.heap.objs.size + 1) :: us).length = n := by rw [← r1.length]; exact l1
  have e2 : ws.length = ks.length := by rw [← rz.length]; exact l2
  have run := F.go _ X.stack _ _ ⟨Value.ref (s.heap.objs.size + 1) :: us, ks.zip ws⟩ (g (Value.ref (s.heap.objs.size + 1) :: us) ws) _ _ (E σ)
    (hr.made C us (ks.zip ws)) (J.env0.make C us (ks.zip ws)) (hb.to _ _ ws J.kIn e1 e2) (hb.rel r1 rz) hq
  refine wpAny_call (make_map (f := f) I.kIn M.makes M.init (beq_iff_eq.mp M.fn) (codeAny_mono run fun r s' z => ?_))
  match r, z with
  | .error u, z => exact hx pins _ _ u s' J z
  | .ok .next, z => exact False.elim z
  | .ok .brk, z => exact False.elim z
  | .ok .cont, z => exact False.elim z
  | .ok (.ret u), z =>
    obtain ⟨v, H', I3, rv, ev, q3⟩ := J.after z
    subst ev
    exact ⟨rv, ⟨V.ref (s.heap.objs.size + 1), H', I3, rfl, q3⟩⟩
/-- C(e, .., k = v, ..) -/
theorem c_mk (c : Mak (wdOf X) k x C n ks gV sp) (hr : Rm j X.A) (hj : k + 1 ≤ j) (hg : Gl X x) (hx : ∀ σ, PassesAt (L2.CX X.prog X.w) X σ (E σ))
    (ha : PA X (e :: es) t) (hkw : PK X kws tk) (hks : (backToKw pos (keywordEach kws X.env)).filterMap (·.1) = ks := by rfl)
    (hall : (backToKw pos (keywordEach kws X.env)).all (·.1.isSome) = true := by rfl) (hdb : (x == ("__debug__" : Str)) = false := by decide)
    (hst : starEach (e :: es) X.env = (false, eval e X.env) :: starEach es X.env := by rfl)
    (hpl : ((backTo pos (starEach (e :: es) X.env)).any (·.1) || (backToKw pos (keywordEach kws X.env)).any (·.1.isNone)) = false := by rfl) :
    PE X (.Call (.Name x p) (e :: es) kws pos) (tK2 C n ks.length gV sp E t tk) := by
  obtain ⟨f, fd, ps, g, F, M, hm, hb⟩ := c.ex
  constructor
  intro pins s σ H Q I h
  apply wpAny_Call_Name_kw
  apply ld_glob I hg hm _ hdb
  refine PySem.W.callWith_KW (h₀ := X.base) I.ok.mod.kin M.kp hall ?_ hpl hst
  refine thn (ha.run pos pins s σ H _ I h) fun us s1 ⟨vs, H1, I1, r1, q1⟩ => ?_
  refine thn (hkw.run pos pins s1 σ H1 _ I1 q1) fun ws s2 ⟨zs, H2, I2, r2, l1, l2, q2⟩ => ⟨I2.kIn, ?_⟩
  rw [hks]
  exact make2 F M (hr.less hj) hb (hx σ) I2 r1 r2 l1 l2 q2
/-- C(k = v, ..) | C() -/
theorem c_mk0 (c : Mak (wdOf X) k x C n ks gV sp) (hr : Rm j X.A) (hj : k + 1 ≤ j) (hg : Gl X x) (hx : ∀ σ, PassesAt (L2.CX X.prog X.w) X σ (E σ))
    (hkw : PK X kws tk) (hks : (backToKw pos (keywordEach kws X.env)).filterMap (·.1) = ks := by rfl)
    (hall : (backToKw pos (keywordEach kws X.env)).all (·.1.isSome) = true := by rfl) (hdb : (x == ("__debug__" : Str)) = false := by decide)
    (hpl : ((backTo pos (starEach [] X.env)).any (·.1) || (backToKw pos (keywordEach kws X.env)).any (·.1.isNone)) = false := by rfl) :
    PE X (.Call (.Name x p) [] kws pos) (tK2 C n ks.length gV sp E tNil tk) := by
  obtain ⟨f, fd, ps, g, F, M, hm, hb⟩ := c.ex
  constructor
  intro pins s σ H Q I h
  apply wpAny_Call_Name_kw
  apply ld_glob I hg hm _ hdb
  refine PySem.W.callWith_KW0 (h₀ := X.base) I.ok.mod.kin M.kp hall ?_ hpl
  refine thn (hkw.run pos pins s σ H _ I h) fun ws s2 ⟨zs, H2, I2, r2, l1, l2, q2⟩ => ⟨I2.kIn, ?_⟩
  rw [hks]
  exact make2 (us := []) (vs := []) F M (hr.less hj) hb (hx σ) I2 .nil r2 l1 l2 q2
end

/-! ### a def by its body -/
/-- the context of a body, by its parts -/
abbrev cx (W : Wd) (N : List Str) (q : Str) (sc : Scope) (f : Addr) (cd : Value) (A : Around) (out : List Env) (s : Shared) (H : Hp) (E : XK) : Cx :=
  cxOf (L2.CX W.P W.w) W.P W.w W.K W.mg W.base N q sc f cd A out s H E
/-- a def of the text as it stands behind the top: its name, its whole name, its statement -/
structure Df (W : Wd) (x q : Str) (st : Stmt) (f : Addr) (fd : FuncData) : Prop where
  ex : ∃ (oc dV kV doc pm cd ct : Value) (od an : Option Addr) (sl : Array (Option Value)),
    fd = PySem.W.fnOf x q (defArgs st) (defBody st) (defScope st) dV kV doc pm an cd ct ∧
    W.K.lookup f = some ⟨oc, od, .func fd, sl⟩ ∧ PySem.W.codeIn W.K cd q = true
  kp : PySem.W.keepIn W.K (.ref f) = true
theorem fn_by {W : Wd} {x q : Str} {st : Stmt} {f : Addr} {fd : FuncData} {N ps : List Str} {k : Nat} {sp : Sp} (D : Df W x q st f fd) (S : FnScope N ps (defScope st))
    (hn : ∀ vs H Q E, sp vs H Q E → vs.length = ps.length)
    (hb : ∀ (cd : Value) (A : Around) (out : List Env) (s : Shared) (H : Hp) (vs : List V) (Q : VK) (E : XK),
      Rm k (cx W N q (defScope st) f cd A out s H E).A → sp vs H Q E →
      ∃ t, PSs (cx W N q (defScope st) f cd A out s H E) (defBody st) t ∧ t { nx := fun _ H' => Q .non H', rt := Q } (start N vs) H) :
    Fn W (k + 1) f fd ps sp := by
  obtain ⟨oc, dV, kV, doc, pm, cd, ct, od, an, sl, rfl, lk, hcd⟩ := D.ex
  constructor
  · exact hn
  intro A out s H as us vs Q E hr e0 hbind rv hsp
  have nvs := hn vs H Q E hsp
  have live : ∀ b o, W.base.get? b = some o → s.heap.get? b = some o := fun b o e => (e0.bs b o e).1
  have KX := e0.mod.kin.keeps live
  have lim := e0.mod.nolimit.keeps live
  refine codeAny_call_function hr.r.depth (KX f _ lk) rfl S.co S.gen rfl (PySem.W.codeRec_of KX hcd) (hbind _ _ _ _ ?_)
  refine wpAny_newFunctionEnv_cells S.kind (fun y hy => ?_) fun env he s1 x => ?_
  · rcases S.par y.1 (List.of_mem_zip (show (y.1, y.2) ∈ ps.zip us from hy)).1 with z | z
    · exact Or.inl z
    · exact Or.inr ⟨z, PySem.W.cellsFrom_some _ _ _ (Or.inl z)⟩
  subst he
  refine ⟨lim.keeps x.toInCall.keep, codeAny_func ?_⟩
  obtain ⟨t, ht, hq⟩ := hb cd A out s H vs Q E (hr.down _) hsp
  have I : Inv (cx W N q (defScope st) f cd A out s H E) [] (start N vs) H s1 := inv_start S hr.r.hd e0 nvs rv x
  refine wpAny_mono (ht.run [] s1 (start N vs) H _ I hq) (fun fl s' hs => ?_) fun _ _ z => z
  match fl, hs with
  | .ret u, hs =>
    obtain ⟨v, σ', H', J, r, q⟩ := hs
    exact ⟨v, H', J.os, J.bare, J.base, J.hok, r, q⟩
  | .next, hs =>
    obtain ⟨σ', H', J, q⟩ := hs
    exact ⟨V.non, H', J.os, J.bare, J.base, J.hok, rfl, q⟩
  | .brk, hs => exact hs.elim fun _ h => h.elim fun _ h => h.2.elim
  | .cont, hs => exact hs.elim fun _ h => h.elim fun _ h => h.2.elim

/-- the wish of a body: what is raised leaves by E -/
theorem pass {W : Wd} {N : List Str} {q : Str} {sc : Scope} {f : Addr} {cd : Value} {A : Around} {out : List Env} {s : Shared} {H : Hp} {E : XK} (σ : St) :
    PassesAt (L2.CX W.P W.w) (cx W N q sc f cd A out s H E) σ E := fun pins H1 s1 u s' I c =>
  passes_call (W := fun cls d _ H => E cls d H) (E := E) (takes_of rfl rfl rfl rfl) (fun _ _ _ _ z => z) pins σ H1 s1 u s' I c
theorem passOwn {W : Wd} {N : List Str} {q : Str} {sc : Scope} {f : Addr} {cd : Value} {A : Around} {out : List Env} {s : Shared} {H : Hp} {E : XK} :
    PassesOwn (model W.P W.w) (cx W N q sc f cd A out s H E).A (cx W N q sc f cd A out s H E).env (cx W N q sc f cd A out s H E).xe := PassesOwn.leaving
/-- what a comprehension's block or a suite wants: nothing is raised -/
theorem passNo {X : Cx} (σ : St) : PassesAt (L2.CX X.prog X.w) X σ (fun _ _ _ => False) := fun _ _ _ _ _ _ c => by
  obtain ⟨_, _, _, _, _, _, _, _, _, _, _, _, z⟩ := c
  exact z.elim
end Z

namespace Z
open PySem PySem.Spec PyProof.Rows L2

inductive D where
  | non | bl (b : Bool) | int (i : Int) | str (s : Str)
  | lst (xs : List D) | tup (xs : List D)
  /-- a dict: its keys, their values; an exception of the class at C (which repr calls nm), made with one text -/
  | dct (ks : List Key) (xs : List D) | exc (nm tx : Str)
/-- at a: an exception of the class at C, its arguments at t -/
def exv (C t : Addr) (dx : Option Addr) (a : Addr) : HO := .ext fun h => h.get? a = some ({ cls := .ref C, dict := dx, data := .fields #[.ref t, .none, .none, .none, .bool false, .none] } : Obj)
theorem exv_get {P : Program} {w : World} {H : Hp} {h : Heap} {C t a : Addr} {dx : Option Addr} (x : ObjOk P w H h a (exv C t dx a)) : h.get? a = some ({ cls := .ref C, dict := dx, data := .fields #[.ref t, .none, .none, .none, .bool false, .none] } : Obj) := by
  have x' : ObjOk P w H h a (.ext fun h => h.get? a = some ({ cls := .ref C, dict := dx, data := .fields #[.ref t, .none, .none, .none, .bool false, .none] } : Obj)) := x
  exact x'.1
theorem exv_ok {P : Program} {w : World} {H : Hp} {h : Heap} {C t a : Addr} {dx : Option Addr} (x : h.get? a = some ({ cls := .ref C, dict := dx, data := .fields #[.ref t, .none, .none, .none, .bool false, .none] } : Obj)) : ObjOk P w H h a (exv C t dx a) :=
  ⟨x, ⟨_, x⟩, fun _ _ z k => k _ z⟩
theorem exv_lst {C t a : Addr} {dx : Option Addr} {xs : List V} : exv C t dx a ≠ .lst xs := fun z => by
  have z' : HO.ext _ = HO.lst xs := z
  cases z'
theorem exv_tup {C t a : Addr} {dx : Option Addr} {xs : List V} : exv C t dx a ≠ .tup xs := fun z => by
  have z' : HO.ext _ = HO.tup xs := z
  cases z'
theorem exv_dK {C t a : Addr} {dx : Option Addr} {xs : List (Key × V)} : exv C t dx a ≠ .dK xs := fun z => by
  have z' : HO.ext _ = HO.dK xs := z
  cases z'
theorem zip_inj {α β : Type} : ∀ {a c : List α} {b d : List β}, a.length = b.length → c.length = d.length → a.zip b = c.zip d → a = c ∧ b = d
  | [], [], [], [], _, _, _ => ⟨rfl, rfl⟩
  | [], c :: cs, [], d :: ds, _, _, h => by simp at h
  | a :: as, [], b :: bs, [], _, _, h => by simp at h
  | a :: as, c :: cs, b :: bs, d :: ds, h1, h2, h => by
    simp only [List.zip_cons_cons, List.cons.injEq, Prod.mk.injEq] at h
    obtain ⟨e1, e2⟩ := zip_inj (by simpa using h1) (by simpa using h2) h.2
    exact ⟨by rw [h.1.1, e1], by rw [h.1.2, e2]⟩

/-! ### a value stands for data -/
mutual
def Rep (κ : Str → Addr) (F : Hp) : D → V → Prop
  | .non, v => v = .non
  | .bl b, v => v = .bl b
  | .int i, v => v = .int i
  | .str x, v => v = .str x
  | .lst ds, v => ∃ a vs, v = .ref a ∧ F a = some (.lst vs) ∧ Reps κ F ds vs
  | .tup ds, v => ∃ a vs, v = .ref a ∧ F a = some (.tup vs) ∧ Reps κ F ds vs
  | .dct ks ds, v => ∃ a vs, v = .ref a ∧ F a = some (.dK (ks.zip vs)) ∧ ks.length = ds.length ∧ Reps κ F ds vs
  | .exc nm tx, v => ∃ a t dx, v = .ref a ∧ F a = some (exv (κ nm) t dx a) ∧ F t = some (.tup [.str tx])
def Reps (κ : Str → Addr) (F : Hp) : List D → List V → Prop
  | [], vs => vs = []
  | d :: ds, vs => ∃ v ws, vs = v :: ws ∧ Rep κ F d v ∧ Reps κ F ds ws
end
section
variable {κ : Str → Addr} {F F' : Hp}
mutual
theorem Rep.mono (s : Same F F') : ∀ (d : D) (v : V), Rep κ F d v → Rep κ F' d v
  | .non, _, h => by unfold Rep at h ⊢; exact h
  | .bl _, _, h => by unfold Rep at h ⊢; exact h
  | .int _, _, h => by unfold Rep at h ⊢; exact h
  | .str _, _, h => by unfold Rep at h ⊢; exact h
  | .lst ds, _, h => by
    unfold Rep at h ⊢
    obtain ⟨a, vs, e, ha, hs⟩ := h
    exact ⟨a, vs, e, s a _ ha, Reps.mono s ds vs hs⟩
  | .tup ds, _, h => by
    unfold Rep at h ⊢
    obtain ⟨a, vs, e, ha, hs⟩ := h
    exact ⟨a, vs, e, s a _ ha, Reps.mono s ds vs hs⟩
  | .dct ks ds, _, h => by
    unfold Rep at h ⊢
    obtain ⟨a, vs, e, ha, hl, hs⟩ := h
    exact ⟨a, vs, e, s a _ ha, hl, Reps.mono s ds vs hs⟩
  | .exc nm tx, _, h => by
    unfold Rep at h ⊢
    obtain ⟨a, t, dx, e, ha, ht⟩ := h
    exact ⟨a, t, dx, e, s a _ ha, s t _ ht⟩
theorem Reps.mono (s : Same F F') : ∀ (ds : List D) (vs : List V), Reps κ F ds vs → Reps κ F' ds vs
  | [], _, h => by unfold Reps at h ⊢; exact h
  | d :: ds, _, h => by
    unfold Reps at h ⊢
    obtain ⟨v, ws, e, h1, h2⟩ := h
    exact ⟨v, ws, e, Rep.mono s d v h1, Reps.mono s ds ws h2⟩
end
theorem rep_non : Rep κ F .non .non := by unfold Rep; rfl
theorem rep_bl {b : Bool} : Rep κ F (.bl b) (.bl b) := by unfold Rep; rfl
theorem rep_int {i : Int} : Rep κ F (.int i) (.int i) := by unfold Rep; rfl
theorem rep_str {x : Str} : Rep κ F (.str x) (.str x) := by unfold Rep; rfl
theorem rep_lst {ds : List D} {a : Addr} {vs : List V} (h : F a = some (.lst vs)) (r : Reps κ F ds vs) : Rep κ F (.lst ds) (.ref a) := by
  unfold Rep; exact ⟨a, vs, rfl, h, r⟩
theorem rep_tup {ds : List D} {a : Addr} {vs : List V} (h : F a = some (.tup vs)) (r : Reps κ F ds vs) : Rep κ F (.tup ds) (.ref a) := by
  unfold Rep; exact ⟨a, vs, rfl, h, r⟩
theorem rep_dct {ks : List Key} {ds : List D} {a : Addr} {vs : List V} (h : F a = some (.dK (ks.zip vs))) (l : ks.length = ds.length) (r : Reps κ F ds vs) : Rep κ F (.dct ks ds) (.ref a) := by
  unfold Rep; exact ⟨a, vs, rfl, h, l, r⟩
theorem rep_exc {t a : Addr} {dx : Option Addr} {nm tx : Str} (h : F a = some (exv (κ nm) t dx a)) (ht : F t = some (.tup [.str tx])) : Rep κ F (.exc nm tx) (.ref a) := by
  unfold Rep; exact ⟨a, t, dx, rfl, h, ht⟩
theorem Rep.of_dct {ks : List Key} {ds : List D} {v : V} (h : Rep κ F (.dct ks ds) v) : ∃ a vs, v = .ref a ∧ F a = some (.dK (ks.zip vs)) ∧ ks.length = ds.length ∧ Reps κ F ds vs := by unfold Rep at h; exact h
theorem Rep.of_exc {nm tx : Str} {v : V} (h : Rep κ F (.exc nm tx) v) : ∃ a t dx, v = .ref a ∧ F a = some (exv (κ nm) t dx a) ∧ F t = some (.tup [.str tx]) := by unfold Rep at h; exact h
theorem reps_nil : Reps κ F [] [] := by unfold Reps; rfl
theorem reps_cons {d : D} {ds : List D} {v : V} {vs : List V} (h : Rep κ F d v) (r : Reps κ F ds vs) : Reps κ F (d :: ds) (v :: vs) := by
  unfold Reps; exact ⟨v, vs, rfl, h, r⟩
theorem Rep.of_non {v : V} (h : Rep κ F .non v) : v = .non := by unfold Rep at h; exact h
theorem Rep.of_bl {b : Bool} {v : V} (h : Rep κ F (.bl b) v) : v = .bl b := by unfold Rep at h; exact h
theorem Rep.of_int {i : Int} {v : V} (h : Rep κ F (.int i) v) : v = .int i := by unfold Rep at h; exact h
theorem Rep.of_str {x : Str} {v : V} (h : Rep κ F (.str x) v) : v = .str x := by unfold Rep at h; exact h
theorem Rep.of_lst {ds : List D} {v : V} (h : Rep κ F (.lst ds) v) : ∃ a vs, v = .ref a ∧ F a = some (.lst vs) ∧ Reps κ F ds vs := by unfold Rep at h; exact h
theorem Rep.of_tup {ds : List D} {v : V} (h : Rep κ F (.tup ds) v) : ∃ a vs, v = .ref a ∧ F a = some (.tup vs) ∧ Reps κ F ds vs := by unfold Rep at h; exact h
theorem Reps.of_nil {vs : List V} (h : Reps κ F [] vs) : vs = [] := by unfold Reps at h; exact h
theorem Reps.of_cons {d : D} {ds : List D} {vs : List V} (h : Reps κ F (d :: ds) vs) : ∃ v ws, vs = v :: ws ∧ Rep κ F d v ∧ Reps κ F ds ws := by unfold Reps at h; exact h
theorem Reps.len : ∀ {ds : List D} {vs : List V}, Reps κ F ds vs → vs.length = ds.length
  | [], _, h => by rw [h.of_nil]; rfl
  | d :: ds, _, h => by
    obtain ⟨v, ws, rfl, _, h2⟩ := h.of_cons
    rw [List.length_cons, List.length_cons, Reps.len h2]
theorem Reps.app : ∀ {ds es : List D} {vs ws : List V}, Reps κ F ds vs → Reps κ F es ws → Reps κ F (ds ++ es) (vs ++ ws)
  | [], _, _, _, h, k => by rw [h.of_nil]; exact k
  | d :: ds, _, _, _, h, k => by
    obtain ⟨v, us, rfl, h1, h2⟩ := h.of_cons
    exact reps_cons h1 (Reps.app h2 k)
theorem Reps.get : ∀ {ds : List D} {vs : List V} {i : Nat} {d : D}, Reps κ F ds vs → ds[i]? = some d → ∃ v, vs[i]? = some v ∧ Rep κ F d v
  | [], _, _, _, _, e => by simp at e
  | d :: ds, _, 0, _, h, e => by
    obtain ⟨v, ws, rfl, h1, h2⟩ := h.of_cons
    simp at e; subst e
    exact ⟨v, rfl, h1⟩
  | d :: ds, _, i + 1, _, h, e => by
    obtain ⟨v, ws, rfl, h1, h2⟩ := h.of_cons
    obtain ⟨u, e1, e2⟩ := Reps.get (i := i) h2 (by simpa using e)
    exact ⟨u, by simpa using e1, e2⟩
theorem Reps.got : ∀ {ds : List D} {vs : List V} {i : Nat} {v : V}, Reps κ F ds vs → vs[i]? = some v → ∃ d, ds[i]? = some d ∧ Rep κ F d v
  | [], _, _, _, h, e => by rw [h.of_nil] at e; simp at e
  | d :: ds, _, 0, _, h, e => by
    obtain ⟨v, ws, rfl, h1, h2⟩ := h.of_cons
    simp at e; subst e
    exact ⟨d, rfl, h1⟩
  | d :: ds, _, i + 1, _, h, e => by
    obtain ⟨v, ws, rfl, h1, h2⟩ := h.of_cons
    obtain ⟨u, e1, e2⟩ := Reps.got (i := i) h2 (by simpa using e)
    exact ⟨u, by simpa using e1, e2⟩
theorem Reps.take : ∀ {ds : List D} {vs : List V} (n : Nat), Reps κ F ds vs → Reps κ F (ds.take n) (vs.take n)
  | _, _, 0, _ => by rw [List.take_zero, List.take_zero]; exact reps_nil
  | [], _, n + 1, h => by rw [h.of_nil]; exact reps_nil
  | d :: ds, _, n + 1, h => by
    obtain ⟨v, ws, rfl, h1, h2⟩ := h.of_cons
    exact reps_cons h1 (Reps.take n h2)
theorem Reps.drop : ∀ {ds : List D} {vs : List V} (n : Nat), Reps κ F ds vs → Reps κ F (ds.drop n) (vs.drop n)
  | _, _, 0, h => h
  | [], _, n + 1, h => by rw [h.of_nil]; exact reps_nil
  | d :: ds, _, n + 1, h => by
    obtain ⟨v, ws, rfl, h1, h2⟩ := h.of_cons
    exact Reps.drop n h2
theorem Reps.rev : ∀ {ds : List D} {vs : List V}, Reps κ F ds vs → Reps κ F ds.reverse vs.reverse
  | [], _, h => by rw [h.of_nil]; exact reps_nil
  | d :: ds, _, h => by
    obtain ⟨v, ws, rfl, h1, h2⟩ := h.of_cons
    rw [List.reverse_cons, List.reverse_cons]
    exact Reps.app (Reps.rev h2) (reps_cons h1 reps_nil)
/-- whole numbers as data -/
abbrev dI (ns : List Int) : List D := ns.map D.int
theorem reps_ints : ∀ (ns : List Int), Reps κ F (dI ns) (ns.map V.int)
  | [] => reps_nil
  | _ :: ns => reps_cons rep_int (reps_ints ns)
theorem Reps.of_ints : ∀ {ns : List Int} {vs : List V}, Reps κ F (dI ns) vs → vs = ns.map V.int
  | [], _, h => h.of_nil
  | n :: ns, _, h => by
    obtain ⟨v, ws, rfl, h1, h2⟩ := Reps.of_cons (d := .int n) (ds := dI ns) h
    rw [h1.of_int, Reps.of_ints h2, List.map_cons]
theorem reps_bls : ∀ (ns : List Bool), Reps κ F (ns.map D.bl) (ns.map V.bl)
  | [] => reps_nil
  | _ :: ns => reps_cons rep_bl (reps_bls ns)
theorem reps_strs : ∀ (ns : List Str), Reps κ F (ns.map D.str) (ns.map V.str)
  | [] => reps_nil
  | _ :: ns => reps_cons rep_str (reps_strs ns)
theorem reps_rep {d : D} {v : V} (h : Rep κ F d v) : ∀ n : Nat, Reps κ F (List.replicate n d) (List.replicate n v)
  | 0 => reps_nil
  | n + 1 => reps_cons h (reps_rep h n)
end

/-! ### what a run adds: F the part that never changes, H the heap, B what was written -/
/-- what may be known of later on, though it stood there before -/
def Lrn : HO → Prop
  | .tup _ => True
  | .frz _ _ => True
  | _ => False
structure Ext (B : List Addr) (F H F' H' : Hp) : Prop where
  ff : Same F F'
  fh : Same F' H'
  hh : ∀ a o, a ∉ B → H a = some o → H' a = some o
  nw : ∀ a, H a ≠ none → F a = none → F' a = none ∨ ∃ u, F' a = some u ∧ Lrn u
  st : ∀ a, H a ≠ none → H' a ≠ none
section
variable {κ : Str → Addr} {B B' : List Addr} {F H F1 H1 F2 H2 : Hp} {a : Addr} {o : HO}
theorem some_ne {α : Type} {x : Option α} {y : α} (h : x = some y) : x ≠ none := fun z => by rw [z] at h; cases h
theorem Ext.rfl (s : Same F H) : Ext B F H F H := ⟨Same.refl _, s, fun _ _ _ h => h, fun _ _ h => Or.inl h, fun _ h => h⟩
theorem Ext.trans (x : Ext B F H F1 H1) (y : Ext B F1 H1 F2 H2) : Ext B F H F2 H2 :=
  ⟨x.ff.trans y.ff, y.fh, fun a o n h => y.hh a o n (x.hh a o n h), fun a h1 h2 => (x.nw a h1 h2).elim (fun h => y.nw a (x.st a h1) h) (fun ⟨xs, h, l⟩ => Or.inr ⟨xs, y.ff a _ h, l⟩), fun a h => y.st a (x.st a h)⟩
theorem Ext.wide (x : Ext B F H F1 H1) (h : ∀ a, a ∈ B → a ∈ B') : Ext B' F H F1 H1 := ⟨x.ff, x.fh, fun a o n h' => x.hh a o (fun z => n (h a z)) h', x.nw, x.st⟩
theorem Ext.any (x : Ext [] F H F1 H1) : Ext B F H F1 H1 := x.wide fun _ h => by cases h
theorem Ext.same (x : Ext [] F H F1 H1) : Same H H1 := fun a o h => x.hh a o (by simp) h
theorem Ext.rep (x : Ext B F H F1 H1) {d : D} {v : V} (h : Rep κ F d v) : Rep κ F1 d v := h.mono x.ff d v
theorem Ext.reps (x : Ext B F H F1 H1) {d : List D} {v : List V} (h : Reps κ F d v) : Reps κ F1 d v := h.mono x.ff d v
theorem Ext.cell (x : Ext B F H F1 H1) (h : H a = some o) (n : a ∉ B) : H1 a = some o := x.hh a o n h
theorem Ext.out (x : Ext B F H F1 H1) (h : F a = none) (n : H a ≠ none) (t : ∀ u, Lrn u → H1 a ≠ some u) : F1 a = none := (x.nw a n h).elim id fun ⟨u, e, l⟩ => absurd (x.fh a _ e) (t u l)
/-- what was free before the run, and is free behind it, was free -/
theorem Ext.free (x : Ext B F H F1 H1) (h : H1 a = none) : H a = none := by
  cases e : H a with
  | none => exact Eq.refl _
  | some u => exact absurd h (x.st a (some_ne e))
/-- a new object, known from now on -/
theorem Ext.new (s : Same F H) (h : H a = none) : Ext [] F H (upd F a o) (upd H a o) where
  ff := fun b u e => by rw [upd_ne (ne_of_none (s b u e) h)]; exact e
  fh := fun b u e => by
    by_cases z : b = a
    · subst z; rw [upd_same] at e; rw [upd_same]; exact e
    · rw [upd_ne z] at e; rw [upd_ne z]; exact s b u e
  hh := fun b u _ e => by rw [upd_ne (ne_of_none e h)]; exact e
  nw := fun b n e => by
    by_cases z : b = a
    · subst z; exact absurd h n
    · rw [upd_ne z]; exact Or.inl e
  st := fun b n => by
    by_cases z : b = a
    · subst z; exact absurd h n
    · rw [upd_ne z]; exact n
/-- a new object that will be written -/
theorem Ext.cellNew (s : Same F H) (h : H a = none) : Ext [] F H F (upd H a o) where
  ff := Same.refl _
  fh := fun b u e => by rw [upd_ne (ne_of_none (s b u e) h)]; exact s b u e
  hh := fun b u _ e => by rw [upd_ne (ne_of_none e h)]; exact e
  nw := fun _ _ e => Or.inl e
  st := fun b n => by
    by_cases z : b = a
    · subst z; exact absurd h n
    · rw [upd_ne z]; exact n
/-- an object that F does not know is written -/
theorem Ext.set (s : Same F H) (f : F a = none) (m : a ∈ B) : Ext B F H F (upd H a o) where
  ff := Same.refl _
  fh := fun b u e => by rw [upd_ne (ne_of_none e f)]; exact s b u e
  hh := fun b u n e => by rw [upd_ne (fun z => n (by rw [z]; exact m))]; exact e
  nw := fun _ _ e => Or.inl e
  st := fun b n => by
    by_cases z : b = a
    · subst z; rw [upd_same]; exact fun q => by cases q
    · rw [upd_ne z]; exact n
/-- what was written is known from now on -/
theorem Ext.freeze (s : Same F H) (h : H a = some o) (n : a ∈ B) : Same F (upd F a o) ∧ Same (upd F a o) H := by
  refine ⟨fun b u e => ?_, fun b u e => ?_⟩
  · by_cases z : b = a
    · subst z; rw [upd_same]; have q := s b u e; rw [h] at q; exact q
    · rw [upd_ne z]; exact e
  · by_cases z : b = a
    · subst z; rw [upd_same] at e; cases e; exact h
    · rw [upd_ne z] at e; exact s b u e
end

/-! ### how data is shown -/
/-- the name that repr writes of a class -/
def exNm (n : Str) : Str := ((n.toString.cutAt '.').getLastD "")
def keyTxt : Key → Str
  | .inl i => toString i
  | .inr x => reprText x
def entryTxts : List Key → List Str → List Str
  | k :: ks, t :: ts => (keyTxt k ++ ": " ++ t) :: entryTxts ks ts
  | _, _ => []
mutual
def txt : D → Str
  | .non => "None"
  | .bl b => if b then "True" else "False"
  | .int i => toString i
  | .str x => reprText x
  | .lst xs => listText (txts xs)
  | .tup xs => tupleText (txts xs)
  | .dct ks xs => dictText (entryTxts ks (txts xs))
  | .exc nm tx => exNm nm ++ "(" ++ reprText tx ++ ")"
def txts : List D → List Str
  | [] => []
  | x :: xs => txt x :: txts xs
end
mutual
def dep : D → Nat
  | .lst xs => deps xs + 1
  | .tup xs => deps xs + 1
  | .dct _ xs => deps xs + 1
  | .non | .bl _ | .int _ | .str _ | .exc _ _ => 0
def deps : List D → Nat
  | [] => 0
  | x :: xs => max (dep x) (deps xs)
end
/-- every number is small enough to be shown -/
def smI (i : Int) : Bool := decide (i.natAbs.log2 < 1920)
def smK : Key → Bool
  | .inl i => smI i
  | .inr x => PyData.strOk x
mutual
/-- the classes of the exceptions in d -/
def xcs : D → List Str
  | .exc nm _ => [nm]
  | .lst xs => xcss xs
  | .tup xs => xcss xs
  | .dct _ xs => xcss xs
  | .non | .bl _ | .int _ | .str _ => []
def xcss : List D → List Str
  | [] => []
  | x :: xs => xcs x ++ xcss xs
end
mutual
/-- no dict and no exception in it -/
def plE : D → Bool
  | .exc _ _ | .dct _ _ => false
  | .lst xs => plEs xs
  | .tup xs => plEs xs
  | .non | .bl _ | .int _ | .str _ => true
def plEs : List D → Bool
  | [] => true
  | x :: xs => plE x && plEs xs
end
mutual
theorem plE_xcs : ∀ d : D, plE d = true → xcs d = []
  | .exc _ _, h => by unfold plE at h; cases h
  | .dct _ _, h => by unfold plE at h; cases h
  | .lst xs, h => by unfold plE at h; unfold xcs; exact plEs_xcs xs h
  | .tup xs, h => by unfold plE at h; unfold xcs; exact plEs_xcs xs h
  | .non, _ => by unfold xcs; rfl
  | .bl _, _ => by unfold xcs; rfl
  | .int _, _ => by unfold xcs; rfl
  | .str _, _ => by unfold xcs; rfl
theorem plEs_xcs : ∀ ds : List D, plEs ds = true → xcss ds = []
  | [], _ => by unfold xcss; rfl
  | d :: ds, h => by
    unfold plEs at h
    obtain ⟨h1, h2⟩ := Bool.and_eq_true_iff.mp h
    unfold xcss
    rw [plE_xcs d h1, plEs_xcs ds h2]; rfl
end
mutual
def sm : D → Bool
  | .int i => smI i
  | .str x => PyData.strOk x
  | .lst xs => sms xs
  | .tup xs => sms xs
  | .dct ks xs => ks.all smK && sms xs
  | .exc _ tx => PyData.strOk tx
  | .non | .bl _ => true
def sms : List D → Bool
  | [] => true
  | x :: xs => sm x && sms xs
end
theorem txts_len : ∀ xs : List D, (txts xs).length = xs.length
  | [] => by unfold txts; rfl
  | x :: xs => by unfold txts; rw [List.length_cons, txts_len xs, List.length_cons]
section
variable {κ : Str → Addr} {P : Program} {w : World} {H : Hp} {h : Heap}
mutual
theorem dep_det : ∀ (d e : D) (v : V), Rep κ H d v → Rep κ H e v → dep d = dep e
  | .non, e, v, h1, h2 => by
    cases e <;> unfold Rep at h1 h2 <;> simp_all [dep]
  | .bl b, e, v, h1, h2 => by
    cases e <;> unfold Rep at h1 h2 <;> simp_all [dep]
  | .int b, e, v, h1, h2 => by
    cases e <;> unfold Rep at h1 h2 <;> simp_all [dep]
  | .str b, e, v, h1, h2 => by
    cases e <;> unfold Rep at h1 h2 <;> simp_all [dep]
  | .lst ds, e, v, h1, h2 => by
    obtain ⟨a, vs, rfl, ha, hr⟩ := h1.of_lst
    cases e with
    | lst es =>
      obtain ⟨b, ws, eb, hb, hs⟩ := h2.of_lst
      cases eb
      rw [ha] at hb; cases hb
      unfold dep; rw [deps_det ds es vs hr hs]
    | tup es =>
      obtain ⟨b, ws, eb, hb, _⟩ := h2.of_tup
      cases eb
      rw [ha] at hb
      cases hb
    | dct ks' es =>
      obtain ⟨b, ws, eb, hb, _⟩ := h2.of_dct
      cases eb
      rw [ha] at hb
      cases hb
    | exc n' t' =>
      obtain ⟨b, ws, dx, eb, hb, _⟩ := h2.of_exc
      cases eb
      rw [ha] at hb
      exact absurd (Option.some.inj hb).symm exv_lst
    | _ => unfold Rep at h2; cases h2
  | .tup ds, e, v, h1, h2 => by
    obtain ⟨a, vs, rfl, ha, hr⟩ := h1.of_tup
    cases e with
    | tup es =>
      obtain ⟨b, ws, eb, hb, hs⟩ := h2.of_tup
      cases eb
      rw [ha] at hb; cases hb
      unfold dep; rw [deps_det ds es vs hr hs]
    | lst es =>
      obtain ⟨b, ws, eb, hb, _⟩ := h2.of_lst
      cases eb
      rw [ha] at hb
      cases hb
    | dct ks' es =>
      obtain ⟨b, ws, eb, hb, _⟩ := h2.of_dct
      cases eb
      rw [ha] at hb
      cases hb
    | exc n' t' =>
      obtain ⟨b, ws, dx, eb, hb, _⟩ := h2.of_exc
      cases eb
      rw [ha] at hb
      exact absurd (Option.some.inj hb).symm exv_tup
    | _ => unfold Rep at h2; cases h2
  | .dct ks ds, e, v, h1, h2 => by
    obtain ⟨a, vs, rfl, ha, hl, hr⟩ := h1.of_dct
    cases e with
    | dct ks' es =>
      obtain ⟨b, ws, eb, hb, hl', hs⟩ := h2.of_dct
      cases eb
      rw [ha] at hb
      obtain ⟨_, e2⟩ := zip_inj (by rw [hr.len]; exact hl) (by rw [hs.len]; exact hl') (HO.dK.inj (Option.some.inj hb))
      subst e2
      unfold dep; rw [deps_det ds es vs hr hs]
    | lst es =>
      obtain ⟨b, ws, eb, hb, _⟩ := h2.of_lst
      cases eb
      rw [ha] at hb
      cases hb
    | tup es =>
      obtain ⟨b, ws, eb, hb, _⟩ := h2.of_tup
      cases eb
      rw [ha] at hb
      cases hb
    | exc n' t' =>
      obtain ⟨b, ws, dx, eb, hb, _⟩ := h2.of_exc
      cases eb
      rw [ha] at hb
      exact absurd (Option.some.inj hb).symm exv_dK
    | _ => unfold Rep at h2; cases h2
  | .exc n t, e, v, h1, h2 => by
    obtain ⟨a, t, dx, rfl, ha, hr⟩ := h1.of_exc
    cases e with
    | exc n' t' => unfold dep; rfl
    | lst es =>
      obtain ⟨b, ws, eb, hb, _⟩ := h2.of_lst
      cases eb
      rw [ha] at hb
      exact absurd (Option.some.inj hb) exv_lst
    | tup es =>
      obtain ⟨b, ws, eb, hb, _⟩ := h2.of_tup
      cases eb
      rw [ha] at hb
      exact absurd (Option.some.inj hb) exv_tup
    | dct ks' es =>
      obtain ⟨b, ws, eb, hb, _⟩ := h2.of_dct
      cases eb
      rw [ha] at hb
      exact absurd (Option.some.inj hb) exv_dK
    | _ => unfold Rep at h2; cases h2
theorem deps_det : ∀ (ds es : List D) (vs : List V), Reps κ H ds vs → Reps κ H es vs → deps ds = deps es
  | [], es, vs, h1, h2 => by
    rw [h1.of_nil] at h2
    cases es with
    | nil => rfl
    | cons e es => obtain ⟨_, _, q, _⟩ := h2.of_cons; cases q
  | d :: ds, es, vs, h1, h2 => by
    obtain ⟨v, ws, rfl, a1, a2⟩ := h1.of_cons
    cases es with
    | nil => have q := h2.of_nil; cases q
    | cons e es =>
      obtain ⟨v', ws', q, b1, b2⟩ := h2.of_cons
      cases q
      unfold deps; rw [dep_det d e v a1 b1, deps_det ds es ws a2 b2]
end
/-- addresses at which data lies that is no deeper than n -/
def Low (κ : Str → Addr) (H : Hp) (n : Nat) (bs : List Addr) : Prop := ∀ b ∈ bs, ∃ d, Rep κ H d (.ref b) ∧ dep d ≤ n
theorem Low.le {n m : Nat} {bs : List Addr} (h : Low κ H n bs) (k : n ≤ m) : Low κ H m bs := fun b hb => let ⟨d, r, e⟩ := h b hb; ⟨d, r, Nat.le_trans e k⟩
theorem Low.app {n : Nat} {bs cs : List Addr} (h : Low κ H n bs) (k : Low κ H n cs) : Low κ H n (bs ++ cs) := fun b hb => (List.mem_append.mp hb).elim (h b) (k b)
theorem Low.not {n : Nat} {bs : List Addr} {a : Addr} {d : D} (h : Low κ H n bs) (r : Rep κ H d (.ref a)) (k : n < dep d) : a ∉ bs := fun m => by
  obtain ⟨e, r', l⟩ := h a m
  rw [dep_det d e _ r r'] at k
  omega
theorem Low.top {n : Nat} {bs : List Addr} {a : Addr} {d : D} (h : Low κ H n bs) (r : Rep κ H d (.ref a)) (k : n ≤ dep d) : Low κ H (dep d) (a :: bs) := fun b m => by
  rcases List.mem_cons.mp m with e | m
  · exact ⟨d, by rw [e]; exact r, Nat.le_refl _⟩
  · exact h.le k b m
end
open PySem.W (Looks Frag findIn subIn looks_findIn looks_subIn clsIn looks_clsIn)
section
variable {prog : Program} {w : World} {M : Model} {A : Around} {E : Value → Shared → Prop} {s : Shared} {K : Frag} {C e t0 : Addr} {cd : ClassData}
theorem nm_C {Q : String → Shared → Prop} (x : ExcC K C e t0 s.heap) (hc : clsIn K C = some cd) (hq : Q cd.name.toString s) : wpAny M A (PySem.typeNameOfWhole (.ref e)) Q E s := by
  unfold PySem.typeNameOfWhole PySem.shownTypeOf
  refine wpAny_bind (wpAny_bind (x.LT.here ?_))
  have hb : (Value.ref C == Value.type "builtin_function_or_method") = false := by rfl
  simp only [hb, Bool.false_eq_true, if_false]
  refine wpAny_pure ?_
  unfold PySem.typeNameWhole
  exact wpAny_bind ((looks_clsIn x.1 hc).here (wpAny_pure hq))
theorem reprAt_C (b : Nat) (x : ExcC K C e t0 s.heap) (hc : clsIn K C = some cd) {m : Str} {tk : Tok} {Q : PySem.Fin → Shared → Prop} (ht : s.heap.TupAt t0 [.str m tk])
    (hq : Q (.done (.ret (.str (exNm cd.name ++ "(" ++ reprText m ++ ")") (s.toks + 1)))) { s with toks := s.toks + 1 + 1 }) (hsz : b + (exNm cd.name ++ "(" ++ reprText m ++ ")").length ≤ sizeLine) :
    wpAny (model prog w) A (Builtin.bexcReprAt b ⟨[.ref e], []⟩) Q E s := by
  have e1 : b + (Str.ofString ((cd.name.toString.cutAt '.').getLastD "") ++ Str.ofString "(" ++ reprText m ++ Str.ofString ")").length ≤ sizeLine := hsz
  have hsz2 : (Str.ofString ((cd.name.toString.cutAt '.').getLastD "") ++ Str.ofString "(" ++ reprText m ++ Str.ofString ")").length ≤ sizeLine := Nat.le_trans (Nat.le_add_left _ b) e1
  have eP : (Str.ofString "(").length = 1 := by rw [PySem.ofString_length]; rfl
  rw [PySem.strLen_append, PySem.strLen_append, PySem.strLen_append, eP] at e1
  have hsz1 : (reprText m).length ≤ sizeLine := by omega
  have hpile : b + ((Str.ofString ((cd.name.toString.cutAt '.').getLastD "")).length + 1) ≤ sizeLine := by omega
  unfold Builtin.bexcReprAt
  repeat (first | with_reducible refine nm_C x hc ?_ | with_reducible refine bexcArgs_C x ht ?_ | rw [pyReprUnder_leaf (v := .str m tk) hpile (by intro a; nofun)] | with_reducible refine wpAny_pyRepr_str ?_ | wp_step)
  exact hq
theorem twin_C (b : Nat) (x : ExcC K C e t0 s.heap) (hB : subIn K (.ref C) (.type "BaseException") = some true) (hc : clsIn K C = some cd) {m : Str} {tk : Tok} {Q : Value → Shared → Prop} (ht : s.heap.TupAt t0 [.str m tk])
    (hq : Q (.str (exNm cd.name ++ "(" ++ reprText m ++ ")") (s.toks + 1)) { s with toks := s.toks + 1 + 1 }) (hsz : b + (exNm cd.name ++ "(" ++ reprText m ++ ")").length ≤ sizeLine) :
    wpAny (model prog w) A (call (.builtin "BaseException.__repr__.under") [.ref e, rawInt b]) Q E s := by
  refine wpAny_call (codeAny_call_builtin F.plain_bexc_repr_under F.entry_bexc_repr_under ?_)
  rw [F.check_bexc_repr_under]
  refine wpAny_pure ?_
  rw [show Builtin.«BaseException.__repr__.under» = reprTwin "BaseException.__repr__" Builtin.bexcReprAt from rfl, reprTwin_eq]
  exact wpAny_bind (@PySem.W.check_slot (model prog w) _ _ s "BaseException.__repr__" "BaseException" "__repr__" (.ref e) [] [] _ (by decide +kernel) (by decide +kernel) (x.LI hB) (F.args_bexc_repr _) (reprAt_C b x hc ht hq hsz))
/-- repr of an exception of a class of the program -/
theorem ReprK.exc {h : Heap} {as : List Addr} {d : Nat} (x : ExcC K C e t0 h) (hs : findIn K (.ref C) "__repr__" = some (some (.builtin "BaseException.__repr__"))) (hB : subIn K (.ref C) (.type "BaseException") = some true) (hc : clsIn K C = some cd) {m : Str} {tk : Tok}
    (ht : h.TupAt t0 [.str m tk]) : ReprK prog w as h d (.ref e) (exNm cd.name ++ "(" ++ reprText m ++ ")") := by
  intro base hb A g E s Q hg hcl hu hk0 hQ
  have x' : ExcC K C e t0 s.heap := ⟨x.1.keeps hk0, by obtain ⟨_, o, vs, ho, r⟩ := x; exact ⟨o, vs, hk0 _ _ ho, r⟩⟩
  have ht' : s.heap.TupAt t0 [.str m tk] := by obtain ⟨o, k, ho, r⟩ := ht; exact ⟨o, k, hk0 _ _ ho, r⟩
  refine wpAny_pyReprUnder_ref (by omega) ?_
  have hf : Looks (model prog w) s.heap (typeLookup (.ref C) (Str.ofString "__repr__")) (some (.builtin "BaseException.__repr__")) := looks_findIn x'.1 hs
  have hbd : bindSpecial (.builtin "BaseException.__repr__") (.ref e) = pure (.builtin "BaseException.__repr__", [.ref e]) := F.excStr_Exception.repr.bind _
  have sp2 : ∀ {A' : Around} {E' : Value → Shared → Prop} {Q : Option Value → Shared → Prop}, Q (some (.builtin "BaseException.__repr__")) s → wpAny (model prog w) A' (specialOf (.ref e) (Str.ofString "__repr__")) Q E' s := fun q => by
    unfold specialOf
    exact wpAny_bind (x'.LT.here (hf.here q))
  unfold pyReprObjUnder pyReprObjBy
  refine wpAny_bind (wpAny_cRoomFor (by omega) ?_)
  refine wpAny_bind (sp2 ?_)
  refine wpAny_bind ?_
  simp only [callSpecialIfBoundBy?, bindSpecialIfBound?]
  refine wpAny_holding (wpAny_bind (wpAny_bind (sp2 ?_)))
  simp only [hbd]
  have fin : ∀ {A' : Around} {E' : Value → Shared → Prop} {Q' : Option Value → Shared → Prop}, Q' (some (.str (exNm cd.name ++ "(" ++ reprText m ++ ")") (s.toks + 1))) { s with toks := s.toks + 1 + 1 } →
      wpAny (model prog w) A' (call (.builtin "BaseException.__repr__.under") [.ref e, rawInt base] >>= fun v => pure (some v)) Q' E' s := fun q =>
    wpAny_bind (twin_C base x' hB hc ht' (wpAny_pure q) hb)
  refine wpAny_bind (wpAny_askSetting (wpAny_ite ?_))
  split
  · refine wpAny_bind (wpAny_pure (wpAny_pure (fin ?_)))
    exact wpAny_bind (wpAny_isInstance (T := "str") (b := true) rfl isSubtype_str_str (wpAny_pure ⟨_, _, rfl, hQ s.heap _ fun _ _ z => z⟩))
  · refine wpAny_tryCatch (wpAny_bind (wpAny_pure (wpAny_pure (fin ?_))))
    exact wpAny_bind (wpAny_isInstance (T := "str") (b := true) rfl isSubtype_str_str (wpAny_pure ⟨_, _, rfl, hQ s.heap _ fun _ _ z => z⟩))
end

/-- what the written part says of an exception's class -/
def ExKnown (K : PySem.W.Frag) (C : Addr) (nm : Str) : Prop :=
  PySem.W.findIn K (.ref C) "__repr__" = some (some (.builtin "BaseException.__repr__")) ∧ PySem.W.subIn K (.ref C) (.type "BaseException") = some true ∧ ∃ cd, PySem.W.clsIn K C = some cd ∧ cd.name = nm
section
variable {κ : Str → Addr} {P : Program} {w : World} {K : PySem.W.Frag} {H : Hp} {h : Heap}
theorem keyIs_repr {k : Key} {v : Value} (e : keyIs k v = true) (s : smK k = true) (z : (keyTxt k).length ≤ sizeLine) (as : List Addr) (h : Heap) (d : Nat) : ReprK P w as h d v (keyTxt k) := by
  rcases keyIs_shape e with ⟨i, t, rfl, rfl⟩ | ⟨x, t, rfl, rfl⟩
  · exact ReprK.of_is (ReprIs.int t (by unfold smK smI at s; exact of_decide_eq_true s)) _ _ _
  · exact ReprK.of_is (ReprIs.str x t z) _ _ _
theorem entries_show {d : Nat} {bs : List Addr} : ∀ {ks : List Key} {vs : List V} {kvs : List (Key × Value)} {es : List DictEntry} {us : List Value} {ts : List Str}, KV (ks.zip vs) kvs → Pairs (mixKind P w) es kvs → ks.length = vs.length → us = kvs.map (·.2) →
    ks.all smK = true → (∀ k ∈ ks, (keyTxt k).length ≤ sizeLine) → ReprAllK P w bs h d us ts → ReprEntriesK P w bs h d es (entryTxts ks ts)
  | [], [], _, _, _, _, r, p, _, eu, _, _, a => by
    cases r
    cases p
    subst eu
    cases a
    exact .nil
  | k :: ks, v :: vs, _, _, _, _, r, p, l, eu, sk, zk, a => by
    cases r with
    | cons r1 r2 =>
      cases p with
      | cons p1 p2 p3 =>
        subst eu
        cases a with
        | cons a1 a2 =>
          rename_i e _ _ _ _ _
          have sk' : smK k = true ∧ ks.all smK = true := by simpa using sk
          refine ReprEntriesK.cons ?_ ?_ (entries_show r2 p3 (by simpa using l) rfl sk'.2 (fun q hq => zk q (List.mem_cons_of_mem _ hq)) a2)
          · refine keyIs_repr ?_ sk'.1 (zk k List.mem_cons_self) _ _ _
            have q := r1.1
            dsimp only at q
            rw [q]
            exact p1
          · rw [p2]; exact a1
  | [], _ :: _, _, _, _, _, _, _, l, _, _, _, _ => by simp at l
  | _ :: _, [], _, _, _, _, _, _, l, _, _, _, _ => by simp at l
end
section
variable {κ : Str → Addr} {P : Program} {w : World} {K : PySem.W.Frag} {H : Hp} {h : Heap}
theorem vals_zip : ∀ {ks : List Key} {vs : List V} {kvs : List (Key × Value)}, ks.length = vs.length → KV (ks.zip vs) kvs → Vals vs (kvs.map (·.2))
  | [], [], _, _, r => by cases r; exact .nil
  | k :: ks, v :: vs, _, l, r => by
    cases r with
    | cons r1 r2 => exact .cons r1.2 (vals_zip (by simpa using l) r2)
  | [], _ :: _, _, l, _ => by simp at l
  | _ :: _, [], _, l, _ => by simp at l
theorem entry_mem_len : ∀ {ks : List Key} {ts : List Str} {t : Str}, ks.length = ts.length → ((∃ k ∈ ks, keyTxt k = t) ∨ t ∈ ts) → ∃ p ∈ entryTxts ks ts, t.length ≤ p.length
  | [], [], _, _, m => by rcases m with ⟨_, m, _⟩ | m <;> cases m
  | k :: ks, s :: ts, t, l, m => by
    have e : (keyTxt k ++ ": " ++ s).length = (keyTxt k).length + 2 + s.length := by rw [PySem.strLen_append, PySem.strLen_append]; rfl
    have go : ((∃ k ∈ ks, keyTxt k = t) ∨ t ∈ ts) → ∃ p ∈ entryTxts (k :: ks) (s :: ts), t.length ≤ p.length := fun m => by
      obtain ⟨p, h1, h2⟩ := entry_mem_len (by simpa using l) m
      exact ⟨p, by unfold entryTxts; exact List.mem_cons_of_mem _ h1, h2⟩
    have here : t.length ≤ (keyTxt k ++ ": " ++ s).length → ∃ p ∈ entryTxts (k :: ks) (s :: ts), t.length ≤ p.length := fun q => ⟨_, by unfold entryTxts; exact List.mem_cons_self, q⟩
    rcases m with ⟨q, m, rfl⟩ | m
    · rcases List.mem_cons.mp m with rfl | m
      · exact here (by omega)
      · exact go (Or.inl ⟨q, m, rfl⟩)
    · rcases List.mem_cons.mp m with rfl | m
      · exact here (by omega)
      · exact go (Or.inr m)
  | [], _ :: _, _, l, _ => by simp at l
  | _ :: _, [], _, l, _ => by simp at l
theorem entry_mem_le {ks : List Key} {ts : List Str} {t : Str} (l : ks.length = ts.length) (m : (∃ k ∈ ks, keyTxt k = t) ∨ t ∈ ts) : t.length ≤ (dictText (entryTxts ks ts)).length := by
  obtain ⟨p, h1, h2⟩ := entry_mem_len l m
  exact Nat.le_trans h2 (dictText_mem_le h1)
mutual
theorem shows (ok : HOk P w H h) (KI : K.In h) : ∀ (d : D) (v : V) (u : Value), Rep κ H d v → RelV v u → (∀ p ∈ xcs d, ExKnown K (κ p) p) → sm d = true → (txt d).length ≤ sizeLine →
    ∃ bs, Low κ H (dep d) bs ∧ ReprK P w bs h (dep d) u (txt d)
  | .non, _, _, r, e, _, _, _ => by
    rw [r.of_non] at e
    cases e
    unfold txt
    exact ⟨[], (fun _ m => by cases m), ReprK.of_is ReprIs.none _ _ _⟩
  | .bl b, _, _, r, e, _, _, _ => by
    rw [r.of_bl] at e
    cases e
    unfold txt
    exact ⟨[], (fun _ m => by cases m), ReprK.of_is (ReprIs.bool b) _ _ _⟩
  | .int i, _, _, r, e, _, s, _ => by
    rw [r.of_int] at e
    obtain ⟨t, rfl⟩ := e
    unfold txt
    exact ⟨[], (fun _ m => by cases m), ReprK.of_is (ReprIs.int t (by unfold sm smI at s; exact of_decide_eq_true s)) _ _ _⟩
  | .str x, _, _, r, e, _, _, z => by
    rw [r.of_str] at e
    obtain ⟨t, rfl⟩ := e
    unfold txt at z ⊢
    exact ⟨[], (fun _ m => by cases m), ReprK.of_is (ReprIs.str x t z) _ _ _⟩
  | .lst ds, _, _, r, e, kn, s, z => by
    unfold xcs at kn
    obtain ⟨a, vs, rfl, ha, hr⟩ := r.of_lst
    cases e
    obtain ⟨_, its, n, rv, ho⟩ := (show ObjOk P w H h a (.lst vs) from ok a _ ha)
    unfold sm at s
    unfold txt at z
    obtain ⟨bs, lw, K⟩ := showsAll ok KI ds vs its hr rv kn s fun t m => Nat.le_trans (listText_mem_le m) z
    have na : a ∉ bs := lw.not r (by unfold dep; omega)
    refine ⟨a :: bs, lw.top r (by unfold dep; omega), ?_⟩
    unfold txt dep
    cases its with
    | nil =>
      cases rv
      have q : ds = [] := List.length_eq_zero_iff.mp (by rw [← hr.len]; rfl)
      subst q
      have q2 : listText (txts []) = ("[]" : Str) := by unfold txts; exact listText_nil
      rw [q2]
      exact ReprK.listEmpty ho rfl rfl
    | cons y l => exact ReprK.list ho rfl rfl na (by rw [List.size_toArray, ← K.length_eq]) (fun i y q => K.item i y (by simpa using q))
  | .tup ds, _, _, r, e, kn, s, z => by
    unfold xcs at kn
    obtain ⟨a, vs, rfl, ha, hr⟩ := r.of_tup
    cases e
    obtain ⟨_, its, rv, o, ho, hc, n, hd⟩ := (show ObjOk P w H h a (.tup vs) from ok a _ ha)
    unfold sm at s
    unfold txt at z
    obtain ⟨bs, lw, K⟩ := showsAll ok KI ds vs its hr rv kn s fun t m => Nat.le_trans (tupleText_mem_le m) z
    have na : a ∉ bs := lw.not r (by unfold dep; omega)
    refine ⟨a :: bs, lw.top r (by unfold dep; omega), ?_⟩
    unfold txt dep
    exact ReprK.tuple ho hc hd na K
  | .dct ks ds, _, _, r, e, kn, s, z => by
    unfold xcs at kn
    obtain ⟨a, vs, rfl, ha, hl, hr⟩ := r.of_dct
    cases e
    obtain ⟨_, hsys, kvs, rel, o, es, ep, ho, hex, hd, _, hp, _⟩ := (show ObjOk P w H h a (.dK (ks.zip vs)) from ok a _ ha)
    have s' : ks.all smK = true ∧ sms ds = true := by unfold sm at s; exact Bool.and_eq_true_iff.mp s
    unfold txt at z
    have lv : ks.length = vs.length := by rw [hr.len]; exact hl
    have rv : Vals vs (kvs.map (·.2)) := vals_zip lv rel
    have tl : ks.length = (txts ds).length := by rw [txts_len]; exact hl
    obtain ⟨bs, lw, K1⟩ := showsAll ok KI ds vs _ hr rv kn s'.2 fun t m => Nat.le_trans (entry_mem_le tl (Or.inr m)) z
    have na : a ∉ bs := lw.not r (by unfold dep; omega)
    refine ⟨a :: bs, lw.top r (by unfold dep; omega), ?_⟩
    unfold txt dep
    exact ReprK.dict ho hex.1 hd hsys na (entries_show rel hp lv rfl s'.1 (fun k m => Nat.le_trans (entry_mem_le tl (Or.inl ⟨k, m, rfl⟩)) z) K1)
  | .exc nm tx, _, _, r, e, kn, s, z => by
    obtain ⟨a, t, dx, rfl, ha, ht⟩ := r.of_exc
    cases e
    obtain ⟨k1, k2, cd, k3, k4⟩ := kn nm (by unfold xcs; exact List.mem_cons_self)
    have hx0 : ∃ o vs, h.get? a = some o ∧ o.cls = .ref (κ nm) ∧ o.data = .fields vs ∧ vs[0]? = some (.ref t) := ⟨_, _, exv_get (ok a _ ha), rfl, rfl, rfl⟩
    obtain ⟨_, its, rv, o, ho, hc, n, hd⟩ := (show ObjOk P w H h t (.tup [.str tx]) from ok t _ ht)
    obtain ⟨u, rfl, tk, rfl⟩ := vals1 rv
    have q : ReprK P w [] h (dep (.exc nm tx)) (.ref a) (exNm cd.name ++ "(" ++ reprText tx ++ ")") := ReprK.exc ⟨KI, hx0⟩ k1 k2 k3 ⟨o, n, ho, hc, hd⟩
    rw [k4] at q
    unfold txt
    exact ⟨[], (fun _ m => by cases m), q⟩
theorem showsAll (ok : HOk P w H h) (KI : K.In h) : ∀ (ds : List D) (vs : List V) (us : List Value), Reps κ H ds vs → Vals vs us → (∀ p ∈ xcss ds, ExKnown K (κ p) p) → sms ds = true → (∀ t ∈ txts ds, t.length ≤ sizeLine) →
    ∃ bs, Low κ H (deps ds) bs ∧ ReprAllK P w bs h (deps ds) us (txts ds)
  | [], _, _, r, e, _, _, _ => by
    rw [r.of_nil] at e
    cases e
    unfold txts
    exact ⟨[], (fun _ m => by cases m), ReprAllK.nil⟩
  | d :: ds, _, _, r, e, kn, s, z => by
    unfold xcss at kn
    obtain ⟨v, ws, rfl, r1, r2⟩ := r.of_cons
    cases e with
    | cons e1 e2 =>
      unfold sms at s
      unfold txts at z
      obtain ⟨s1, s2⟩ := Bool.and_eq_true_iff.mp s
      obtain ⟨b1, l1, k1⟩ := shows ok KI d v _ r1 e1 (fun p m => kn p (List.mem_append_left _ m)) s1 (z _ List.mem_cons_self)
      obtain ⟨b2, l2, k2⟩ := showsAll ok KI ds ws _ r2 e2 (fun p m => kn p (List.mem_append_right _ m)) s2 fun t m => z t (List.mem_cons_of_mem _ m)
      unfold deps txts
      exact ⟨b1 ++ b2, (l1.le (Nat.le_max_left _ _)).app (l2.le (Nat.le_max_right _ _)),
        .cons ((k1.more fun b m => List.mem_append_left _ m).level_le (Nat.le_max_left _ _)) (k2.more_le (fun b m => List.mem_append_right _ m) (Nat.le_max_right _ _))⟩
end
end
end Z

namespace Z
open PySem PySem.Spec PyProof.Rows L2

/-! ### repr -/
open PySem.W (Looks Frag findIn subIn looks_findIn looks_subIn clsIn looks_clsIn)
section
variable {prog : Program} {w : World} {A : Around} {E : Value → Shared → Prop} {s : Shared} {K : Frag} {C e t0 : Addr} {cd : ClassData}
theorem reprC_call (x : ExcC K C e t0 s.heap) (hB : subIn K (.ref C) (.type "BaseException") = some true) (hc : clsIn K C = some cd) {m : Str} {tk : Tok} {Q : Value → Shared → Prop} (ht : s.heap.TupAt t0 [.str m tk])
    (hq : Q (.str (exNm cd.name ++ "(" ++ reprText m ++ ")") (s.toks + 1)) { s with toks := s.toks + 1 + 1 }) (hsz : (exNm cd.name ++ "(" ++ reprText m ++ ")").length ≤ sizeLine) :
    wpAny (model prog w) A (call (.builtin "BaseException.__repr__") [.ref e]) Q E s := by
  refine wpAny_call (codeAny_call_builtin F.excStr_Exception.repr.plain F.entry_bexc_repr ?_)
  exact @PySem.W.check_slot (model prog w) _ _ s "BaseException.__repr__" "BaseException" "__repr__" (.ref e) [] [] _ (by decide +kernel) (by decide +kernel) (x.LI hB) (F.args_bexc_repr _) (reprAt_C 0 x hc ht hq (by omega))
/-- repr(e) of an exception of a class of the program -/
theorem call_repr_exc (x : ExcC K C e t0 s.heap) (hs : findIn K (.ref C) "__repr__" = some (some (.builtin "BaseException.__repr__"))) (hB : subIn K (.ref C) (.type "BaseException") = some true) (hc : clsIn K C = some cd) {m : Str} {tk : Tok}
    (ht : s.heap.TupAt t0 [.str m tk]) (hu : A.units + 1 < cLine) {Q : Value → Shared → Prop} (hq : Q (.str (exNm cd.name ++ "(" ++ reprText m ++ ")") (s.toks + 1)) { s with toks := s.toks + 1 + 1 })
    (hsz : (exNm cd.name ++ "(" ++ reprText m ++ ")").length ≤ sizeLine) : wpAny (model prog w) A (call (.builtin "repr") [.ref e]) Q E s := by
  have hf : Looks (model prog w) s.heap (typeLookup (.ref C) (Str.ofString "__repr__")) (some (.builtin "BaseException.__repr__")) := looks_findIn x.1 hs
  have hbd : bindSpecial (.builtin "BaseException.__repr__") (.ref e) = pure (.builtin "BaseException.__repr__", [.ref e]) := F.excStr_Exception.repr.bind _
  have sp2 : ∀ {A' : Around} {E' : Value → Shared → Prop} {Q : Option Value → Shared → Prop}, Q (some (.builtin "BaseException.__repr__")) s → wpAny (model prog w) A' (specialOf (.ref e) (Str.ofString "__repr__")) Q E' s := fun q => by
    unfold specialOf
    exact wpAny_bind (x.LT.here (hf.here q))
  refine Calls.call_function_entry F.kind_repr F.plain_repr F.entry_repr (F.args_repr1 _) ?_
  unfold Builtin.«repr»
  refine wpAny_bind (m := oneArg "repr" _) (wpAny_pure ?_)
  refine wpAny_bind (wpAny_cRoomFor (show A.in1.units < cLine from hu) ?_)
  refine wpAny_bind (sp2 ?_)
  refine wpAny_bind ?_
  simp only [callSpecialIfBound?, bindSpecialIfBound?]
  refine wpAny_holding (wpAny_bind (wpAny_bind (sp2 ?_)))
  simp only [hbd]
  have fin : ∀ {A' : Around} {E' : Value → Shared → Prop} {Q' : Option Value → Shared → Prop}, Q' (some (.str (exNm cd.name ++ "(" ++ reprText m ++ ")") (s.toks + 1))) { s with toks := s.toks + 1 + 1 } →
      wpAny (model prog w) A' (call (.builtin "BaseException.__repr__") [.ref e] >>= fun v => pure (some v)) Q' E' s := fun q =>
    wpAny_bind (reprC_call x hB hc ht (wpAny_pure q) hsz)
  refine wpAny_bind (wpAny_askSetting (wpAny_ite ?_))
  split
  · refine wpAny_bind (wpAny_pure (wpAny_pure (fin ?_)))
    exact wpAny_bind (wpAny_isInstance (T := "str") (b := true) rfl isSubtype_str_str (wpAny_pure ⟨_, rfl, hq⟩))
  · refine wpAny_tryCatch (wpAny_bind (wpAny_pure (wpAny_pure (fin ?_))))
    exact wpAny_bind (wpAny_isInstance (T := "str") (b := true) rfl isSubtype_str_str (wpAny_pure ⟨_, rfl, hq⟩))
end
def rRp (κ : Str → Addr) (K : PySem.W.Frag) : List V → Hp → VK → Prop := fun vs H Q => ∃ d v, vs = [v] ∧ Rep κ H d v ∧ (∀ p ∈ xcs d, ExKnown K (κ p) p) ∧ sm d = true ∧ (txt d).length ≤ sizeLine ∧ dep d ≤ 64 ∧ Q (.str (txt d)) H
section
variable {κ : Str → Addr} {X : Cx}
theorem u_repr (hr : Rm 1 X.A) : CallR X (.builtin "repr") (rRp κ X.K) := by
  intro pins s σ H vs us Q I r h
  obtain ⟨d, v, rfl, hd, kn, hs, hz, hdep, q⟩ := h
  obtain ⟨u, rfl, ru⟩ := vals1 r
  have hu : X.A.units + 1 + (dep d + 1) < cLine := by have := hr.r.un; omega
  have hg : X.A.in1.guards = some [] := hr.g
  have fin : ∀ h' u tk, (∀ b o, s.heap.get? b = some o → h'.get? b = some o) → EP X pins σ Q (.str (txt d) u) { s with heap := h', toks := tk } :=
    fun h' u tk k => ⟨.str (txt d), H, I.kept (t' := tk) k, ⟨u, rfl⟩, q⟩
  cases d with
  | non =>
    rw [hd.of_non] at ru; cases ru
    unfold txt at fin
    exact P.repr_of_none (fin s.heap _ _ fun _ _ e => e)
  | bl b =>
    rw [hd.of_bl] at ru; cases ru
    unfold txt at fin
    exact P.repr_of_bool (by have q := fin s.heap s.toks (s.toks + 1) fun _ _ e => e; cases b <;> exact q)
  | int i =>
    rw [hd.of_int] at ru; obtain ⟨t, rfl⟩ := ru
    unfold txt at fin
    exact P.repr_of_int (by unfold sm smI at hs; exact of_decide_eq_true hs) (fin s.heap _ _ fun _ _ e => e)
  | str x =>
    rw [hd.of_str] at ru; obtain ⟨t, rfl⟩ := ru
    unfold txt at fin hz
    exact P.repr_of_str (fin s.heap _ _ fun _ _ e => e) hz
  | lst ds =>
    obtain ⟨a, ws, rfl, ha, hrs⟩ := hd.of_lst
    cases ru
    obtain ⟨_, its, n, rv, ho⟩ := (show ObjOk X.prog X.w H s.heap a (.lst ws) from I.hok a _ ha)
    unfold xcs at kn
    unfold sm at hs
    unfold txt at hz fin
    obtain ⟨bs, lw, K⟩ := showsAll I.hok I.kIn ds ws its hrs rv kn hs fun t m => Nat.le_trans (listText_mem_le m) hz
    have na : a ∉ bs := lw.not hd (by unfold dep; omega)
    have hT : s.TypeIs (.ref a) "list" := ⟨_, ho, rfl⟩
    unfold dep at hu
    refine call_repr_slot (by omega) hT F.slot_list_repr.toG ?_
    cases its with
    | nil =>
      cases rv
      have e : ds = [] := List.length_eq_zero_iff.mp (by rw [← hrs.len]; rfl)
      subst e
      have e2 : listText (txts []) = ("[]" : Str) := by unfold txts; exact listText_nil
      rw [e2] at fin
      exact call_list_repr_empty hT ho rfl ⟨_, _, rfl, fin s.heap _ _ fun _ _ e => e⟩
    | cons y l =>
      exact call_list_reprK ho rfl rfl na (by rw [List.size_toArray, ← K.length_eq]) (fun i y e => K.item i y (by simpa using e)) hg (fun b _ => Clear.nil b) (by show X.A.units + 1 + _ < _; omega) (fun _ _ e => e)
        (fun h' u tk k => ⟨_, _, rfl, fin h' u tk k⟩) hz
  | tup ds =>
    obtain ⟨a, ws, rfl, ha, hrs⟩ := hd.of_tup
    cases ru
    obtain ⟨_, its, rv, o, ho, hc, n, hdat⟩ := (show ObjOk X.prog X.w H s.heap a (.tup ws) from I.hok a _ ha)
    unfold xcs at kn
    unfold sm at hs
    unfold txt at hz fin
    obtain ⟨bs, lw, K⟩ := showsAll I.hok I.kIn ds ws its hrs rv kn hs fun t m => Nat.le_trans (tupleText_mem_le m) hz
    have na : a ∉ bs := lw.not hd (by unfold dep; omega)
    have hT : s.TypeIs (.ref a) "tuple" := ⟨o, ho, hc⟩
    unfold dep at hu
    refine call_repr_slot (by omega) hT F.slot_tuple_repr ?_
    exact call_tuple_reprK ho hc hdat na K hg (fun b _ => Clear.nil b) (by show X.A.units + 1 + _ < _; omega) (fun _ _ e => e) (fun h' u tk k => ⟨_, _, rfl, fin h' u tk k⟩) hz
  | exc nm tx' =>
    obtain ⟨a, t, dx, rfl, ha, ht⟩ := hd.of_exc
    cases ru
    obtain ⟨k1, k2, cd, k3, k4⟩ := kn nm (by unfold xcs; exact List.mem_cons_self)
    have hx0 : ∃ o vs, s.heap.get? a = some o ∧ o.cls = .ref (κ nm) ∧ o.data = .fields vs ∧ vs[0]? = some (.ref t) := ⟨_, _, exv_get (I.hok a _ ha), rfl, rfl, rfl⟩
    obtain ⟨_, its, rv, o, ho, hc, n, hdd⟩ := (show ObjOk X.prog X.w H s.heap t (.tup [.str tx']) from I.hok t _ ht)
    obtain ⟨u, rfl, tk, rfl⟩ := vals1 rv
    unfold txt at fin hz
    rw [← k4] at fin hz
    exact call_repr_exc ⟨I.kIn, hx0⟩ k1 k2 k3 ⟨o, n, ho, hc, hdd⟩ (by omega) (fin s.heap _ _ fun _ _ e => e) hz
  | dct ks ds =>
    obtain ⟨a, ws, rfl, ha, hl, hrs⟩ := hd.of_dct
    cases ru
    obtain ⟨_, hsys, kvs, rel, o, es, ep, ho, hex, hdat, _, hp, _⟩ := (show ObjOk X.prog X.w H s.heap a (.dK (ks.zip ws)) from I.hok a _ ha)
    have s' : ks.all smK = true ∧ sms ds = true := by unfold sm at hs; exact Bool.and_eq_true_iff.mp hs
    unfold xcs at kn
    unfold txt at hz fin
    have lv : ks.length = ws.length := by rw [hrs.len]; exact hl
    have tl : ks.length = (txts ds).length := by rw [txts_len]; exact hl
    obtain ⟨bs, lw, K1⟩ := showsAll I.hok I.kIn ds ws _ hrs (vals_zip lv rel) kn s'.2 fun t m => Nat.le_trans (entry_mem_le tl (Or.inr m)) hz
    have na : a ∉ bs := lw.not hd (by unfold dep; omega)
    have hT : s.TypeIs (.ref a) "dict" := ⟨o, ho, hex.1⟩
    unfold dep at hu
    refine call_repr_slot (by omega) hT F.slot_dict_repr ?_
    exact call_dict_reprK ho hex.1 hdat hsys na (entries_show rel hp lv rfl s'.1 (fun k m => Nat.le_trans (entry_mem_le tl (Or.inl ⟨k, m, rfl⟩)) hz) K1) hg (fun b _ => Clear.nil b) (by show X.A.units + 1 + _ < _; omega) (fun _ _ e => e) (fun h' u tk k => ⟨_, _, rfl, fin h' u tk k⟩) hz
end

/-! ### data compared -/
mutual
def py : D → PyData
  | .non => .none
  | .bl b => .bool b
  | .int i => .int i
  | .str x => .str x
  | .lst xs => .list (pys xs)
  | .tup xs => .tuple (pys xs)
  | .dct _ _ | .exc _ _ => .none
def pys : List D → List PyData
  | [] => []
  | x :: xs => py x :: pys xs
end
/-- == of data -/
def eqD (d e : D) : Bool := PyData.eqv (py d) (py e)
section
variable {κ : Str → Addr} {K : PySem.W.Frag} {H : Hp}
mutual
theorem rep_dp : ∀ (d : D) (v : V), plE d = true → Rep κ H d v → Dp K H v (py d)
  | .non, _, _, r => by rw [r.of_non]; unfold py; exact .non
  | .bl b, _, _, r => by rw [r.of_bl]; unfold py; exact .bl b
  | .int i, _, _, r => by rw [r.of_int]; unfold py; exact .int i
  | .str x, _, _, r => by rw [r.of_str]; unfold py; exact .str x
  | .lst ds, _, pe, r => by
    unfold plE at pe
    obtain ⟨a, vs, rfl, ha, hr⟩ := r.of_lst
    unfold py
    exact .lst (SqL.of ha) (reps_dp ds vs pe hr)
  | .dct _ _, _, pe, _ => by unfold plE at pe; cases pe
  | .exc _ _, _, pe, _ => by unfold plE at pe; cases pe
  | .tup ds, _, pe, r => by
    unfold plE at pe
    obtain ⟨a, vs, rfl, ha, hr⟩ := r.of_tup
    unfold py
    exact .tup (SqT.of ha) (reps_dp ds vs pe hr)
theorem reps_dp : ∀ (ds : List D) (vs : List V), plEs ds = true → Reps κ H ds vs → DpAll K H vs (pys ds)
  | [], _, _, r => by rw [r.of_nil]; unfold pys; exact .nil
  | d :: ds, _, pe, r => by
    unfold plEs at pe
    obtain ⟨p1, p2⟩ := Bool.and_eq_true_iff.mp pe
    obtain ⟨v, ws, rfl, r1, r2⟩ := r.of_cons
    unfold pys
    exact .cons (rep_dp d v p1 r1) (reps_dp ds ws p2 r2)
end
end
mutual
theorem py_ok : ∀ d : D, sm d = true → (py d).canLay0 = true
  | .non, _ => by unfold py PyData.canLay0; rfl
  | .bl _, _ => by unfold py PyData.canLay0; rfl
  | .int _, _ => by unfold py PyData.canLay0; rfl
  | .str x, h => by unfold sm at h; unfold py PyData.canLay0; exact h
  | .lst xs, h => by unfold sm at h; unfold py PyData.canLay0; exact pys_ok xs h
  | .tup xs, h => by unfold sm at h; unfold py PyData.canLay0; exact pys_ok xs h
  | .dct _ _, _ => by unfold py PyData.canLay0; rfl
  | .exc _ _, _ => by unfold py PyData.canLay0; rfl
theorem pys_ok : ∀ ds : List D, sms ds = true → PyData.canLayAll0 (pys ds) = true
  | [], _ => by unfold pys PyData.canLayAll0; rfl
  | d :: ds, h => by
    unfold sms at h
    obtain ⟨h1, h2⟩ := Bool.and_eq_true_iff.mp h
    unfold pys PyData.canLayAll0
    rw [py_ok d h1, pys_ok ds h2]; rfl
end
mutual
theorem py_dep : ∀ d : D, (py d).depth ≤ dep d
  | .non => by unfold py dep PyData.depth; exact Nat.le_refl _
  | .bl _ => by unfold py dep PyData.depth; exact Nat.le_refl _
  | .int _ => by unfold py dep PyData.depth; exact Nat.le_refl _
  | .str x => by unfold py dep PyData.depth; exact Nat.le_refl _
  | .lst xs => by unfold py dep PyData.depth; exact Nat.succ_le_succ (pys_dep xs)
  | .tup xs => by unfold py dep PyData.depth; exact Nat.succ_le_succ (pys_dep xs)
  | .dct _ _ => by unfold py PyData.depth; exact Nat.zero_le _
  | .exc _ _ => by unfold py PyData.depth; exact Nat.zero_le _
theorem pys_dep : ∀ ds : List D, PyData.depthAll (pys ds) ≤ deps ds
  | [] => by unfold pys deps PyData.depthAll; exact Nat.le_refl _
  | d :: ds => by
    have h1 := py_dep d
    have h2 := pys_dep ds
    unfold pys deps PyData.depthAll
    omega
end
theorem shaped_of {d : D} (h : sm d = true) (k : dep d ≤ 64) : SeqAt.shaped (py d) = true := by
  unfold SeqAt.shaped
  have h2 := Nat.le_trans (py_dep d) k
  rw [py_ok d h]
  simp [h2]
mutual
theorem eqD_self : ∀ d : D, eqD d d = true
  | .non => by unfold eqD py PyData.eqv; rfl
  | .bl _ => by unfold eqD py PyData.eqv; simp
  | .int _ => by unfold eqD py PyData.eqv; simp
  | .str x => by unfold eqD py PyData.eqv; simp
  | .lst xs => by unfold eqD py PyData.eqv; exact eqDs_self xs
  | .tup xs => by unfold eqD py PyData.eqv; exact eqDs_self xs
  | .dct _ _ => by unfold eqD py PyData.eqv; rfl
  | .exc _ _ => by unfold eqD py PyData.eqv; rfl
theorem eqDs_self : ∀ ds : List D, PyData.eqvAll (pys ds) (pys ds) = true
  | [] => by unfold pys PyData.eqvAll; rfl
  | d :: ds => by
    unfold pys PyData.eqvAll
    have h1 : PyData.eqv (py d) (py d) = true := eqD_self d
    rw [h1, eqDs_self ds]; rfl
end
/-- what repr asks of data with dicts and exceptions -/
structure FitX (κ : Str → Addr) (K : PySem.W.Frag) (d : D) : Prop where
  kn : ∀ p ∈ xcs d, ExKnown K (κ p) p
  sm : sm d = true
  dep : dep d ≤ 64
  len : (txt d).length ≤ sizeLine
/-- what == and repr ask of data -/
structure Fit (d : D) : Prop where
  pe : plE d = true
  sm : sm d = true
  dep : dep d ≤ 64
  len : (txt d).length ≤ sizeLine

/-! ### operators by their operands' kinds -/
abbrev tI2 (C : Int → Int → Prop) (g : Int → Int → V) : R2 := rI C g
/-- a + b -/
def uAdd (K : PySem.W.Frag) : R2 := fun x y H Q => rI0 (fun i j => .int (i + j)) x y H Q ∨
  (∃ i j, x = .str i ∧ y = .str j ∧ i.length + j.length ≤ sizeLine ∧ Q (.str (i ++ j)) H) ∨ rCat x y H Q ∨ rCatA K x y H Q
/-- a * b -/
def uMul : R2 := fun x y H Q => rI CMulX (fun i j => .int (i * j)) x y H Q ∨ rRep x y H Q
/-- a == b, a != b: scalars, or data -/
def uEq (K : PySem.W.Frag) : R2 := fun x y H Q => rEq x y H Q ∨ rEqD K x y H Q
def uNe (K : PySem.W.Frag) : R2 := fun x y H Q => rNe x y H Q ∨ rNeD K x y H Q
/-- a[i] -/
abbrev uIx (K : PySem.W.Frag) : R2 := rIx K
def uLen (K : PySem.W.Frag) : List V → Hp → VK → Prop := fun xs H Q => (∃ p ys, xs = [.ref p] ∧ (SqL K H p ys ∨ SqT K H p ys) ∧ Q (.int ys.length) H) ∨ (∃ z, xs = [.str z] ∧ z.length ≤ sizeLine ∧ Q (.int z.length) H)
section
variable {X : Cx}
theorem u_add : OpR X (binaryOp .Add) (uAdd X.K) := op_add.or (op_add_str.or (op_cat.or op_catA))
theorem u_mul : OpR X (binaryOp .Mult) uMul := op_mulX.or op_rep
theorem u_eq (hr : Rm 1 X.A) : OpR X (compareOp .Eq) (uEq X.K) := op_eq.or (op_eqD hr.r.units)
theorem u_ne (hr : Rm 1 X.A) : OpR X (compareOp .NotEq) (uNe X.K) := op_ne.or (op_neD hr.r.units)
theorem u_len : CallR X (.builtin "len") (uLen X.K) := call_len_seq.or call_len_str
end
end Z

namespace Z
open PySem PySem.Spec PyProof.Rows L2

/-- the script at the law's entry: F nothing but it -/
def ScriptAt (K : PySem.W.Frag) (F : Hp) (a : Addr) (ns : List Int) : Prop := SqL K F a (ns.map V.int) ∧ ns.length ≤ 63
/-- what a law promises: True -/
def spTrue (K : PySem.W.Frag) : Sp := fun vs H Q _ => ∃ a ns, vs = [.ref a] ∧ ScriptAt K H a ns ∧ (∀ b, H b = none ∨ ∃ o xs, H b = some (.frz o (.lst xs))) ∧ ∀ H', Q (.bl true) H'

theorem z_core {P : Program} {w : World} {K : PySem.W.Frag} {mg mb : Str → Option Value} {k : Nat} {fa a : Addr} {fd : FuncData} {x : Str} {s : Shared} {vs : List Value} {ns : List Int} {H : Hp}
    (KX : K.In s.heap) (hg : s.heap.Ns mainGlobals mg) (hb : s.heap.Ns builtinsNs mb) (hbb : ∀ x : Str, x ≠ "__name__" → mb x = bootBuiltins x) (lim : s.heap.NoLimit) (gens : s.gens = #[])
    (ha : s.heap.get? a = some { cls := .type "list", data := .seq vs.toArray }) (hr : Rm k callerA)
    (G : ∀ base : Heap, K.In base → base.Ns mainGlobals mg → Fn ⟨P, w, K, mg, base⟩ k fa fd [x] (spTrue K)) (bind : ∀ (s : Shared) (u : Value), BindsTo s fd ⟨[u], []⟩ [(x, u)])
    (only : ∀ b, H b = none ∨ ∃ o xs, H b = some (.frz o (.lst xs))) (sc : ScriptAt K H a ns) (ok : HOk P w H s.heap) (one : ∀ b, H b ≠ none → b = a) (nk : H a ≠ none → K.lookup a = none) :
    codeAny (model P w) callerA (.call (.ref fa) ⟨[.ref a], []⟩) (fun r s' => r = .ok (.ret (.bool true)) ∧ OldK s.heap s'.heap ∧ s'.os = s.os ∧ AllBare s'.gens) s := by
  have hid : ∀ {b : Addr} {o : Obj}, s.heap.get? b = some o → H b = none → (hidT s.heap H).get? b = some o := fun e n => hidT_get e n
  have dicts : ∀ {b : Addr} {o : Obj} {es : Array DictEntry} {n : Nat}, s.heap.get? b = some o → o.data = .dict es n → H b = none := by
    intro b o es n e d
    cases q : H b with
    | none => rfl
    | some u =>
      obtain rfl := one b (some_ne q)
      rw [ha] at e
      cases e
      cases d
  have nsB : ∀ {b : Addr} {m : Str → Option Value}, s.heap.Ns b m → (hidT s.heap H).Ns b m := by
    intro b m h
    obtain ⟨o, es, n, e, d, r⟩ := h
    exact ⟨o, es, n, hid e (dicts e d), d, r⟩
  have KB : K.In (hidT s.heap H) := by
    intro b o e
    refine hid (KX b o e) ?_
    cases q : H b with
    | none => rfl
    | some u =>
      obtain rfl := one b (some_ne q)
      rw [nk (some_ne q)] at e
      cases e
  obtain ⟨mc, l1, l2⟩ := lim
  have M : Mod K mg (hidT s.heap H) := ⟨KB, nsB hg, ⟨mb, nsB hb, hbb⟩, ⟨mc, nsB l1, l2⟩⟩
  have E0 : Env0 P w K mg (hidT s.heap H) callerA [] s H :=
    ⟨rfl, M, fun b o e => of_hidT e, Nat.le_of_eq (hidT_size _ _), trivial, fun b z => absurd z (by simp [frs]), ok, .of_eq gens⟩
  have run := (G _ KB (nsB hg)).go callerA [] s H ⟨[.ref a], []⟩ [.ref a] [.ref a] (fun v _ => v = .bl true) (fun _ _ _ => False) hr E0 (bind s (.ref a)) (.cons rfl .nil) ⟨a, ns, rfl, sc, only, fun _ => rfl⟩
  refine codeAny_mono run fun r s' z => ?_
  match r, z with
  | .error u, z =>
    obtain ⟨_, _, _, _, _, _, _, _, _, _, _, _, f⟩ := z
    exact f.elim
  | .ok .next, z => exact False.elim z
  | .ok .brk, z => exact False.elim z
  | .ok .cont, z => exact False.elim z
  | .ok (.ret u), z =>
    obtain ⟨v, H', os, bare, un, ok', rv, ev⟩ := z
    have ev' : v = .bl true := ev
    subst ev'
    cases rv
    refine ⟨rfl, OldK.of_keep fun b o e => ?_, os, bare⟩
    rcases only b with n | ⟨ob, xs, n⟩
    · exact un.keep b o e n (by simp [frs]) (by simp)
    · obtain ⟨e1, _⟩ := ok b _ n
      obtain ⟨e2, _⟩ := ok' b _ (un.frzs b ob _ n)
      rw [e] at e1
      cases e1
      exact e2
/-- the goal that k_head leaves -/
theorem z_walk {l : PySem.W.OpenLaw} {k : Nat} {q : Program} {loose : List Str} {XP : (Str → Option Value) → Heap → Prop} {YP : World → Heap → Prop} {d : DefRec} {K : Params → PySem.W.Frag} {x : Str}
    (h63 : l.most = some 63) (nod : d.params.defaults = []) (hr : Rm k callerA) (hY : ∀ (w : World) (h : Heap), YP w h → (K w.params).In h)
    (G : ∀ (w : World) (mg : Str → Option Value) (fa : Addr) (h : Heap), (K w.params).In h → h.Ns mainGlobals mg → XP mg h → mg d.name = some (.ref fa) →
      ∃ fd : FuncData, (∀ (s : Shared) (u : Value), BindsTo s fd ⟨[u], []⟩ [(x, u)]) ∧
        ∀ base : Heap, (K w.params).In base → base.Ns mainGlobals mg → Fn ⟨l.prog, w, K w.params, mg, base⟩ k fa fd [x] (spTrue (K w.params))) :
    PySem.W.WalkO q loose XP YP l.row.toRowW d [] (fun f vs => PySem.call f vs) := by
  refine Att.attach_call h63 nod fun w s₀ s mg mb fa o pm cd doc a vs ns GR Y ho hd hcd hmg hobj hints hlen hgen => ?_
  have KX := hY w _ Y
  obtain ⟨fd, hb, hF⟩ := G w mg fa _ KX GR.T.g GR.X hmg
  have rv := vals_ints hints
  have z63 : ns.length ≤ sizeLine := Nat.le_trans hlen (by decide)
  cases hk : (K w.params).lookup a with
  | some ob =>
    have e := KX a ob hk
    rw [hobj] at e
    cases e
    refine z_core (H := fun _ => none) KX GR.T.g GR.T.b GR.T.builtins GR.T.nolimit hgen hobj hr hF hb (fun _ => Or.inl rfl) ⟨?_, hlen⟩ (fun b u z => by cases z) (fun b z => absurd rfl z) fun z => absurd rfl z
    exact Or.inr ⟨_, vs.toArray, _, hk, rfl, rfl, rfl, by rw [List.size_toArray, hints.length]; exact z63, by simpa using rv⟩
  | none =>
    have at' : ∀ {b : Addr}, b ≠ a → (fun b => if b = a then some (HO.frz { cls := .type "list", data := .seq vs.toArray } (.lst (ns.map V.int))) else none) b = none := fun h => if_neg h
    refine z_core (H := fun b => if b = a then some (.frz { cls := .type "list", data := .seq vs.toArray } (.lst (ns.map V.int))) else none) KX GR.T.g GR.T.b GR.T.builtins GR.T.nolimit hgen hobj hr hF hb
      (fun b => ?_) ⟨Or.inl (Or.inr ⟨{ cls := .type "list", data := .seq vs.toArray }, if_pos rfl⟩), hlen⟩ (fun b u z => ?_) (fun b z => ?_) fun _ => hk
    · by_cases hb : b = a
      · exact Or.inr ⟨_, _, if_pos hb⟩
      · exact Or.inl (at' hb)
    · by_cases hb : b = a
      · subst hb
        have e : some (HO.frz { cls := .type "list", data := .seq vs.toArray } (.lst (ns.map V.int))) = some u := (if_pos rfl).symm.trans z
        cases e
        exact ⟨hobj, by rw [List.length_map]; exact z63, vs, _, rv, hobj⟩
      · have e : none = some u := (at' hb).symm.trans z
        cases e
    · by_cases hb : b = a
      · exact hb
      · exact absurd (at' hb) z
end Z

namespace Z
open PySem PySem.Spec PyProof.Rows L2

/-- a value: data that never changes (lists that are never written, too), or the n-th thing of the store -/
inductive U where
  | non | bl (b : Bool) | int (i : Int) | str (s : Str) | lst (xs : List U) | tup (xs : List U)
  | dct (ks : List Key) (xs : List U) | dtt (ks : List (List Key)) (xs : List U)
  | exc (nm tx : Str) (ks : List Str) (xs : List U) | cel (n : Nat) | scr (ns : List Int)
/-- a thing of the store -/
inductive Cl where
  | lst (xs : List U) | dK (kvs : List (Key × U)) | dT (kvs : List (List Key × U)) | ins (c : Str) (fs : List (Str × U))
  | fK (kvs : List (Key × U)) | fT (kvs : List (List Key × U))
/-- a dict that is walked: it stays as it is -/
def Cl.fz : Cl → Bool
  | .fK _ => true
  | .fT _ => true
  | _ => false
/-- where things stand: the classes, the store's things, the part of the heap that never changes -/
structure Om where
  /-- where a class stands; the exception classes; the classes of instances -/
  ad : Str → Addr
  kc : Str → Prop
  ki : Str → Prop
  /-- the script, where it stands in the written part -/
  ks : Addr → List Int → Prop
structure Gd where
  ca : Om
  al : List Addr
  F : Hp
/-- d: the own dict of an exception that has the attributes ks, or none where it has none -/
def XdAt (F : Hp) (ks : List Str) (vs : List V) (d : Option Addr) : Prop := (d = none ∧ ks = []) ∨ ∃ dx, d = some dx ∧ F dx = some (.xd (ks.zip vs))
theorem XdAt.mono {F F' : Hp} {ks : List Str} {vs : List V} {d : Option Addr} (s : Same F F') (h : XdAt F ks vs d) : XdAt F' ks vs d := by
  rcases h with h | ⟨dx, e, h⟩
  · exact Or.inl h
  · exact Or.inr ⟨dx, e, s dx _ h⟩
mutual
def Rp (g : Gd) : U → V → Prop
  | .non, v => v = .non
  | .bl b, v => v = .bl b
  | .int i, v => v = .int i
  | .str x, v => v = .str x
  | .lst us, v => ∃ a vs, v = .ref a ∧ g.F a = some (.lst vs) ∧ Rps g us vs
  | .tup us, v => ∃ a vs, v = .ref a ∧ g.F a = some (.tup vs) ∧ Rps g us vs
  | .dct ks us, v => ∃ a vs, v = .ref a ∧ g.F a = some (.dK (ks.zip vs)) ∧ ks.length = us.length ∧ Rps g us vs
  | .dtt ks us, v => ∃ a vs, v = .ref a ∧ g.F a = some (.dT (ks.zip vs)) ∧ ks.length = us.length ∧ Rps g us vs
  | .exc nm tx ks us, v => g.ca.kc nm ∧ ∃ a t d vs, v = .ref a ∧ g.F a = some (exv (g.ca.ad nm) t d a) ∧ g.F t = some (.tup [.str tx]) ∧ XdAt g.F ks vs d ∧ ks.length = us.length ∧ Rps g us vs
  | .cel n, v => ∃ a, g.al[n]? = some a ∧ v = .ref a
  | .scr ns, v => ∃ a, v = .ref a ∧ ((∃ o, g.F a = some (.frz o (.lst (ns.map V.int)))) ∨ g.ca.ks a ns)
def Rps (g : Gd) : List U → List V → Prop
  | [], vs => vs = []
  | d :: ds, vs => ∃ v ws, vs = v :: ws ∧ Rp g d v ∧ Rps g ds ws
end
section
variable {g g' : Gd}
mutual
theorem Rp.mono (s : Same g.F g'.F) (c : g'.ca = g.ca) (l : ∀ (n : Nat) (a : Addr), g.al[n]? = some a → g'.al[n]? = some a) : ∀ (d : U) (v : V), Rp g d v → Rp g' d v
  | .non, _, h => by unfold Rp at h ⊢; exact h
  | .bl _, _, h => by unfold Rp at h ⊢; exact h
  | .int _, _, h => by unfold Rp at h ⊢; exact h
  | .str _, _, h => by unfold Rp at h ⊢; exact h
  | .lst ds, _, h => by
    unfold Rp at h ⊢
    obtain ⟨a, vs, e, ha, hs⟩ := h
    exact ⟨a, vs, e, s a _ ha, Rps.mono s c l ds vs hs⟩
  | .tup ds, _, h => by
    unfold Rp at h ⊢
    obtain ⟨a, vs, e, ha, hs⟩ := h
    exact ⟨a, vs, e, s a _ ha, Rps.mono s c l ds vs hs⟩
  | .dct ks ds, _, h => by
    unfold Rp at h ⊢
    obtain ⟨a, vs, e, ha, hl, hs⟩ := h
    exact ⟨a, vs, e, s a _ ha, hl, Rps.mono s c l ds vs hs⟩
  | .dtt ks ds, _, h => by
    unfold Rp at h ⊢
    obtain ⟨a, vs, e, ha, hl, hs⟩ := h
    exact ⟨a, vs, e, s a _ ha, hl, Rps.mono s c l ds vs hs⟩
  | .exc nm tx ks ds, _, h => by
    unfold Rp at h ⊢
    obtain ⟨kc, a, t, dx, vs, e, ha, ht, hd, hl, hs⟩ := h
    exact ⟨by rw [c]; exact kc, a, t, dx, vs, e, by rw [c]; exact s a _ ha, s t _ ht, hd.mono s, hl, Rps.mono s c l ds vs hs⟩
  | .cel n, _, h => by
    unfold Rp at h ⊢
    obtain ⟨a, ha, e⟩ := h
    exact ⟨a, l n a ha, e⟩
  | .scr ns, _, h => by
    unfold Rp at h ⊢
    obtain ⟨a, e, h⟩ := h
    refine ⟨a, e, ?_⟩
    rcases h with ⟨o, h⟩ | h
    · exact Or.inl ⟨o, s a _ h⟩
    · exact Or.inr (by rw [c]; exact h)
theorem Rps.mono (s : Same g.F g'.F) (c : g'.ca = g.ca) (l : ∀ (n : Nat) (a : Addr), g.al[n]? = some a → g'.al[n]? = some a) : ∀ (ds : List U) (vs : List V), Rps g ds vs → Rps g' ds vs
  | [], _, h => by unfold Rps at h ⊢; exact h
  | d :: ds, _, h => by
    unfold Rps at h ⊢
    obtain ⟨v, ws, e, h1, h2⟩ := h
    exact ⟨v, ws, e, Rp.mono s c l d v h1, Rps.mono s c l ds ws h2⟩
end
theorem rp_non : Rp g .non .non := by unfold Rp; rfl
theorem rp_bl {b : Bool} : Rp g (.bl b) (.bl b) := by unfold Rp; rfl
theorem rp_int {i : Int} : Rp g (.int i) (.int i) := by unfold Rp; rfl
theorem rp_str {x : Str} : Rp g (.str x) (.str x) := by unfold Rp; rfl
theorem rp_cel {n : Nat} {a : Addr} (h : g.al[n]? = some a) : Rp g (.cel n) (.ref a) := by unfold Rp; exact ⟨a, h, rfl⟩
theorem rp_lst {ds : List U} {a : Addr} {vs : List V} (h : g.F a = some (.lst vs)) (r : Rps g ds vs) : Rp g (.lst ds) (.ref a) := by
  unfold Rp; exact ⟨a, vs, rfl, h, r⟩
theorem rp_tup {ds : List U} {a : Addr} {vs : List V} (h : g.F a = some (.tup vs)) (r : Rps g ds vs) : Rp g (.tup ds) (.ref a) := by
  unfold Rp; exact ⟨a, vs, rfl, h, r⟩
theorem rp_dct {ks : List Key} {ds : List U} {a : Addr} {vs : List V} (h : g.F a = some (.dK (ks.zip vs))) (l : ks.length = ds.length) (r : Rps g ds vs) : Rp g (.dct ks ds) (.ref a) := by
  unfold Rp; exact ⟨a, vs, rfl, h, l, r⟩
theorem rp_dtt {ks : List (List Key)} {ds : List U} {a : Addr} {vs : List V} (h : g.F a = some (.dT (ks.zip vs))) (l : ks.length = ds.length) (r : Rps g ds vs) : Rp g (.dtt ks ds) (.ref a) := by
  unfold Rp; exact ⟨a, vs, rfl, h, l, r⟩
theorem rps_nil : Rps g [] [] := by unfold Rps; rfl
theorem rps_cons {d : U} {ds : List U} {v : V} {vs : List V} (h : Rp g d v) (r : Rps g ds vs) : Rps g (d :: ds) (v :: vs) := by
  unfold Rps; exact ⟨v, vs, rfl, h, r⟩
theorem Rp.of_non {v : V} (h : Rp g .non v) : v = .non := by unfold Rp at h; exact h
theorem Rp.of_bl {b : Bool} {v : V} (h : Rp g (.bl b) v) : v = .bl b := by unfold Rp at h; exact h
theorem Rp.of_int {i : Int} {v : V} (h : Rp g (.int i) v) : v = .int i := by unfold Rp at h; exact h
theorem Rp.of_str {x : Str} {v : V} (h : Rp g (.str x) v) : v = .str x := by unfold Rp at h; exact h
theorem Rp.of_cel {n : Nat} {v : V} (h : Rp g (.cel n) v) : ∃ a, g.al[n]? = some a ∧ v = .ref a := by unfold Rp at h; exact h
theorem Rp.of_scr {ns : List Int} {v : V} (h : Rp g (.scr ns) v) : ∃ a, v = .ref a ∧ ((∃ o, g.F a = some (.frz o (.lst (ns.map V.int)))) ∨ g.ca.ks a ns) := by unfold Rp at h; exact h
theorem Rp.of_lst {ds : List U} {v : V} (h : Rp g (.lst ds) v) : ∃ a vs, v = .ref a ∧ g.F a = some (.lst vs) ∧ Rps g ds vs := by unfold Rp at h; exact h
theorem Rp.of_tup {ds : List U} {v : V} (h : Rp g (.tup ds) v) : ∃ a vs, v = .ref a ∧ g.F a = some (.tup vs) ∧ Rps g ds vs := by unfold Rp at h; exact h
theorem Rp.of_dct {ks : List Key} {ds : List U} {v : V} (h : Rp g (.dct ks ds) v) : ∃ a vs, v = .ref a ∧ g.F a = some (.dK (ks.zip vs)) ∧ ks.length = ds.length ∧ Rps g ds vs := by unfold Rp at h; exact h
theorem Rp.of_dtt {ks : List (List Key)} {ds : List U} {v : V} (h : Rp g (.dtt ks ds) v) : ∃ a vs, v = .ref a ∧ g.F a = some (.dT (ks.zip vs)) ∧ ks.length = ds.length ∧ Rps g ds vs := by unfold Rp at h; exact h
theorem Rp.of_exc {nm tx : Str} {ks : List Str} {us : List U} {v : V} (h : Rp g (.exc nm tx ks us) v) : g.ca.kc nm ∧ ∃ a t d vs, v = .ref a ∧ g.F a = some (exv (g.ca.ad nm) t d a) ∧ g.F t = some (.tup [.str tx]) ∧ XdAt g.F ks vs d ∧ ks.length = us.length ∧ Rps g us vs := by unfold Rp at h; exact h
theorem Rps.of_nil {vs : List V} (h : Rps g [] vs) : vs = [] := by unfold Rps at h; exact h
theorem Rps.of_cons {d : U} {ds : List U} {vs : List V} (h : Rps g (d :: ds) vs) : ∃ v ws, vs = v :: ws ∧ Rp g d v ∧ Rps g ds ws := by unfold Rps at h; exact h
theorem Rps.len : ∀ {ds : List U} {vs : List V}, Rps g ds vs → vs.length = ds.length
  | [], _, h => by rw [h.of_nil]; rfl
  | d :: ds, _, h => by
    obtain ⟨v, ws, rfl, _, h2⟩ := h.of_cons
    rw [List.length_cons, List.length_cons, Rps.len h2]
theorem Rps.app : ∀ {ds es : List U} {vs ws : List V}, Rps g ds vs → Rps g es ws → Rps g (ds ++ es) (vs ++ ws)
  | [], _, _, _, h, k => by rw [h.of_nil]; exact k
  | d :: ds, _, _, _, h, k => by
    obtain ⟨v, us, rfl, h1, h2⟩ := h.of_cons
    exact rps_cons h1 (Rps.app h2 k)
theorem Rps.get : ∀ {ds : List U} {vs : List V} {i : Nat} {d : U}, Rps g ds vs → ds[i]? = some d → ∃ v, vs[i]? = some v ∧ Rp g d v
  | [], _, _, _, _, e => by simp at e
  | d :: ds, _, 0, _, h, e => by
    obtain ⟨v, ws, rfl, h1, h2⟩ := h.of_cons
    simp at e; subst e
    exact ⟨v, rfl, h1⟩
  | d :: ds, _, i + 1, _, h, e => by
    obtain ⟨v, ws, rfl, h1, h2⟩ := h.of_cons
    obtain ⟨u, e1, e2⟩ := Rps.get (i := i) h2 (by simpa using e)
    exact ⟨u, by simpa using e1, e2⟩
theorem Rps.got : ∀ {ds : List U} {vs : List V} {i : Nat} {v : V}, Rps g ds vs → vs[i]? = some v → ∃ d, ds[i]? = some d ∧ Rp g d v
  | [], _, _, _, h, e => by rw [h.of_nil] at e; simp at e
  | d :: ds, _, 0, _, h, e => by
    obtain ⟨v, ws, rfl, h1, h2⟩ := h.of_cons
    simp at e; subst e
    exact ⟨d, rfl, h1⟩
  | d :: ds, _, i + 1, _, h, e => by
    obtain ⟨v, ws, rfl, h1, h2⟩ := h.of_cons
    obtain ⟨u, e1, e2⟩ := Rps.got (i := i) h2 (by simpa using e)
    exact ⟨u, by simpa using e1, e2⟩
theorem Rps.take : ∀ {ds : List U} {vs : List V} (n : Nat), Rps g ds vs → Rps g (ds.take n) (vs.take n)
  | _, _, 0, _ => by rw [List.take_zero, List.take_zero]; exact rps_nil
  | [], _, n + 1, h => by rw [h.of_nil]; exact rps_nil
  | d :: ds, _, n + 1, h => by
    obtain ⟨v, ws, rfl, h1, h2⟩ := h.of_cons
    exact rps_cons h1 (Rps.take n h2)
theorem Rps.drop : ∀ {ds : List U} {vs : List V} (n : Nat), Rps g ds vs → Rps g (ds.drop n) (vs.drop n)
  | _, _, 0, h => h
  | [], _, n + 1, h => by rw [h.of_nil]; exact rps_nil
  | d :: ds, _, n + 1, h => by
    obtain ⟨v, ws, rfl, h1, h2⟩ := h.of_cons
    exact Rps.drop n h2
theorem Rps.rev : ∀ {ds : List U} {vs : List V}, Rps g ds vs → Rps g ds.reverse vs.reverse
  | [], _, h => by rw [h.of_nil]; exact rps_nil
  | d :: ds, _, h => by
    obtain ⟨v, ws, rfl, h1, h2⟩ := h.of_cons
    rw [List.reverse_cons, List.reverse_cons]
    exact Rps.app (Rps.rev h2) (rps_cons h1 rps_nil)
theorem Rps.set {d : U} {v : V} (r : Rp g d v) : ∀ {ds : List U} {vs : List V} (i : Nat), Rps g ds vs → Rps g (ds.set i d) (vs.set i v)
  | [], _, _, h => by rw [h.of_nil]; exact rps_nil
  | e :: ds, _, 0, h => by
    obtain ⟨u, ws, rfl, h1, h2⟩ := h.of_cons
    exact rps_cons r h2
  | e :: ds, _, i + 1, h => by
    obtain ⟨u, ws, rfl, h1, h2⟩ := h.of_cons
    exact rps_cons h1 (Rps.set r i h2)
theorem rps_rep {d : U} {v : V} (h : Rp g d v) : ∀ n : Nat, Rps g (List.replicate n d) (List.replicate n v)
  | 0 => rps_nil
  | n + 1 => rps_cons h (rps_rep h n)
theorem rps_flat {ds : List U} {vs : List V} (h : Rps g ds vs) : ∀ n : Nat, Rps g (List.replicate n ds).flatten (List.replicate n vs).flatten
  | 0 => rps_nil
  | n + 1 => by rw [List.replicate_succ, List.replicate_succ, List.flatten_cons, List.flatten_cons]; exact h.app (rps_flat h n)
/-- pairs: the same keys, values that stand for values -/
def RpF {κ : Type} (g : Gd) : List (κ × U) → List (κ × V) → Prop := Paired fun p q => p.1 = q.1 ∧ Rp g p.2 q.2
theorem RpF.mono {κ : Type} (s : Same g.F g'.F) (c : g'.ca = g.ca) (l : ∀ (n : Nat) (a : Addr), g.al[n]? = some a → g'.al[n]? = some a) {xs : List (κ × U)} {ys : List (κ × V)} (h : RpF g xs ys) : RpF g' xs ys :=
  Paired.mapP h fun p q r => ⟨r.1, r.2.mono s c l _ _⟩
end

theorem fnone {F H : Hp} {p : Addr} (hF : Same F H) (hp : H p = none) : F p = none := by
  cases e : F p with
  | none => rfl
  | some u => rw [hF p u e] at hp; cases hp
/-- an object that was not there at the start is written -/
theorem Ext.hid {B : List Addr} {F H F1 H1 : Hp} {p : Addr} {o : HO} (x : Ext B F H F1 H1) (hp : H p = none) (fp : F1 p = none) : Ext B F H F1 (upd H1 p o) where
  ff := x.ff
  fh := fun a u h => by rw [upd_ne (ne_of_none h fp)]; exact x.fh a u h
  hh := fun a u n h => by rw [upd_ne (ne_of_none h hp)]; exact x.hh a u n h
  nw := x.nw
  st := fun a n => by
    by_cases z : a = p
    · rw [z]; exact absurd hp (by rw [← z]; exact n)
    · rw [upd_ne z]; exact x.st a n
/-- at a stands c -/
def CelAt (g : Gd) (H : Hp) : Cl → Addr → Prop
  | .lst us, a => ∃ vs, H a = some (.lst vs) ∧ Rps g us vs
  | .dK kvs, a => ∃ vs, H a = some (.dK vs) ∧ RpF g kvs vs
  | .dT kvs, a => ∃ vs, H a = some (.dT vs) ∧ RpF g kvs vs
  | .ins c fs, a => g.ca.ki c ∧ ∃ dx vs, H a = some (.ins (g.ca.ad c) dx vs) ∧ RpF g fs vs
  | .fK kvs, a => ∃ vs, (∃ o, H a = some (.frz o (.dK vs))) ∧ RpF g kvs vs
  | .fT kvs, a => ∃ vs, (∃ o, H a = some (.frz o (.dT vs))) ∧ RpF g kvs vs
theorem CelAt.ne {g : Gd} {H : Hp} {a : Addr} : ∀ {c : Cl}, CelAt g H c a → H a ≠ none
  | .lst _, ⟨_, h, _⟩ => some_ne h
  | .dK _, ⟨_, h, _⟩ => some_ne h
  | .dT _, ⟨_, h, _⟩ => some_ne h
  | .ins _ _, ⟨_, _, _, h, _⟩ => some_ne h
  | .fK _, ⟨_, ⟨_, h⟩, _⟩ => some_ne h
  | .fT _, ⟨_, ⟨_, h⟩, _⟩ => some_ne h
theorem CelAt.nt {g : Gd} {H : Hp} {a : Addr} : ∀ {c : Cl}, CelAt g H c a → c.fz = false → ∀ u, Lrn u → H a ≠ some u
  | .lst _, ⟨_, h, _⟩, _ => fun u l e => by rw [h] at e; cases e; exact l
  | .dK _, ⟨_, h, _⟩, _ => fun u l e => by rw [h] at e; cases e; exact l
  | .dT _, ⟨_, h, _⟩, _ => fun u l e => by rw [h] at e; cases e; exact l
  | .ins _ _, ⟨_, _, _, h, _⟩, _ => fun u l e => by rw [h] at e; cases e; exact l
  | .fK _, _, f => by cases f
  | .fT _, _, f => by cases f
/-- what F knows of a thing of the store: nothing, or, where it is walked, all -/
def Fx (g : Gd) (H : Hp) (c : Cl) (a : Addr) : Prop := if c.fz = true then g.F a = H a else g.F a = none
theorem Fx.no {g : Gd} {H : Hp} {c : Cl} {a : Addr} (h : Fx g H c a) (f : c.fz = false) : g.F a = none := by unfold Fx at h; rw [f] at h; exact h
theorem Fx.of {g : Gd} {H : Hp} {c : Cl} {a : Addr} (h : g.F a = none) (f : c.fz = false) : Fx g H c a := by unfold Fx; rw [f]; exact h
theorem Fx.mono {g g' : Gd} {H H' : Hp} {c : Cl} {a : Addr} (h : Fx g H c a) (e : H' a = H a) (n : H a ≠ none) (s : Same g.F g'.F) (f : c.fz = false → g'.F a = none) : Fx g' H' c a := by
  unfold Fx at h ⊢
  cases q : c.fz with
  | false => exact f q
  | true =>
    rw [q] at h
    show g'.F a = H' a
    have h1 : g.F a = H a := h
    cases hu : H a with
    | none => exact absurd hu n
    | some u => rw [e, hu]; exact s a u (h1.trans hu)
/-- the heap H bears the store S -/
structure Cor (g : Gd) (H : Hp) (S : List Cl) : Prop where
  fh : Same g.F H
  len : g.al.length = S.length
  at_ : ∀ (n : Nat) (a : Addr) (c : Cl), g.al[n]? = some a → S[n]? = some c → Fx g H c a ∧ CelAt g H c a
  nd : g.al.Nodup
/-- what a run adds -/
structure Gr (g : Gd) (H : Hp) (g' : Gd) (H' : Hp) : Prop where
  ca : g'.ca = g.ca
  al : ∃ t, g'.al = g.al ++ t ∧ ∀ a ∈ t, H a = none
  x : Ext g.al g.F H g'.F H'
section
variable {g g1 g2 g' : Gd} {H H1 H2 H' : Hp} {S S' : List Cl} {a p : Addr} {n : Nat} {c : Cl} {o : HO}
theorem Cor.rfl_ (k : Cor g H S) : Gr g H g H := ⟨rfl, ⟨[], by simp, by simp⟩, Ext.rfl k.fh⟩
theorem Gr.ix (x : Gr g H g' H') : ∀ (n : Nat) (a : Addr), g.al[n]? = some a → g'.al[n]? = some a := fun n a h => by
  obtain ⟨t, e, _⟩ := x.al
  rw [e]
  have l : n < g.al.length := (List.getElem?_eq_some_iff.mp h).1
  rw [List.getElem?_append_left l]; exact h
theorem Gr.trans (x : Gr g H g1 H1) (y : Gr g1 H1 g2 H2) : Gr g H g2 H2 := by
  obtain ⟨t1, e1, f1⟩ := x.al
  obtain ⟨t2, e2, f2⟩ := y.al
  refine ⟨y.ca.trans x.ca, ⟨t1 ++ t2, by rw [e2, e1, List.append_assoc], fun a m => ?_⟩, ?_⟩
  · rcases List.mem_append.mp m with m | m
    · exact f1 a m
    · exact x.x.free (f2 a m)
  · refine ⟨x.x.ff.trans y.x.ff, y.x.fh, fun a o n h => y.x.hh a o (fun m => ?_) (x.x.hh a o n h), fun a h1 h2 => (x.x.nw a h1 h2).elim (fun h => y.x.nw a (x.x.st a h1) h) (fun ⟨xs, h, l⟩ => Or.inr ⟨xs, y.x.ff a _ h, l⟩), fun a h => y.x.st a (x.x.st a h)⟩
    rw [e1] at m
    rcases List.mem_append.mp m with m | m
    · exact n m
    · rw [f1 a m] at h; cases h
theorem Gr.rp (x : Gr g H g' H') {d : U} {v : V} (h : Rp g d v) : Rp g' d v := h.mono x.x.ff x.ca x.ix
theorem Gr.rps (x : Gr g H g' H') {d : List U} {v : List V} (h : Rps g d v) : Rps g' d v := h.mono x.x.ff x.ca x.ix
theorem Gr.rpf {κ : Type} (x : Gr g H g' H') {d : List (κ × U)} {v : List (κ × V)} (h : RpF g d v) : RpF g' d v := h.mono x.x.ff x.ca x.ix
theorem CelAt.mono (x : Gr g H g' H') (e : H' a = H a) : CelAt g H c a → CelAt g' H' c a := by
  cases c with
  | lst us => rintro ⟨vs, h, r⟩; exact ⟨vs, e.trans h, x.rps r⟩
  | dK us => rintro ⟨vs, h, r⟩; exact ⟨vs, e.trans h, x.rpf r⟩
  | dT us => rintro ⟨vs, h, r⟩; exact ⟨vs, e.trans h, x.rpf r⟩
  | ins cc us => rintro ⟨k, dx, vs, h, r⟩; exact ⟨by rw [x.ca]; exact k, dx, vs, by rw [x.ca]; exact e.trans h, x.rpf r⟩
  | fK us => rintro ⟨vs, ⟨o, h⟩, r⟩; exact ⟨vs, ⟨o, e.trans h⟩, x.rpf r⟩
  | fT us => rintro ⟨vs, ⟨o, h⟩, r⟩; exact ⟨vs, ⟨o, e.trans h⟩, x.rpf r⟩
theorem Cor.there (k : Cor g H S) (m : a ∈ g.al) : H a ≠ none ∧ True := by
  obtain ⟨n, l, e⟩ := List.mem_iff_getElem.mp m
  have e1 : g.al[n]? = some a := by rw [List.getElem?_eq_getElem l, e]
  have l2 : n < S.length := by rw [← k.len]; exact l
  have q := k.at_ n a _ e1 (List.getElem?_eq_getElem l2)
  exact ⟨q.2.ne, trivial⟩
/-- the store's things stand as they stood -/
theorem Cor.step (k : Cor g H S) (x : Gr g H g' H') (e : g'.al = g.al) (h : ∀ a ∈ g.al, H' a = H a) : Cor g' H' S where
  fh := x.x.fh
  len := by rw [e]; exact k.len
  at_ := fun n a c h1 h2 => by
    rw [e] at h1
    have m : a ∈ g.al := List.mem_of_getElem? h1
    obtain ⟨q1, q2⟩ := k.at_ n a c h1 h2
    have q3 := q2.mono x (h a m)
    exact ⟨q1.mono (h a m) (k.there m).1 x.x.ff fun f => x.x.out (q1.no f) (k.there m).1 (q3.nt f), q3⟩
  nd := by rw [e]; exact k.nd
/-- a new object, known for good -/
abbrev Gd.put (g : Gd) (p : Addr) (o : HO) : Gd := { g with F := upd g.F p o }
/-- a new thing of the store -/
abbrev Gd.push (g : Gd) (p : Addr) : Gd := { g with al := g.al ++ [p] }
theorem Ext.wideN {B : List Addr} {F F' : Hp} (x : Ext [] F H F' H') : Ext B F H F' H' := x.any
theorem Cor.newF (k : Cor g H S) (hp : H p = none) : Gr g H (g.put p o) (upd H p o) ∧ Cor (g.put p o) (upd H p o) S := by
  have x : Gr g H (g.put p o) (upd H p o) := ⟨rfl, ⟨[], by simp, by simp⟩, (Ext.new k.fh hp).any⟩
  refine ⟨x, k.step x rfl fun a m => upd_ne fun e => ?_⟩
  rw [e] at m
  exact (k.there m).1 hp
theorem Cor.newC (k : Cor g H S) (hp : H p = none) (hc : CelAt (g.push p) (upd H p o) c p) (fz : c.fz = false := by rfl) : Gr g H (g.push p) (upd H p o) ∧ Cor (g.push p) (upd H p o) (S ++ [c]) := by
  have x : Gr g H (g.push p) (upd H p o) := ⟨rfl, ⟨[p], rfl, by simpa using hp⟩, (Ext.cellNew k.fh hp).any⟩
  have np : p ∉ g.al := fun m => (k.there m).1 hp
  have fp : g.F p = none := by
    cases e : g.F p with
    | none => rfl
    | some u => rw [k.fh p u e] at hp; cases hp
  refine ⟨x, x.x.fh, by simp [k.len], fun n a c' h1 h2 => ?_, ?_⟩
  · by_cases l : n < g.al.length
    · have h1' : g.al[n]? = some a := by rw [List.getElem?_append_left l] at h1; exact h1
      have h2' : S[n]? = some c' := by rw [List.getElem?_append_left (by rw [← k.len]; exact l)] at h2; exact h2
      obtain ⟨q1, q2⟩ := k.at_ n a c' h1' h2'
      have eH : upd H p o a = H a := upd_ne fun e => np (by rw [← e]; exact List.mem_of_getElem? h1')
      exact ⟨q1.mono eH q2.ne (Same.refl _) fun f => q1.no f, q2.mono x eH⟩
    · have e : n = g.al.length := by
        have := (List.getElem?_eq_some_iff.mp h1).1
        simp at this; omega
      subst e
      simp at h1
      rw [k.len] at h2
      simp at h2
      subst h1 h2
      exact ⟨Fx.of fp fz, hc⟩
  · refine List.nodup_append.mpr ⟨k.nd, by simp, fun a m b m2 => ?_⟩
    simp at m2
    subst m2
    exact fun e => np (e ▸ m)
/-- a tuple that stands there is known from now on -/
theorem Cor.learn {vs : List V} (k : Cor g H S) (hp : H p = some (.tup vs)) : Gr g H (g.put p (.tup vs)) H ∧ Cor (g.put p (.tup vs)) H S := by
  have s : Same g.F (upd g.F p (.tup vs)) := fun b u e => by
    by_cases z : b = p
    · subst z; rw [upd_same]; have q := k.fh b u e; rw [hp] at q; exact q
    · rw [upd_ne z]; exact e
  have fh : Same (upd g.F p (.tup vs)) H := fun b u e => by
    by_cases z : b = p
    · subst z; rw [upd_same] at e; cases e; exact hp
    · rw [upd_ne z] at e; exact k.fh b u e
  have x : Gr g H (g.put p (.tup vs)) H := ⟨rfl, ⟨[], by simp, by simp⟩, ⟨s, fh, fun a o _ h => h, fun a h1 h2 => by
    by_cases z : a = p
    · subst z; exact Or.inr ⟨_, upd_same, trivial⟩
    · rw [show (g.put p (.tup vs)).F a = g.F a from upd_ne z]; exact Or.inl h2, fun a h => h⟩⟩
  exact ⟨x, k.step x rfl fun a m => rfl⟩
/-- a thing of the store is written -/
theorem Cor.setC {c0 : Cl} (k : Cor g H S) (ha : g.al[n]? = some a) (hc : CelAt g (upd H a o) c a) (h0 : S[n]? = some c0) (f0 : c0.fz = false := by rfl) (f1 : c.fz = false := by rfl) : Gr g H g (upd H a o) ∧ Cor g (upd H a o) (S.set n c) := by
  have m : a ∈ g.al := List.mem_of_getElem? ha
  have fa : g.F a = none := (k.at_ n a c0 ha h0).1.no f0
  have x : Gr g H g (upd H a o) := ⟨rfl, ⟨[], by simp, by simp⟩, Ext.set k.fh fa m⟩
  refine ⟨x, x.x.fh, by rw [List.length_set]; exact k.len, fun n' a' c' h1 h2 => ?_, k.nd⟩
  by_cases e : n' = n
  · subst e
    have l := (List.getElem?_eq_some_iff.mp h1).1
    rw [k.len] at l
    rw [List.getElem?_set_self l] at h2
    cases h2
    rw [ha] at h1
    cases h1
    exact ⟨Fx.of fa f1, hc⟩
  · rw [List.getElem?_set_ne (Ne.symm e)] at h2
    obtain ⟨q1, q2⟩ := k.at_ n' a' c' h1 h2
    have eH : upd H a o a' = H a' := upd_ne fun e2 => e (by
      subst e2
      exact (List.getElem?_inj (List.getElem?_eq_some_iff.mp h1).1 k.nd).mp (h1.trans ha.symm))
    exact ⟨q1.mono eH q2.ne (Same.refl _) fun f => q1.no f, q2.mono x eH⟩
theorem Cor.get (k : Cor g H S) (ha : g.al[n]? = some a) (h : S[n]? = some c) : CelAt g H c a := (k.at_ n a c ha h).2
end
end Z

namespace Z
open PySem PySem.Spec PyProof.Rows L2

abbrev Sto := List Cl
abbrev Rho := List (Option U)
/-- a value, an exception that is raised, or nothing that the mirror speaks of -/
inductive Out (α : Type) where
  | ok (a : α) (S : Sto) | ex (e : U) (S : Sto) | bad
abbrev ME (α : Type) := Rho → Sto → Out α
def Out.bind {α β : Type} (o : Out α) (k : α → Sto → Out β) : Out β := match o with
  | .ok a S => k a S
  | .ex e S => .ex e S
  | .bad => .bad
@[simp] theorem bind_ok {α β : Type} (a : α) (S : Sto) (k : α → Sto → Out β) : (Out.ok a S).bind k = k a S := rfl
@[simp] theorem bind_ex {α β : Type} (e : U) (S : Sto) (k : α → Sto → Out β) : (Out.ex e S : Out α).bind k = .ex e S := rfl
@[simp] theorem bind_bad {α β : Type} (k : α → Sto → Out β) : (Out.bad : Out α).bind k = .bad := rfl
/-- behind a statement -/
inductive SO where
  | nx (ρ : Rho) (S : Sto) | rt (d : U) (S : Sto) | ex (e : U) (ρ : Rho) (S : Sto) | bad
abbrev MS := Rho → Sto → SO
def Out.thenS {α : Type} (o : Out α) (ρ : Rho) (k : α → Sto → SO) : SO := match o with
  | .ok a S => k a S
  | .ex e S => .ex e ρ S
  | .bad => .bad
@[simp] theorem thenS_ok {α : Type} (a : α) (S : Sto) (ρ : Rho) (k : α → Sto → SO) : (Out.ok a S).thenS ρ k = k a S := rfl
@[simp] theorem thenS_ex {α : Type} (e : U) (S : Sto) (ρ : Rho) (k : α → Sto → SO) : (Out.ex e S : Out α).thenS ρ k = .ex e ρ S := rfl
@[simp] theorem thenS_bad {α : Type} (ρ : Rho) (k : α → Sto → SO) : (Out.bad : Out α).thenS ρ k = .bad := rfl
def SO.andThen (o : SO) (k : Rho → Sto → SO) : SO := match o with
  | .nx ρ S => k ρ S
  | .rt d S => .rt d S
  | .ex e ρ S => .ex e ρ S
  | .bad => .bad
@[simp] theorem andThen_nx (ρ : Rho) (S : Sto) (k : Rho → Sto → SO) : (SO.nx ρ S).andThen k = k ρ S := rfl
@[simp] theorem andThen_rt (d : U) (S : Sto) (k : Rho → Sto → SO) : (SO.rt d S).andThen k = .rt d S := rfl
@[simp] theorem andThen_ex (e : U) (ρ : Rho) (S : Sto) (k : Rho → Sto → SO) : (SO.ex e ρ S).andThen k = .ex e ρ S := rfl
@[simp] theorem andThen_bad (k : Rho → Sto → SO) : SO.bad.andThen k = .bad := rfl

/-- an exception that is raised: its class, its own dict -/
def XRp (g : Gd) : U → Value → Option Addr → Prop
  | .exc nm _ ks us, cls, d => cls = .ref (g.ca.ad nm) ∧ g.ca.kc nm ∧ ∃ vs, XdAt g.F ks vs d ∧ ks.length = us.length ∧ Rps g us vs
  | _, _, _ => False
/-- the slots -/
structure EnvR (ω : Om) (g : Gd) (ρ : Rho) (σ : St) : Prop where
  k : g.ca = ω
  len : ρ.length = σ.length
  at_ : ∀ (i : Nat) (d : U), ρ[i]? = some (some d) → ∃ v, σ[i]? = some (some v) ∧ Rp g d v
structure At (ω : Om) (g : Gd) (ρ : Rho) (S : Sto) (σ : St) (H : Hp) : Prop where
  e : EnvR ω g ρ σ
  c : Cor g H S
theorem EnvR.mono {ω : Om} {g g' : Gd} {H H' : Hp} {ρ : Rho} {σ : St} (h : EnvR ω g ρ σ) (x : Gr g H g' H') : EnvR ω g' ρ σ   := ⟨x.ca.trans h.k, h.len, fun i d e => let ⟨v, e1, r⟩ := h.at_ i d e; ⟨v, e1, x.rp r⟩⟩
theorem EnvR.set {ω : Om} {g : Gd} {ρ : Rho} {σ : St} {d : U} {v : V} (h : EnvR ω g ρ σ) (r : Rp g d v) (i : Nat) : EnvR ω g (ρ.set i (some d)) (σ.set i (some v)) := by
  refine ⟨h.k, by rw [List.length_set, List.length_set]; exact h.len, fun j e q => ?_⟩
  by_cases z : i = j
  · subst z
    have l : i < ρ.length := by
      have := (List.getElem?_eq_some_iff.mp q).1
      rw [List.length_set] at this; exact this
    rw [List.getElem?_set_self l] at q
    cases q
    exact ⟨v, List.getElem?_set_self (by rw [← h.len]; exact l), r⟩
  · rw [List.getElem?_set_ne z] at q
    rw [List.getElem?_set_ne z]
    exact h.at_ j e q

section
variable {ω : Om} {α β α' β' : Type} {g g0 g1 g' : Gd} {H H0 H1 H' : Hp} {R : Gd → α → β → Prop} {R' : Gd → α' → β' → Prop} {Q Q1 : β → Hp → Prop} {Q' : β' → Hp → Prop} {E : XK} {o : Out α} {k : α → Sto → Out α'} {S S' : Sto} {ρ : Rho} {σ : St}
def Wp (g : Gd) (H : Hp) (R : Gd → α → β → Prop) (Q : β → Hp → Prop) (E : XK) : Out α → Prop
  | .ok a S => ∀ g' H' b, Gr g H g' H' → Cor g' H' S → R g' a b → Q b H'
  | .ex e S => ∀ g' H' cls d, Gr g H g' H' → Cor g' H' S → XRp g' e cls d → E cls d H'
  | .bad => False
theorem Wp.base (w : Wp g0 H0 R Q E o) (x : Gr g0 H0 g H) : Wp g H R Q E o := by
  cases o with
  | ok a S => exact fun g' H' b y c r => w g' H' b (x.trans y) c r
  | ex e S => exact fun g' H' cls d y c r => w g' H' cls d (x.trans y) c r
  | bad => exact w
theorem Wp.mono (w : Wp g H R Q E o) (h : ∀ b H', Q b H' → Q1 b H') : Wp g H R Q1 E o := by
  cases o with
  | ok a S => exact fun g' H' b y c r => h _ _ (w g' H' b y c r)
  | ex e S => exact w
  | bad => exact w
theorem Wp.bind (w : Wp g H R' Q' E (o.bind k)) : Wp g H R (fun b H1 => ∃ g1 S1 a, Gr g H g1 H1 ∧ Cor g1 H1 S1 ∧ R g1 a b ∧ Wp g1 H1 R' Q' E (k a S1)) E o := by
  cases o with
  | ok a S => exact fun g' H' b y c r => ⟨g', S, a, y, c, r, Wp.base w y⟩
  | ex e S => exact w
  | bad => exact w
/-- the reading of an expression whose mirror is m -/
def rdG (ω : Om) (R : Gd → α → β → Prop) (E : WX) (m : ME α) : St → Hp → (β → Hp → Prop) → Prop := fun σ H Q => ∃ g ρ S, At ω g ρ S σ H ∧ Wp g H R Q (fun cls d H' => E cls d σ H') (m ρ S)
def rB : Gd → Bool → Bool → Prop := fun _ a b => a = b
abbrev rdE (ω : Om) (E : WX) (m : ME U) : TE := rdG ω Rp E m
abbrev rdT (ω : Om) (E : WX) (m : ME Bool) : TT := rdG ω rB E m
abbrev rdA (ω : Om) (E : WX) (m : ME (List U)) : TA := rdG ω Rps E m
/-- .. of a mirror that goes on -/
theorem rd_bind {E : WX} {m : ME α} {kk : Rho → α → Sto → Out α'} (h : rdG ω R' E (fun ρ S => (m ρ S).bind (kk ρ)) σ H Q') :
    rdG ω R E m σ H fun b H1 => ∃ g1 ρ S1 a, At ω g1 ρ S1 σ H1 ∧ R g1 a b ∧ Wp g1 H1 R' Q' (fun cls d H' => E cls d σ H') (kk ρ a S1) := by
  obtain ⟨g, ρ, S, a, w⟩ := h
  refine ⟨g, ρ, S, a, (Wp.bind (R := R) w).mono ?_⟩
  rintro b H1 ⟨g1, S1, a1, x, c, r, w1⟩
  exact ⟨g1, ρ, S1, a1, ⟨a.e.mono x, c⟩, r, w1⟩
theorem rd_of {E : WX} {m : ME α} (a : At ω g ρ S σ H) (w : Wp g H R Q (fun cls d H' => E cls d σ H') (m ρ S)) : rdG ω R E m σ H Q := ⟨g, ρ, S, a, w⟩
theorem rdG.mono {E : WX} {m : ME α} (h : rdG ω R E m σ H Q) (k : ∀ b H', Q b H' → Q1 b H') : rdG ω R E m σ H Q1 := by
  obtain ⟨g, ρ, S, a, w⟩ := h
  exact ⟨g, ρ, S, a, w.mono k⟩
/-- what a value gives -/
theorem Wp.ok {a : α} {b : β} (w : Wp g H R Q E (.ok a S)) (c : Cor g H S) (r : R g a b) : Q b H := w g H b c.rfl_ c r
end

/-- behind a statement -/
def Ws (ω : Om) (g : Gd) (H : Hp) (D : Ends) (E : WX) : SO → Prop
  | .nx ρ S => ∀ g' H' σ', Gr g H g' H' → At ω g' ρ S σ' H' → D.nx σ' H'
  | .rt d S => ∀ g' H' v, Gr g H g' H' → Cor g' H' S → Rp g' d v → D.rt v H'
  | .ex e ρ S => ∀ g' H' σ' cls d, Gr g H g' H' → At ω g' ρ S σ' H' → XRp g' e cls d → E cls d σ' H'
  | .bad => False
def rdS (ω : Om) (E : WX) (m : MS) : TS := fun D σ H => ∃ g ρ S, At ω g ρ S σ H ∧ Ws ω g H D E (m ρ S)
section
variable {ω : Om} {g g0 g' : Gd} {H H0 H' : Hp} {D D' : Ends} {E : WX} {o : SO} {S : Sto} {ρ : Rho} {σ : St} {α β : Type} {R : Gd → α → β → Prop}
theorem Ws.base (w : Ws ω g0 H0 D E o) (x : Gr g0 H0 g H) : Ws ω g H D E o := by
  cases o with
  | nx ρ S => exact fun g' H' σ' y a => w g' H' σ' (x.trans y) a
  | rt d S => exact fun g' H' v y c r => w g' H' v (x.trans y) c r
  | ex e ρ S => exact fun g' H' σ' cls d y c r => w g' H' σ' cls d (x.trans y) c r
  | bad => exact w
theorem Ws.ofE {m : Out α} {k : α → Sto → SO} {Q : β → Hp → Prop} (a : At ω g ρ S σ H) (w : Ws ω g H D E (m.thenS ρ k))
    (h : ∀ b H1 g1 S1 x, Gr g H g1 H1 → At ω g1 ρ S1 σ H1 → R g1 x b → Ws ω g1 H1 D E (k x S1) → Q b H1) : Wp g H R Q (fun cls d H' => E cls d σ H') m := by
  cases m with
  | ok x S' => exact fun g' H' b y c r => h b H' g' S' x y ⟨a.e.mono y, c⟩ r (w.base y)
  | ex e S' => exact fun g' H' cls d y c r => w g' H' σ cls d y ⟨a.e.mono y, c⟩ r
  | bad => exact w
theorem Ws.seq {k : Rho → Sto → SO} (w : Ws ω g H D E (o.andThen k)) : Ws ω g H { D with nx := fun σ' H' => ∃ g' ρ S, At ω g' ρ S σ' H' ∧ Ws ω g' H' D E (k ρ S) } E o := by
  cases o with
  | nx ρ S => exact fun g' H' σ' y a => ⟨g', ρ, S, a, w.base y⟩
  | rt d S => exact w
  | ex e ρ S => exact w
  | bad => exact w
end

/-! ### rules are weakened -/
section
variable {X : Cx} {e : Expr} {st : Stmt} {sts : List Stmt}
theorem _root_.L2.PE.to {t t' : TE} (h : PE X e t) (k : ∀ σ H Q, t' σ H Q → t σ H Q) : PE X e t' := ⟨fun pins s σ H Q I w => h.run pins s σ H Q I (k σ H Q w)⟩
theorem _root_.L2.PT.to {t t' : TT} (h : PT X e t) (k : ∀ σ H Q, t' σ H Q → t σ H Q) : PT X e t' := ⟨fun pins s σ H Q I w => h.run pins s σ H Q I (k σ H Q w)⟩
theorem _root_.L2.PW.to {t t' : TT} (h : PW X e t) (k : ∀ σ H Q, t' σ H Q → t σ H Q) : PW X e t' := ⟨fun wh pins s σ H Q I w => h.run wh pins s σ H Q I (k σ H Q w)⟩
theorem _root_.L2.PA.to {es : List Expr} {t t' : TA} (h : PA X es t) (k : ∀ σ H Q, t' σ H Q → t σ H Q) : PA X es t' := ⟨fun pos pins s σ H Q I w => h.run pos pins s σ H Q I (k σ H Q w)⟩
theorem _root_.L2.PS.to {t t' : TS} (h : PS X st t) (k : ∀ D σ H, t' D σ H → t D σ H) : PS X st t' := ⟨fun pins s σ H D I w => h.run pins s σ H D I (k D σ H w)⟩
theorem _root_.L2.PSs.to {t t' : TS} (h : PSs X sts t) (k : ∀ D σ H, t' D σ H → t D σ H) : PSs X sts t' := ⟨fun pins s σ H D I w => h.run pins s σ H D I (k D σ H w)⟩
end

/-! ### a def's mirror -/
abbrev MF := List U → Sto → Out U
def spM (ω : Om) (m : MF) : Sp := fun vs H Q E => ∃ g S us, g.ca = ω ∧ Cor g H S ∧ Rps g us vs ∧ Wp g H Rp Q E (m us S)
mutual
/-- all handles below n -/
def clo (n : Nat) : U → Bool
  | .lst xs => clos n xs
  | .tup xs => clos n xs
  | .dct _ xs => clos n xs
  | .dtt _ xs => clos n xs
  | .exc _ _ _ xs => clos n xs
  | .cel i => decide (i < n)
  | .non | .bl _ | .int _ | .str _ | .scr _ => true
def clos (n : Nat) : List U → Bool
  | [] => true
  | x :: xs => clo n x && clos n xs
end
def cloC (n : Nat) : Cl → Bool
  | .lst xs => clos n xs
  | .dK kvs => clos n (kvs.map (·.2))
  | .dT kvs => clos n (kvs.map (·.2))
  | .ins _ fs => clos n (fs.map (·.2))
  | .fK kvs => clos n (kvs.map (·.2))
  | .fT kvs => clos n (kvs.map (·.2))
section
variable {g g' : Gd} {n : Nat}
mutual
theorem Rp.clo : ∀ (d : U) (v : V), Rp g d v → clo g.al.length d = true
  | .non, _, _ => by unfold Z.clo; rfl
  | .bl _, _, _ => by unfold Z.clo; rfl
  | .int _, _, _ => by unfold Z.clo; rfl
  | .str _, _, _ => by unfold Z.clo; rfl
  | .lst us, _, h => by
    obtain ⟨_, vs, _, _, r⟩ := h.of_lst
    unfold Z.clo; exact Rps.clos us vs r
  | .tup us, _, h => by
    obtain ⟨_, vs, _, _, r⟩ := h.of_tup
    unfold Z.clo; exact Rps.clos us vs r
  | .dct _ us, _, h => by
    obtain ⟨_, vs, _, _, _, r⟩ := h.of_dct
    unfold Z.clo; exact Rps.clos us vs r
  | .dtt _ us, _, h => by
    obtain ⟨_, vs, _, _, _, r⟩ := h.of_dtt
    unfold Z.clo; exact Rps.clos us vs r
  | .exc _ _ _ us, _, h => by
    obtain ⟨_, _, _, _, vs, _, _, _, _, _, r⟩ := h.of_exc
    unfold Z.clo; exact Rps.clos us vs r
  | .cel i, _, h => by
    obtain ⟨a, e, _⟩ := h.of_cel
    unfold Z.clo; exact decide_eq_true (List.getElem?_eq_some_iff.mp e).1
  | .scr _, _, _ => by unfold Z.clo; rfl
theorem Rps.clos : ∀ (ds : List U) (vs : List V), Rps g ds vs → clos g.al.length ds = true
  | [], _, _ => by unfold Z.clos; rfl
  | d :: ds, _, h => by
    obtain ⟨v, ws, _, h1, h2⟩ := h.of_cons
    unfold Z.clos; rw [Rp.clo d v h1, Rps.clos ds ws h2]; rfl
end
mutual
theorem Rp.cut (s : Same g.F g'.F) (c : g'.ca = g.ca) (l : ∀ i, i < n → g'.al[i]? = g.al[i]?) : ∀ (d : U) (v : V), Z.clo n d = true → Rp g d v → Rp g' d v
  | .non, _, _, h => by unfold Rp at h ⊢; exact h
  | .bl _, _, _, h => by unfold Rp at h ⊢; exact h
  | .int _, _, _, h => by unfold Rp at h ⊢; exact h
  | .str _, _, _, h => by unfold Rp at h ⊢; exact h
  | .lst ds, _, k, h => by
    unfold Rp at h ⊢; unfold Z.clo at k
    obtain ⟨a, vs, e, ha, hs⟩ := h
    exact ⟨a, vs, e, s a _ ha, Rps.cut s c l ds vs k hs⟩
  | .tup ds, _, k, h => by
    unfold Rp at h ⊢; unfold Z.clo at k
    obtain ⟨a, vs, e, ha, hs⟩ := h
    exact ⟨a, vs, e, s a _ ha, Rps.cut s c l ds vs k hs⟩
  | .dct ks ds, _, k, h => by
    unfold Rp at h ⊢; unfold Z.clo at k
    obtain ⟨a, vs, e, ha, hl, hs⟩ := h
    exact ⟨a, vs, e, s a _ ha, hl, Rps.cut s c l ds vs k hs⟩
  | .dtt ks ds, _, k, h => by
    unfold Rp at h ⊢; unfold Z.clo at k
    obtain ⟨a, vs, e, ha, hl, hs⟩ := h
    exact ⟨a, vs, e, s a _ ha, hl, Rps.cut s c l ds vs k hs⟩
  | .exc nm tx ks ds, _, k, h => by
    unfold Rp at h ⊢; unfold Z.clo at k
    obtain ⟨kc, a, t, dx, vs, e, ha, ht, hd, hl, hs⟩ := h
    exact ⟨by rw [c]; exact kc, a, t, dx, vs, e, by rw [c]; exact s a _ ha, s t _ ht, hd.mono s, hl, Rps.cut s c l ds vs k hs⟩
  | .cel i, _, k, h => by
    unfold Rp at h ⊢; unfold Z.clo at k
    obtain ⟨a, ha, e⟩ := h
    exact ⟨a, (l i (of_decide_eq_true k)).trans ha, e⟩
  | .scr ns, _, _, h => by
    unfold Rp at h ⊢
    obtain ⟨a, e, h⟩ := h
    refine ⟨a, e, ?_⟩
    rcases h with ⟨o, h⟩ | h
    · exact Or.inl ⟨o, s a _ h⟩
    · exact Or.inr (by rw [c]; exact h)
theorem Rps.cut (s : Same g.F g'.F) (c : g'.ca = g.ca) (l : ∀ i, i < n → g'.al[i]? = g.al[i]?) : ∀ (ds : List U) (vs : List V), Z.clos n ds = true → Rps g ds vs → Rps g' ds vs
  | [], _, _, h => by unfold Rps at h ⊢; exact h
  | d :: ds, _, k, h => by
    unfold Rps at h ⊢; unfold Z.clos at k
    obtain ⟨k1, k2⟩ := Bool.and_eq_true_iff.mp k
    obtain ⟨v, ws, e, h1, h2⟩ := h
    exact ⟨v, ws, e, Rp.cut s c l d v k1 h1, Rps.cut s c l ds ws k2 h2⟩
end
theorem RpF.clo {κ : Type} : ∀ {xs : List (κ × U)} {ys : List (κ × V)}, RpF g xs ys → Z.clos g.al.length (xs.map (·.2)) = true
  | _, _, .nil => by unfold Z.clos; rfl
  | _, _, .cons r t => by rw [List.map_cons]; unfold Z.clos; rw [r.2.clo, RpF.clo t]; rfl
theorem RpF.cut {κ : Type} (s : Same g.F g'.F) (c : g'.ca = g.ca) (l : ∀ i, i < n → g'.al[i]? = g.al[i]?) : ∀ {xs : List (κ × U)} {ys : List (κ × V)}, Z.clos n (xs.map (·.2)) = true → RpF g xs ys → RpF g' xs ys
  | _, _, _, .nil => .nil
  | _, _, k, .cons r t => by
    rw [List.map_cons] at k; unfold Z.clos at k
    obtain ⟨k1, k2⟩ := Bool.and_eq_true_iff.mp k
    exact .cons ⟨r.1, r.2.cut s c l _ _ k1⟩ (RpF.cut s c l k2 t)
theorem CelAt.clo {H : Hp} {a : Addr} : ∀ {c : Cl}, CelAt g H c a → cloC g.al.length c = true
  | .lst _, ⟨_, _, r⟩ => r.clos
  | .dK _, ⟨_, _, r⟩ => r.clo
  | .dT _, ⟨_, _, r⟩ => r.clo
  | .ins _ _, ⟨_, _, _, _, r⟩ => r.clo
  | .fK _, ⟨_, _, r⟩ => r.clo
  | .fT _, ⟨_, _, r⟩ => r.clo
theorem CelAt.cut {H : Hp} {a : Addr} (s : Same g.F g'.F) (c : g'.ca = g.ca) (l : ∀ i, i < n → g'.al[i]? = g.al[i]?) : ∀ {cl : Cl}, cloC n cl = true → CelAt g H cl a → CelAt g' H cl a
  | .lst _, k, ⟨vs, e, r⟩ => ⟨vs, e, r.cut s c l _ _ k⟩
  | .dK _, k, ⟨vs, e, r⟩ => ⟨vs, e, r.cut s c l k⟩
  | .dT _, k, ⟨vs, e, r⟩ => ⟨vs, e, r.cut s c l k⟩
  | .ins _ _, k, ⟨ki, dx, vs, e, r⟩ => ⟨by rw [c]; exact ki, dx, vs, by rw [c]; exact e, r.cut s c l k⟩
  | .fK _, k, ⟨vs, e, r⟩ => ⟨vs, e, r.cut s c l k⟩
  | .fT _, k, ⟨vs, e, r⟩ => ⟨vs, e, r.cut s c l k⟩
end
/-- what stood in the store stands, or is written with nothing that the call has made -/
def okTr (S S' : Sto) : Prop := ∀ i, i < S.length → S'[i]? = S[i]? ∨ ∃ c, S'[i]? = some c ∧ cloC S.length c = true
open Classical in
/-- a def that leaves nothing behind -/
noncomputable def trunc (S : Sto) : Out U → Out U
  | .ok d S' => if clo S.length d = true ∧ okTr S S' then .ok d (S'.take S.length) else .bad
  | .ex e S' => if clo S.length e = true ∧ okTr S S' then .ex e (S'.take S.length) else .bad
  | .bad => .bad
open Classical in
theorem trunc_ok {S S' : Sto} {d : U} : trunc S (.ok d S') = if clo S.length d = true ∧ okTr S S' then .ok d (S'.take S.length) else .bad := rfl
open Classical in
theorem trunc_ex {S S' : Sto} {d : U} : trunc S (.ex d S') = if clo S.length d = true ∧ okTr S S' then .ex d (S'.take S.length) else .bad := rfl
section
variable {g g' : Gd} {H H' : Hp} {S S' : Sto} {Q : VK} {E : XK} {o : Out U}
theorem cut_back (k : Cor g H S) (x : Gr g H g' H') (c : Cor g' H' S') (tr : okTr S S') :
    Gr g H { g' with al := g.al } H' ∧ Cor { g' with al := g.al } H' (S'.take S.length) ∧ ∀ i, i < S.length → g.al[i]? = g'.al[i]? := by
  have ix : ∀ i, i < S.length → g.al[i]? = g'.al[i]? := fun i l => by
    rw [← k.len] at l
    rw [x.ix i _ (List.getElem?_eq_getElem l), List.getElem?_eq_getElem l]
  have le : S.length ≤ S'.length := by
    obtain ⟨t, e, _⟩ := x.al
    rw [← k.len, ← c.len, e, List.length_append]; omega
  have x2 : Gr g H { g' with al := g.al } H' := ⟨x.ca, ⟨[], by simp, by simp⟩, x.x⟩
  refine ⟨x2, ⟨c.fh, by rw [List.length_take]; show g.al.length = _; rw [k.len]; omega, fun n a cl h1 h2 => ?_, k.nd⟩, ix⟩
  have l : n < S.length := by
    have := (List.getElem?_eq_some_iff.mp h1).1
    rw [← k.len]; exact this
  rw [List.getElem?_take_of_lt l] at h2
  have h1' : g'.al[n]? = some a := (ix n l).symm.trans h1
  obtain ⟨q1, q2⟩ := c.at_ n a cl h1' h2
  refine ⟨q1, CelAt.cut (g := g') (g' := { g' with al := g.al }) (n := S.length) (Same.refl _) rfl ix ?_ q2⟩
  rcases tr n l with e | ⟨c2, e, e2⟩
  · rw [h2] at e
    have := (k.get h1 e.symm).clo
    rw [k.len] at this; exact this
  · rw [h2] at e; cases e; exact e2
theorem Wp.trunc (k : Cor g H S) (w : Wp g H Rp Q E (trunc S o)) : Wp g H Rp Q E o := by
  cases o with
  | ok d S' =>
    intro g' H' v x c r
    rw [trunc_ok] at w
    by_cases h : clo S.length d = true ∧ okTr S S'
    · rw [if_pos h] at w
      obtain ⟨x2, c2, ix⟩ := cut_back k x c h.2
      exact w _ H' v x2 c2 (Rp.cut (g := g') (g' := { g' with al := g.al }) (n := S.length) (Same.refl _) rfl ix _ _ h.1 r)
    · rw [if_neg h] at w; exact w.elim
  | ex e S' =>
    intro g' H' cls d x c r
    rw [trunc_ex] at w
    by_cases h : clo S.length e = true ∧ okTr S S'
    · rw [if_pos h] at w
      obtain ⟨x2, c2, ix⟩ := cut_back k x c h.2
      refine w _ H' cls d x2 c2 ?_
      cases e with
      | exc nm tx ks us =>
        obtain ⟨e1, e0, vs, e2, e3, e4⟩ := r
        have h1 := h.1
        unfold clo at h1
        exact ⟨e1, e0, vs, e2, e3, Rps.cut (g := g') (g' := { g' with al := g.al }) (n := S.length) (Same.refl _) rfl ix _ _ h1 e4⟩
      | _ => exact r.elim
    · rw [if_neg h] at w; exact w.elim
  | bad => exact w
end
/-- a body's end as a call's -/
def SO.out : SO → Out U
  | .nx _ S => .ok .non S
  | .rt d S => .ok d S
  | .ex e _ S => .ex e S
  | .bad => .bad
/-- a def with n parameters and m slots more; t: it leaves nothing behind -/
noncomputable def mDef (t : Bool) (n m : Nat) (b : MS) : MF := fun us S => if us.length = n then (if t = true then trunc S (b (us.map some ++ List.replicate m none) S).out else (b (us.map some ++ List.replicate m none) S).out) else .bad
theorem env_start {ω : Om} {g : Gd} {N : List Str} {us : List U} {vs : List V} {m : Nat} (r : Rps g us vs) (hm : us.length + m = N.length) (hk : g.ca = ω) : EnvR ω g (us.map some ++ List.replicate m none) (L2.start N vs) := by
  have e : L2.start N vs = vs.map some ++ List.replicate m none := by
    unfold L2.start
    have := r.len
    rw [show N.length - vs.length = m by omega]
  rw [e]
  refine ⟨hk, by simp [r.len], fun i d h => ?_⟩
  by_cases l : i < us.length
  · rw [List.getElem?_append_left (by simpa using l), List.getElem?_map] at h
    obtain ⟨d', e1, e2⟩ := Option.map_eq_some_iff.mp h
    cases e2
    obtain ⟨v, q1, q2⟩ := r.get e1
    exact ⟨v, by rw [List.getElem?_append_left (by rw [List.length_map, r.len]; exact l), List.getElem?_map, q1]; rfl, q2⟩
  · rw [List.getElem?_append_right (by simpa using Nat.not_lt.mp l)] at h
    have := List.eq_of_mem_replicate (List.mem_of_getElem? h)
    cases this
theorem fn_m {ω : Om} {W : Wd} {x q : Str} {st : Stmt} {f : Addr} {fd : FuncData} {N ps : List Str} {k n m : Nat} {tr : Bool} {b : MS} (D : Df W x q st f fd) (S : FnScope N ps (defScope st)) (hn : ps.length = n) (hm : n + m = N.length)
    (hb : ∀ (cd : Value) (A : Around) (out : List PySem.Env) (s : Shared) (H : Hp) (E : XK), Rm k (cx W N q (defScope st) f cd A out s H E).A →
      PSs (cx W N q (defScope st) f cd A out s H E) (defBody st) (rdS ω (fun cls d _ H' => E cls d H') b)) : Fn W (k + 1) f fd ps (spM ω (mDef tr n m b)) := by
  have len : ∀ {vs H Q E}, spM ω (mDef tr n m b) vs H Q E → ∃ g S us, g.ca = ω ∧ Cor g H S ∧ Rps g us vs ∧ us.length = n ∧ Wp g H Rp Q E (b (us.map some ++ List.replicate m none) S).out := by
    rintro vs H Q E ⟨g, S, us, hk, c, r, w⟩
    unfold mDef at w
    by_cases e : us.length = n
    · rw [if_pos e] at w
      refine ⟨g, S, us, hk, c, r, e, ?_⟩
      cases tr with
      | true => rw [if_pos rfl] at w; exact w.trunc c
      | false => rw [if_neg Bool.false_ne_true] at w; exact w
    · rw [if_neg e] at w; exact w.elim
  refine fn_by D S (fun vs H Q E h => ?_) (fun cd A out s H vs Q E hr h => ?_)
  · obtain ⟨g, S, us, hk, c, r, e, w⟩ := len h
    rw [r.len, e, hn]
  · obtain ⟨g, S, us, hk, c, r, e, w⟩ := len h
    refine ⟨_, hb cd A out s H E hr, g, _, S, ⟨env_start (m := m) r (by omega) hk, c⟩, ?_⟩
    revert w
    cases b (us.map some ++ List.replicate m none) S with
    | nx ρ S' => exact fun w g' H' σ' x a => w g' H' .non x a.c rp_non
    | rt d S' => exact fun w => w
    | ex e ρ S' => exact fun w g' H' σ' cls d x a r => w g' H' cls d x a.c r
    | bad => exact fun w => w
end Z

namespace Z
open PySem PySem.Spec PyProof.Rows L2

/-! ### the mirror's words -/
section
variable {α β : Type}
@[simp] def mVar (i : Nat) : ME U := fun ρ S => match ρ[i]? with
  | some (some d) => .ok d S
  | _ => .bad
@[simp] def mC (d : U) : ME U := fun _ S => .ok d S
@[simp] def mOp (o : U → U → Sto → Out U) (a b : ME U) : ME U := fun ρ S => (a ρ S).bind fun x S1 => (b ρ S1).bind fun y S2 => o x y S2
@[simp] def mUn (o : U → Sto → Out U) (a : ME U) : ME U := fun ρ S => (a ρ S).bind o
@[simp] def asB (d : U) (S : Sto) : Out Bool := match d with
  | .bl b => .ok b S
  | _ => .bad
@[simp] def mTB (a : ME U) : ME Bool := fun ρ S => (a ρ S).bind asB
@[simp] def mAnd (a b : ME Bool) : ME Bool := fun ρ S => (a ρ S).bind fun x S1 => match x with
  | true => b ρ S1
  | false => .ok false S1
@[simp] def mOr (a b : ME Bool) : ME Bool := fun ρ S => (a ρ S).bind fun x S1 => match x with
  | true => .ok true S1
  | false => b ρ S1
@[simp] def mNot (a : ME Bool) : ME Bool := fun ρ S => (a ρ S).bind fun x S1 => .ok (!x) S1
@[simp] def mAndV (a b : ME U) : ME U := fun ρ S => (a ρ S).bind fun x S1 => match x with
  | .bl true => b ρ S1
  | .bl false => .ok (.bl false) S1
  | _ => .bad
@[simp] def mOrV (a b : ME U) : ME U := fun ρ S => (a ρ S).bind fun x S1 => match x with
  | .bl true => .ok (.bl true) S1
  | .bl false => b ρ S1
  | _ => .bad
@[simp] def mNotV (a : ME U) : ME U := fun ρ S => (a ρ S).bind fun x S1 => match x with
  | .bl c => .ok (.bl (!c)) S1
  | _ => .bad
@[simp] def mIfE (t : ME Bool) (a b : ME U) : ME U := fun ρ S => (t ρ S).bind fun x S1 => match x with
  | true => a ρ S1
  | false => b ρ S1
@[simp] def mChain (o o' : U → U → Sto → Out U) (a b c : ME U) : ME U := fun ρ S => (a ρ S).bind fun x S1 => (b ρ S1).bind fun y S2 => (o x y S2).bind fun z S3 => match z with
  | .bl true => (c ρ S3).bind fun w S4 => o' y w S4
  | .bl false => .ok (.bl false) S3
  | _ => .bad
@[simp] def mNil : ME (List U) := fun _ S => .ok [] S
@[simp] def mCons (a : ME U) (r : ME (List U)) : ME (List U) := fun ρ S => (a ρ S).bind fun x S1 => (r ρ S1).bind fun xs S2 => .ok (x :: xs) S2
def newLst (c : Bool) (us : List U) (S : Sto) : Out U := if us.length ≤ 10000000 then (if c = true then .ok (.cel S.length) (S ++ [.lst us]) else .ok (.lst us) S) else .bad
@[simp] def mTup (r : ME (List U)) : ME U := fun ρ S => (r ρ S).bind fun us S1 => if us.length ≤ 10000000 then .ok (.tup us) S1 else .bad
@[simp] def mLst (c : Bool) (r : ME (List U)) : ME U := fun ρ S => (r ρ S).bind (newLst c)
@[simp] def mCB (o : List U → Sto → Out U) (r : ME (List U)) : ME U := fun ρ S => (r ρ S).bind o
@[simp] def mBM (o : U → List U → Sto → Out U) (a : ME U) (r : ME (List U)) : ME U := fun ρ S => (a ρ S).bind fun x S1 => (r ρ S1).bind (o x)
@[simp] def mCall (m : MF) (gM : List U → List U → List U) (r k : ME (List U)) : ME U := fun ρ S => (r ρ S).bind fun us S1 => (k ρ S1).bind fun zs S2 => m (gM us zs) S2
@[simp] def mMeth (m : MF) (gM : List U → List U → List U) (c : Str) (a : ME U) (r k : ME (List U)) : ME U := fun ρ S => (a ρ S).bind fun x S0 => match x with
  | .cel n => match S0[n]? with
    | some (.ins c' fs) => if c' = c then (r ρ S0).bind fun us S1 => (k ρ S1).bind fun zs S2 => m (gM (x :: us) zs) S2 else .bad
    | _ => .bad
  | _ => .bad
-- statements
@[simp] def mRet (a : ME U) : MS := fun ρ S => (a ρ S).thenS ρ .rt
@[simp] def mRetN : MS := fun _ S => .rt .non S
@[simp] def mExpr (a : ME U) : MS := fun ρ S => (a ρ S).thenS ρ fun _ S1 => .nx ρ S1
@[simp] def mNx : MS := fun ρ S => .nx ρ S
@[simp] def mSeq (a b : MS) : MS := fun ρ S => (a ρ S).andThen b
@[simp] def mIf (t : ME Bool) (a b : MS) : MS := fun ρ S => (t ρ S).thenS ρ fun x S1 => match x with
  | true => a ρ S1
  | false => b ρ S1
@[simp] def mSet (i : Nat) (a : ME U) : MS := fun ρ S => (a ρ S).thenS ρ fun d S1 => .nx (ρ.set i (some d)) S1
/-- a target: what it makes of the slots -/
abbrev MG := U → Rho → Option Rho
@[simp] def gN (i : Nat) : MG := fun d ρ => some (ρ.set i (some d))
def gTs : List MG → List U → Rho → Option Rho
  | [], [], ρ => some ρ
  | g :: gs, d :: ds, ρ => (g d ρ).bind fun ρ1 => gTs gs ds ρ1
  | _, _, _ => none
@[simp] def gT (gs : List MG) : MG := fun d ρ => match d with
  | .tup us => gTs gs us ρ
  | _ => none
@[simp] theorem gTs_nil (ρ : Rho) : gTs [] [] ρ = some ρ := rfl
@[simp] theorem gTs_cons (g : MG) (gs : List MG) (d : U) (ds : List U) (ρ : Rho) : gTs (g :: gs) (d :: ds) ρ = (g d ρ).bind fun ρ1 => gTs gs ds ρ1 := rfl
@[simp] def SOof (o : Option Rho) (S : Sto) : SO := match o with
  | some ρ => .nx ρ S
  | none => .bad
@[simp] def mAsg (a : ME U) (g : MG) : MS := fun ρ S => (a ρ S).thenS ρ fun d S1 => SOof (g d ρ) S1
/-- i, j = a, b -/
@[simp] def mPar (i j : Nat) (r : ME (List U)) : MS := fun ρ S => (r ρ S).thenS ρ fun us S1 => match us with
  | [a, b] => .nx ((ρ.set i (some a)).set j (some b)) S1
  | _ => .bad
end

/-! ### rules -/
section
variable {ω : Om} {X : Cx} {E : WX} {a b c e : Expr} {es : List Expr} {ma mb mc : ME U} {mt mu : ME Bool} {mr mk : ME (List U)} {pos : Pos} {st : Stmt} {sts : List Stmt} {m n : MS}
theorem ten : (10000000 : Nat) ≤ sizeLine := by rw [sizeLine_eq]; decide
theorem x_var {i : Nat} (h : PE X e (tVar i)) : PE X e (rdE ω E (mVar i)) := h.to fun σ H Q ⟨g, ρ, S, a, w⟩ => by
  unfold mVar at w
  cases e1 : ρ[i]? with
  | none => rw [e1] at w; exact w.elim
  | some o =>
    cases o with
    | none => rw [e1] at w; exact w.elim
    | some d =>
      rw [e1] at w
      obtain ⟨v, h1, h2⟩ := a.e.at_ i d e1
      exact ⟨v, h1, w.ok a.c h2⟩
theorem x_c {d : U} {v : V} (h : PE X e (tC v)) (r : ∀ g, Rp g d v) : PE X e (rdE ω E (mC d)) := h.to fun σ H Q ⟨g, ρ, S, a, w⟩ => w.ok a.c (r g)
/-- an operation keeps to its mirror -/
def SOp (o : U → U → Sto → Out U) (r : R2) : Prop := ∀ (g : Gd) (H : Hp) (S : Sto) (d e : U) (x y : V) (Q : VK) (E : XK), Cor g H S → Rp g d x → Rp g e y → Wp g H Rp Q E (o d e S) → r x y H Q
def SUn (o : U → Sto → Out U) (r : V → Hp → VK → Prop) : Prop := ∀ (g : Gd) (H : Hp) (S : Sto) (d : U) (x : V) (Q : VK) (E : XK), Cor g H S → Rp g d x → Wp g H Rp Q E (o d S) → r x H Q
def SCB (o : List U → Sto → Out U) (r : List V → Hp → VK → Prop) : Prop := ∀ (g : Gd) (H : Hp) (S : Sto) (ds : List U) (xs : List V) (Q : VK) (E : XK), Cor g H S → Rps g ds xs → Wp g H Rp Q E (o ds S) → r xs H Q
/-- two in a row -/
theorem rd_op {o : U → U → Sto → Out U} {r : R2} {σ : St} {H : Hp} {Q : VK} (s : SOp o r) (h : rdE ω E (mOp o ma mb) σ H Q) : tOp r (rdE ω E ma) (rdE ω E mb) σ H Q := by
  refine (rd_bind (R := Rp) (m := ma) (kk := fun ρ x S1 => (mb ρ S1).bind fun y S2 => o x y S2) h).mono ?_
  rintro x H1 ⟨g1, ρ, S1, d, a1, r1, w1⟩
  refine ⟨g1, ρ, S1, a1, (Wp.bind (R := Rp) w1).mono ?_⟩
  rintro y H2 ⟨g2, S2, e, x2, c2, r2, w2⟩
  exact s g2 H2 S2 d e x y Q _ c2 (x2.rp r1) r2 w2
theorem x_op {o : U → U → Sto → Out U} {r : R2} (h : PE X e (tOp r (rdE ω E ma) (rdE ω E mb))) (s : SOp o r) : PE X e (rdE ω E (mOp o ma mb)) := h.to fun σ H Q h => rd_op s h
theorem rd_test {σ : St} {H : Hp} {Q : Bool → Hp → Prop} (h : rdT ω E (mTB ma) σ H Q) : rdE ω E ma σ H fun x H1 => ∃ k, x = .bl k ∧ Q k H1 := by
  refine (rd_bind (R := Rp) (m := ma) (kk := fun ρ => asB) h).mono ?_
  rintro x H1 ⟨g1, ρ, S1, d, a1, r1, w1⟩
  cases d with
  | bl k => exact ⟨k, r1.of_bl, w1.ok a1.c rfl⟩
  | _ => exact w1.elim
theorem xt_op {o : U → U → Sto → Out U} {r : R2} (h : PT X e (tTest (tOp r (rdE ω E ma) (rdE ω E mb)))) (s : SOp o r) : PT X e (rdT ω E (mTB (mOp o ma mb))) := h.to fun σ H Q h => rd_op s (rd_test h)
theorem x_un {o : U → Sto → Out U} {r : V → Hp → VK → Prop} (h : PE X e (tUn r (rdE ω E ma))) (s : SUn o r) : PE X e (rdE ω E (mUn o ma)) :=
  h.to fun σ H Q h => by
    refine (rd_bind (R := Rp) (m := ma) (kk := fun ρ => o) h).mono ?_
    rintro x H1 ⟨g1, ρ, S1, d, a1, r1, w1⟩
    exact s g1 H1 S1 d x Q _ a1.c r1 w1
/-- a chain -/
theorem rd_chain {o o' : U → U → Sto → Out U} {r r' : R2} {σ : St} {H : Hp} {Q : VK} (s : SOp o r) (s' : SOp o' r') (h : rdE ω E (mChain o o' ma mb mc) σ H Q) : tChain r r' (rdE ω E ma) (rdE ω E mb) (rdE ω E mc) σ H Q := by
  refine (rd_bind (R := Rp) (m := ma) (kk := fun ρ x S1 => (mb ρ S1).bind fun y S2 => (o x y S2).bind fun z S3 => match z with
    | .bl true => (mc ρ S3).bind fun w S4 => o' y w S4
    | .bl false => .ok (.bl false) S3
    | _ => .bad) h).mono ?_
  rintro x H1 ⟨g1, ρ, S1, d, a1, r1, w1⟩
  refine ⟨g1, ρ, S1, a1, (Wp.bind (R := Rp) w1).mono ?_⟩
  rintro y H2 ⟨g2, S2, e, x2, c2, r2, w2⟩
  refine s g2 H2 S2 d e x y _ _ c2 (x2.rp r1) r2 ((Wp.bind (R := Rp) w2).mono ?_)
  rintro z H3 ⟨g3, S3, f, x3, c3, r3, w3⟩
  cases f with
  | bl k =>
    refine ⟨k, r3.of_bl, ?_⟩
    cases k with
    | true =>
      rw [if_pos rfl]
      refine ⟨g3, ρ, S3, ⟨(a1.e.mono x2).mono x3, c3⟩, (Wp.bind (R := Rp) w3).mono ?_⟩
      rintro v H4 ⟨g4, S4, f4, x4, c4, r4, w4⟩
      exact s' g4 H4 S4 e f4 y v Q _ c4 (x4.rp (x3.rp r2)) r4 w4
    | false =>
      rw [if_neg Bool.false_ne_true]
      exact w3.ok c3 rp_bl
  | _ => exact w3.elim
theorem x_chain {o o' : U → U → Sto → Out U} {r r' : R2} (h : PE X e (tChain r r' (rdE ω E ma) (rdE ω E mb) (rdE ω E mc))) (s : SOp o r) (s' : SOp o' r') : PE X e (rdE ω E (mChain o o' ma mb mc)) := h.to fun σ H Q h => rd_chain s s' h
theorem xt_chain {o o' : U → U → Sto → Out U} {r r' : R2} (h : PT X e (tTest (tChain r r' (rdE ω E ma) (rdE ω E mb) (rdE ω E mc)))) (s : SOp o r) (s' : SOp o' r') : PT X e (rdT ω E (mTB (mChain o o' ma mb mc))) := h.to fun σ H Q h => rd_chain s s' (rd_test h)
/-- a value that is a truth, as a test -/
theorem xt_val (h : PT X e (tB (rdE ω E ma))) : PT X e (rdT ω E (mTB ma)) := h.to fun σ H Q h => rd_test h
-- and, or, not
theorem rd_and {σ : St} {H : Hp} {Q : Bool → Hp → Prop} (h : rdT ω E (mAnd mt mu) σ H Q) : tAnd (rdT ω E mt) (rdT ω E mu) σ H Q := by
  refine (rd_bind (R := rB) (m := mt) (kk := fun ρ x S1 => match x with
    | true => mu ρ S1
    | false => .ok false S1) h).mono ?_
  rintro x H1 ⟨g1, ρ, S1, d, a1, r1, w1⟩
  cases (show d = x from r1)
  cases x with
  | true => rw [if_pos rfl]; exact ⟨g1, ρ, S1, a1, w1⟩
  | false => rw [if_neg Bool.false_ne_true]; exact w1.ok a1.c rfl
theorem rd_or {σ : St} {H : Hp} {Q : Bool → Hp → Prop} (h : rdT ω E (mOr mt mu) σ H Q) : tOr (rdT ω E mt) (rdT ω E mu) σ H Q := by
  refine (rd_bind (R := rB) (m := mt) (kk := fun ρ x S1 => match x with
    | true => .ok true S1
    | false => mu ρ S1) h).mono ?_
  rintro x H1 ⟨g1, ρ, S1, d, a1, r1, w1⟩
  cases (show d = x from r1)
  cases x with
  | true => rw [if_pos rfl]; exact w1.ok a1.c rfl
  | false => rw [if_neg Bool.false_ne_true]; exact ⟨g1, ρ, S1, a1, w1⟩
theorem xw_and (h : PW X e (tAnd (rdT ω E mt) (rdT ω E mu))) : PW X e (rdT ω E (mAnd mt mu)) := h.to fun σ H Q h => rd_and h
theorem xw_or (h : PW X e (tOr (rdT ω E mt) (rdT ω E mu))) : PW X e (rdT ω E (mOr mt mu)) := h.to fun σ H Q h => rd_or h
theorem xt_not (h : PT X e (tNot (rdT ω E mt))) : PT X e (rdT ω E (mNot mt)) := h.to fun σ H Q h => by
  refine (rd_bind (R := rB) (m := mt) (kk := fun ρ x S1 => .ok (!x) S1) h).mono ?_
  rintro x H1 ⟨g1, ρ, S1, d, a1, r1, w1⟩
  cases (show d = x from r1)
  exact w1.ok a1.c rfl
theorem x_and (h : PE X e (tAndV (rdE ω E ma) (rdE ω E mb))) : PE X e (rdE ω E (mAndV ma mb)) := h.to fun σ H Q h => by
  refine (rd_bind (R := Rp) (m := ma) (kk := fun ρ x S1 => match x with
    | .bl true => mb ρ S1
    | .bl false => .ok (.bl false) S1
    | _ => .bad) h).mono ?_
  rintro x H1 ⟨g1, ρ, S1, d, a1, r1, w1⟩
  cases d with
  | bl k =>
    refine ⟨k, r1.of_bl, ?_⟩
    cases k with
    | true => rw [if_pos rfl]; exact ⟨g1, ρ, S1, a1, w1⟩
    | false => rw [if_neg Bool.false_ne_true]; exact w1.ok a1.c rp_bl
  | _ => exact w1.elim
theorem x_or (h : PE X e (tOrV (rdE ω E ma) (rdE ω E mb))) : PE X e (rdE ω E (mOrV ma mb)) := h.to fun σ H Q h => by
  refine (rd_bind (R := Rp) (m := ma) (kk := fun ρ x S1 => match x with
    | .bl true => .ok (.bl true) S1
    | .bl false => mb ρ S1
    | _ => .bad) h).mono ?_
  rintro x H1 ⟨g1, ρ, S1, d, a1, r1, w1⟩
  cases d with
  | bl k =>
    refine ⟨k, r1.of_bl, ?_⟩
    cases k with
    | true => rw [if_pos rfl]; exact w1.ok a1.c rp_bl
    | false => rw [if_neg Bool.false_ne_true]; exact ⟨g1, ρ, S1, a1, w1⟩
  | _ => exact w1.elim
theorem x_not (h : PE X e (tNotV (rdE ω E ma))) : PE X e (rdE ω E (mNotV ma)) := h.to fun σ H Q h => by
  refine (rd_bind (R := Rp) (m := ma) (kk := fun ρ x S1 => match x with
    | .bl c => .ok (U.bl (!c)) S1
    | _ => .bad) h).mono ?_
  rintro x H1 ⟨g1, ρ, S1, d, a1, r1, w1⟩
  cases d with
  | bl k => exact ⟨k, r1.of_bl, w1.ok a1.c rp_bl⟩
  | _ => exact w1.elim
theorem x_ifE (h : PE X e (tIf (rdT ω E mt) (rdE ω E ma) (rdE ω E mb))) : PE X e (rdE ω E (mIfE mt ma mb)) := h.to fun σ H Q h => by
  refine (rd_bind (R := rB) (m := mt) (kk := fun ρ x S1 => match x with
    | true => ma ρ S1
    | false => mb ρ S1) h).mono ?_
  rintro x H1 ⟨g1, ρ, S1, d, a1, r1, w1⟩
  cases (show d = x from r1)
  cases x with
  | true => rw [if_pos rfl]; exact ⟨g1, ρ, S1, a1, w1⟩
  | false => rw [if_neg Bool.false_ne_true]; exact ⟨g1, ρ, S1, a1, w1⟩
-- argument lists, displays
theorem xa_nil : PA X [] (rdA ω E mNil) := PA.to pa_nil fun σ H Q ⟨g, ρ, S, a, w⟩ => w.ok a.c rps_nil
theorem rd_cons {σ : St} {H : Hp} {Q : List V → Hp → Prop} (h : rdA ω E (mCons ma mr) σ H Q) : tCons (rdE ω E ma) (rdA ω E mr) σ H Q := by
  refine (rd_bind (R := Rp) (m := ma) (kk := fun ρ x S1 => (mr ρ S1).bind fun xs S2 => .ok (x :: xs) S2) h).mono ?_
  rintro x H1 ⟨g1, ρ, S1, d, a1, r1, w1⟩
  refine ⟨g1, ρ, S1, a1, (Wp.bind (R := Rps) w1).mono ?_⟩
  rintro y H2 ⟨g2, S2, e, x2, c2, r2, w2⟩
  exact w2.ok c2 (rps_cons (x2.rp r1) r2)
theorem xa_cons (ha : PE X e (rdE ω E ma)) (hr : PA X es (rdA ω E mr)) (hs : starEach (e :: es) X.env = (false, eval e X.env) :: starEach es X.env := by rfl) : PA X (e :: es) (rdA ω E (mCons ma mr)) := (pa_cons ha hr hs).to fun σ H Q h => rd_cons h
theorem xk_nil : PK X [] (rdA ω E mNil) := ⟨fun pos pins s σ H Q I ⟨g, ρ, S, a, w⟩ => (pk_nil (X := X)).run pos pins s σ H Q I (w.ok a.c rps_nil)⟩
theorem xk_cons {kws : List Keyword} {nm} {kpos} (ha : PE X e (rdE ω E ma)) (hr : PK X kws (rdA ω E mr)) : PK X (⟨nm, e, kpos⟩ :: kws) (rdA ω E (mCons ma mr)) := ⟨fun pos pins s σ H Q I h => (pk_cons ha hr).run pos pins s σ H Q I (rd_cons h)⟩
theorem x_tup (h : PE X e (tTup (rdA ω E mr))) : PE X e (rdE ω E (mTup mr)) := h.to fun σ H Q h => by
  refine (rd_bind (R := Rps) (m := mr) (kk := fun ρ us S1 => if us.length ≤ 10000000 then .ok (U.tup us) S1 else .bad) h).mono ?_
  rintro xs H1 ⟨g1, ρ, S1, ds, a1, r1, w1⟩
  by_cases l : ds.length ≤ 10000000
  · rw [if_pos l] at w1
    refine ⟨by rw [r1.len]; exact Nat.le_trans l ten, fun p hp => ?_⟩
    obtain ⟨x, k⟩ := a1.c.newF (o := .tup xs) hp
    exact w1 _ _ _ x k (rp_tup upd_same (x.rps r1))
  · rw [if_neg l] at w1; exact w1.elim
/-- a new list, never to be written, or a thing of the store -/
theorem new_lst {g : Gd} {H : Hp} {S : Sto} {c : Bool} {us : List U} {vs : List V} {Q : VK} {E : XK} (k : Cor g H S) (r : Rps g us vs) (w : Wp g H Rp Q E (newLst c us S)) : vs.length ≤ sizeLine ∧ ∀ p, H p = none → Q (.ref p) (upd H p (.lst vs)) := by
  unfold newLst at w
  by_cases l : us.length ≤ 10000000
  · rw [if_pos l] at w
    refine ⟨by rw [r.len]; exact Nat.le_trans l ten, fun p hp => ?_⟩
    cases c with
    | true =>
      rw [if_pos rfl] at w
      have np : p ∉ g.al := fun m => (k.there m).1 hp
      have r' : Rps (g.push p) us vs := Rps.mono (g := g) (g' := g.push p) (Same.refl _) rfl (fun n a h => by rw [List.getElem?_append_left (List.getElem?_eq_some_iff.mp h).1]; exact h) us vs r
      obtain ⟨x, k2⟩ := k.newC (o := .lst vs) (c := .lst us) hp ⟨vs, upd_same, r'⟩
      exact w _ _ _ x k2 (rp_cel (by rw [← k.len]; simp))
    | false =>
      rw [if_neg Bool.false_ne_true] at w
      obtain ⟨x, k2⟩ := k.newF (o := .lst vs) hp
      exact w _ _ _ x k2 (rp_lst upd_same (x.rps r))
  · rw [if_neg l] at w; exact w.elim
theorem x_lst {t : Bool} (h : PE X e (tLst (rdA ω E mr))) : PE X e (rdE ω E (mLst t mr)) := h.to fun σ H Q h => by
  refine (rd_bind (R := Rps) (m := mr) (kk := fun ρ => newLst t) h).mono ?_
  rintro xs H1 ⟨g1, ρ, S1, ds, a1, r1, w1⟩
  exact new_lst a1.c r1 w1
/-- built-ins that are called by name -/
theorem rd_cb {o : List U → Sto → Out U} {r : List V → Hp → VK → Prop} {σ : St} {H : Hp} {Q : VK} (s : SCB o r) (h : rdE ω E (mCB o mr) σ H Q) : tCB r (rdA ω E mr) σ H Q := by
  refine (rd_bind (R := Rps) (m := mr) (kk := fun ρ => o) h).mono ?_
  rintro xs H1 ⟨g1, ρ, S1, ds, a1, r1, w1⟩
  exact s g1 H1 S1 ds xs Q _ a1.c r1 w1
-- statements
theorem xs_ret (h : PS X st (tRet (rdE ω E ma))) : PS X st (rdS ω E (mRet ma)) := h.to fun D σ H ⟨g, ρ, S, a, w⟩ =>
  ⟨g, ρ, S, a, Ws.ofE (R := Rp) a w fun b H1 g1 S1 x y a1 r w1 => w1 _ _ _ a1.c.rfl_ a1.c r⟩
theorem xs_retN (h : PS X st tRetN) : PS X st (rdS ω E mRetN) := h.to fun D σ H ⟨g, ρ, S, a, w⟩ => w _ _ _ a.c.rfl_ a.c rp_non
theorem xs_expr (h : PS X st (tDrop (rdE ω E ma))) : PS X st (rdS ω E (mExpr ma)) := h.to fun D σ H ⟨g, ρ, S, a, w⟩ =>
  ⟨g, ρ, S, a, Ws.ofE (R := Rp) a w fun b H1 g1 S1 x y a1 r w1 => w1 _ _ _ a1.c.rfl_ a1⟩
theorem xss_nil : PSs X [] (rdS ω E mNx) := PSs.to pss_nil fun D σ H ⟨g, ρ, S, a, w⟩ => w _ _ _ a.c.rfl_ a
theorem xss_one (h : PS X st (rdS ω E m)) : PSs X [st] (rdS ω E m) := pss_one h
theorem xss_cons {st2 : Stmt} (h : PS X st (rdS ω E m)) (k : PSs X (st2 :: sts) (rdS ω E n)) : PSs X (st :: st2 :: sts) (rdS ω E (mSeq m n)) := PSs.to (pss_cons h k) fun D σ H ⟨g, ρ, S, a, w⟩ => ⟨g, ρ, S, a, w.seq⟩
theorem xs_if (h : PS X st (tIfS (rdT ω E mt) (rdS ω E m) (rdS ω E n))) : PS X st (rdS ω E (mIf mt m n)) := h.to fun D σ H ⟨g, ρ, S, a, w⟩ =>
  ⟨g, ρ, S, a, Ws.ofE (R := rB) a w fun b H1 g1 S1 x y a1 r w1 => by
    cases (show x = b from r)
    cases b with
    | true => rw [if_pos rfl]; exact ⟨g1, ρ, S1, a1, w1⟩
    | false => rw [if_neg Bool.false_ne_true]; exact ⟨g1, ρ, S1, a1, w1⟩⟩
theorem xs_set {i : Nat} (h : PS X st (tAsg (rdE ω E ma) (gName i))) : PS X st (rdS ω E (mSet i ma)) := h.to fun D σ H ⟨g, ρ, S, a, w⟩ =>
  ⟨g, ρ, S, a, Ws.ofE (R := Rp) a w fun b H1 g1 S1 x y a1 r w1 => w1 _ _ _ a1.c.rfl_ ⟨a1.e.set r i, a1.c⟩⟩
theorem xs_par {i j : Nat} (h : PS X st (tPar i j (rdA ω E mr))) : PS X st (rdS ω E (mPar i j mr)) := h.to fun D σ H ⟨g, ρ, S, a, w⟩ =>
  ⟨g, ρ, S, a, Ws.ofE (R := Rps) a w fun b H1 g1 S1 x y a1 r w1 => by
    match x, r, w1 with
    | [d, e], r, w1 =>
      obtain ⟨v, ws, rfl, r1, r2⟩ := r.of_cons
      obtain ⟨v2, ws2, rfl, r3, r4⟩ := r2.of_cons
      rw [r4.of_nil]
      exact ⟨v, v2, rfl, w1 _ _ _ a1.c.rfl_ ⟨(a1.e.set r1 i).set r3 j, a1.c⟩⟩
    | [], _, w1 => exact w1.elim
    | [_], _, w1 => exact w1.elim
    | _ :: _ :: _ :: _, _, w1 => exact w1.elim⟩
theorem xs_pass (h : PS X st tNext) : PS X st (rdS ω E mNx) := h.to fun D σ H ⟨g, ρ, S, a, w⟩ => w _ _ _ a.c.rfl_ a
/-- a target keeps to its mirror, and writes no slot but sl -/
def SG (ω : Om) (gm : MG) (t : TG) (sl : List Nat) : Prop := ∀ (g : Gd) (ρ ρ' : Rho) (d : U) (v : V) (σ : St) (H : Hp) (Q : St → Hp → Prop), EnvR ω g ρ σ → Same g.F H → Rp g d v → gm d ρ = some ρ' →
  (∀ σ', EnvR ω g ρ' σ' → σ'.length = σ.length → (∀ i, i ∉ sl → σ'[i]? = σ[i]?) → Q σ' H) → t v σ H Q
def SGs (ω : Om) (gms : List MG) (t : TGs) (sl : List Nat) : Prop := ∀ (g : Gd) (ρ ρ' : Rho) (ds : List U) (vs : List V) (σ : St) (H : Hp) (Q : St → Hp → Prop), EnvR ω g ρ σ → Same g.F H → Rps g ds vs → gTs gms ds ρ = some ρ' →
  (∀ σ', EnvR ω g ρ' σ' → σ'.length = σ.length → (∀ i, i ∉ sl → σ'[i]? = σ[i]?) → Q σ' H) → t vs σ H Q
theorem sg_n {i : Nat} : SG ω (gN i) (gName i) [i] := fun g ρ ρ' d v σ H Q a s r e q => by
  cases e
  exact q _ (a.set r i) (List.length_set ..) fun j h => List.getElem?_set_ne (fun z => h (by rw [z]; exact List.mem_singleton.mpr rfl))
theorem gTs_len : ∀ {gms : List MG} {ds : List U} {ρ ρ' : Rho}, gTs gms ds ρ = some ρ' → ds.length = gms.length
  | [], [], _, _, _ => rfl
  | [], _ :: _, _, _, h => by cases h
  | _ :: _, [], _, _, h => by cases h
  | g :: gs, d :: ds, ρ, ρ', h => by
    rw [gTs_cons] at h
    cases e : g d ρ with
    | none => rw [e] at h; cases h
    | some ρ1 => rw [e] at h; rw [List.length_cons, List.length_cons, gTs_len h]
theorem sgs_nil : SGs ω [] gNil [] := fun g ρ ρ' ds vs σ H Q a s r e q => by
  cases ds with
  | nil => cases e; exact ⟨r.of_nil, q σ a rfl fun _ _ => rfl⟩
  | cons d ds => cases e
theorem sgs_cons {gm : MG} {gms : List MG} {t : TG} {u : TGs} {sl sl' : List Nat} (q1 : SG ω gm t sl) (q2 : SGs ω gms u sl') : SGs ω (gm :: gms) (gCons t u) (sl ++ sl') := fun g ρ ρ' ds vs σ H Q a s r e q => by
  cases ds with
  | nil => cases e
  | cons d ds =>
    obtain ⟨v, ws, rfl, r1, r2⟩ := r.of_cons
    rw [gTs_cons] at e
    cases e1 : gm d ρ with
    | none => rw [e1] at e; cases e
    | some ρ1 =>
      rw [e1] at e
      exact ⟨v, ws, rfl, q1 g ρ ρ1 d v σ H _ a s r1 e1 fun σ1 a1 l1 k1 => q2 g ρ1 ρ' ds ws σ1 H Q a1 s r2 e fun σ2 a2 l2 k2 => q σ2 a2 (l2.trans l1) fun i n => by
        rw [k2 i fun m => n (List.mem_append_right _ m), k1 i fun m => n (List.mem_append_left _ m)]⟩
theorem sg_t {gms : List MG} {t : TGs} {sl : List Nat} {K : PySem.W.Frag} {n : Nat} (q1 : SGs ω gms t sl) (hn : n = gms.length := by rfl) : SG ω (gT gms) (gTup K n t) sl := fun g ρ ρ' d v σ H Q a s r e q => by
  cases d with
  | tup us =>
    obtain ⟨p, vs, rfl, hp, hr⟩ := r.of_tup
    exact ⟨p, vs, rfl, SqT.of (s p _ hp), by rw [hr.len, gTs_len e, hn], q1 g ρ ρ' us vs σ H Q a s hr e q⟩
  | _ => cases e
theorem xs_asg {gm : MG} {t : TG} {sl : List Nat} (h : PS X st (tAsg (rdE ω E ma) t)) (q1 : SG ω gm t sl) : PS X st (rdS ω E (mAsg ma gm)) :=
  h.to fun D σ H ⟨g, ρ, S, a, w⟩ => ⟨g, ρ, S, a, Ws.ofE (R := Rp) a w fun b H1 g1 S1 x y a1 r w1 => by
    cases e1 : gm x ρ with
    | none => rw [e1] at w1; exact w1.elim
    | some ρ1 =>
      rw [e1] at w1
      exact q1 g1 ρ ρ1 x b σ H1 _ a1.e a1.c.fh r e1 fun σ' a2 _ _ => w1 _ _ _ a1.c.rfl_ ⟨a2, a1.c⟩⟩
end
end Z

namespace Z
open PySem PySem.Spec PyProof.Rows L2

/-! ### while -/
def whN (t : ME Bool) (b : MS) : Nat → Rho → Sto → Option SO
  | 0, _, _ => none
  | n + 1, ρ, S => match t ρ S with
    | .ok true S1 => match b ρ S1 with
      | .nx ρ' S' => whN t b n ρ' S'
      | .rt d S' => some (.rt d S')
      | .ex e ρ' S' => some (.ex e ρ' S')
      | .bad => some .bad
    | .ok false S1 => some (.nx ρ S1)
    | .ex e S1 => some (.ex e ρ S1)
    | .bad => some .bad
open Classical in
noncomputable def mWhile (t : ME Bool) (b : MS) : MS := fun ρ S => if h : ∃ r n, whN t b n ρ S = some r then h.choose else .bad
section
variable {t : ME Bool} {b : MS}
theorem whN_more : ∀ {n : Nat} {ρ : Rho} {S : Sto} {r : SO}, whN t b n ρ S = some r → ∀ k, whN t b (n + k) ρ S = some r
  | 0, _, _, _, h, _ => by cases h
  | n + 1, ρ, S, r, h, k => by
    rw [show n + 1 + k = (n + k) + 1 by omega]
    unfold whN at h ⊢
    cases e : t ρ S with
    | bad => rw [e] at h; exact h
    | ex x S1 => rw [e] at h; exact h
    | ok c S1 =>
      rw [e] at h
      cases c with
      | false => exact h
      | true =>
        dsimp only at h ⊢
        cases e2 : b ρ S1 with
        | nx ρ' S' => rw [e2] at h; exact whN_more (n := n) h k
        | rt d S' => rw [e2] at h; exact h
        | ex x ρ' S' => rw [e2] at h; exact h
        | bad => rw [e2] at h; exact h
theorem whN_one {n m : Nat} {ρ : Rho} {S : Sto} {r r' : SO} (h : whN t b n ρ S = some r) (h' : whN t b m ρ S = some r') : r = r' := by
  have a := whN_more h m
  have b' := whN_more h' n
  rw [Nat.add_comm] at b'
  rw [a] at b'
  exact Option.some.inj b'
theorem mWhile_of {n : Nat} {ρ : Rho} {S : Sto} {r : SO} (h : whN t b n ρ S = some r) : mWhile t b ρ S = r := by
  unfold mWhile
  have hx : ∃ r n, whN t b n ρ S = some r := ⟨r, n, h⟩
  rw [dif_pos hx]
  obtain ⟨m, e⟩ := hx.choose_spec
  exact whN_one e h
theorem mWhile_to {ρ : Rho} {S : Sto} : mWhile t b ρ S = .bad ∨ ∃ n, whN t b n ρ S = some (mWhile t b ρ S) := by
  by_cases hx : ∃ r n, whN t b n ρ S = some r
  · obtain ⟨r, n, e⟩ := hx
    exact Or.inr ⟨n, by rw [mWhile_of e]; exact e⟩
  · exact Or.inl (by unfold mWhile; rw [dif_neg hx])
/-- one turn -/
theorem mWhile_t {ρ : Rho} {S S1 : Sto} (h : t ρ S = .ok true S1) : mWhile t b ρ S = (b ρ S1).andThen (mWhile t b) := by
  rcases mWhile_to (t := t) (b := b) (ρ := ρ) (S := S) with e | ⟨n, e⟩
  · rw [e]
    cases e2 : b ρ S1 with
    | nx ρ' S' =>
      rw [andThen_nx]
      rcases mWhile_to (t := t) (b := b) (ρ := ρ') (S := S') with e3 | ⟨m, e3⟩
      · exact e3.symm
      · have : whN t b (m + 1) ρ S = some (mWhile t b ρ' S') := by unfold whN; rw [h]; dsimp only; rw [e2]; exact e3
        rw [mWhile_of this] at e; exact e.symm
    | rt d S' =>
      have : whN t b 1 ρ S = some (.rt d S') := by unfold whN; rw [h]; dsimp only; rw [e2]
      rw [mWhile_of this] at e; cases e
    | ex x ρ' S' =>
      have : whN t b 1 ρ S = some (.ex x ρ' S') := by unfold whN; rw [h]; dsimp only; rw [e2]
      rw [mWhile_of this] at e; cases e
    | bad => rfl
  · cases n with
    | zero => cases e
    | succ n =>
      generalize mWhile t b ρ S = r at e
      unfold whN at e
      rw [h] at e
      dsimp only at e
      cases e2 : b ρ S1 with
      | nx ρ' S' => rw [e2] at e; rw [andThen_nx, mWhile_of e]
      | rt d S' => rw [e2] at e; exact (Option.some.inj e).symm
      | ex x ρ' S' => rw [e2] at e; exact (Option.some.inj e).symm
      | bad => rw [e2] at e; exact (Option.some.inj e).symm
theorem mWhile_f {ρ : Rho} {S S1 : Sto} (h : t ρ S = .ok false S1) : mWhile t b ρ S = .nx ρ S1 := mWhile_of (n := 1) (by unfold whN; rw [h])
end
section
variable {ω : Om} {X : Cx} {E : WX} {mt : ME Bool} {m : MS} {st : Stmt}
theorem rd_while {D : Ends} {σ : St} {H : Hp} (h : rdS ω E (mWhile mt m) D σ H) : tWhile (rdT ω E mt) (rdS ω E m) D σ H := by
  obtain ⟨g, ρ, S, a, w⟩ := h
  rcases mWhile_to (t := mt) (b := m) (ρ := ρ) (S := S) with e | ⟨n, e⟩
  · rw [e] at w; exact w.elim
  refine ⟨fun k σ' H' => ∃ g' ρ' S' r, At ω g' ρ' S' σ' H' ∧ whN mt m k ρ' S' = some r ∧ Ws ω g' H' D E r, ⟨n, g, ρ, S, _, a, e, w⟩, ?_⟩
  rintro k σ' H' ⟨g', ρ', S', r, a', e', w'⟩
  cases k with
  | zero => cases e'
  | succ k =>
    unfold whN at e'
    refine ⟨g', ρ', S', a', ?_⟩
    cases et : mt ρ' S' with
    | bad => rw [et] at e'; cases e'; exact w'
    | ex x S1 => rw [et] at e'; cases e'; exact fun g2 H2 cls d y c r => w' g2 H2 σ' cls d y ⟨a'.e.mono y, c⟩ r
    | ok c S1 =>
      rw [et] at e'
      intro g2 H2 b y cc rb
      cases (show c = b from rb)
      cases c with
      | false => cases e'; exact w' g2 H2 σ' y ⟨a'.e.mono y, cc⟩
      | true =>
        rw [if_pos rfl]
        dsimp only at e'
        refine ⟨_, fun σ3 H3 q => ⟨k, Nat.lt_succ_self k, q⟩, g2, ρ', S1, ⟨a'.e.mono y, cc⟩, ?_⟩
        cases eb : m ρ' S1 with
        | nx ρ2 S2 => rw [eb] at e'; exact fun g3 H3 σ3 z a3 => ⟨g3, ρ2, S2, r, a3, e', w'.base (y.trans z)⟩
        | rt d S2 => rw [eb] at e'; cases e'; exact w'.base y
        | ex x ρ2 S2 => rw [eb] at e'; cases e'; exact w'.base y
        | bad => rw [eb] at e'; cases e'; exact w'
theorem xs_while (h : PS X st (tWhile (rdT ω E mt) (rdS ω E m))) : PS X st (rdS ω E (mWhile mt m)) := h.to fun D σ H h => rd_while h
end

/-! ### what is walked -/
/-- the items; the store's list from which they come -/
structure IT where
  us : List U
  src : Option Nat
def IT.chk (it : IT) (S : Sto) : Prop := match it.src with
  | none => True
  | some n => ∃ us, S[n]? = some (.lst us) ∧ us = it.us
structure DrvU (J : It) (g : Gd) (H : Hp) (it : IT) : Prop where
  go : ∀ i g' H' S', Gr g H g' H' → Cor g' H' S' → it.chk S' → i < it.us.length → J.go i H'
  yl : ∀ i g' H' S' x H2, Gr g H g' H' → Cor g' H' S' → it.chk S' → i < it.us.length → J.yld i H' x H2 → ∃ g2 d, Gr g' H' g2 H2 ∧ Cor g2 H2 S' ∧ it.us[i]? = some d ∧ Rp g2 d x
  st : ∀ i g' H' S', Gr g H g' H' → Cor g' H' S' → it.chk S' → it.us.length ≤ i → J.stop i H'
def WI (g : Gd) (H : Hp) (R : It → Hp → Prop) (E : XK) : Out IT → Prop
  | .ok it S => ∀ g' H' J, Gr g H g' H' → Cor g' H' S → DrvU J g' H' it → R J H'
  | .ex e S => ∀ g' H' cls d, Gr g H g' H' → Cor g' H' S → XRp g' e cls d → E cls d H'
  | .bad => False
def rdI (ω : Om) (E : WX) (m : ME IT) : TI := fun σ H R => ∃ g ρ S, At ω g ρ S σ H ∧ WI g H R (fun cls d H' => E cls d σ H') (m ρ S)
theorem rdI_bind {ω : Om} {E : WX} {α β : Type} {R : Gd → α → β → Prop} {m : ME α} {kk : Rho → α → Sto → Out IT} {σ : St} {H : Hp} {Q : It → Hp → Prop} (h : rdI ω E (fun ρ S => (m ρ S).bind (kk ρ)) σ H Q) :
    rdG ω R E m σ H fun b H1 => ∃ g1 ρ S1 a, At ω g1 ρ S1 σ H1 ∧ R g1 a b ∧ WI g1 H1 Q (fun cls d H' => E cls d σ H') (kk ρ a S1) := by
  obtain ⟨g, ρ, S, a, w⟩ := h
  have base : ∀ {g1 H1 o}, WI g H Q (fun cls d H' => E cls d σ H') o → Gr g H g1 H1 → WI g1 H1 Q (fun cls d H' => E cls d σ H') o := fun {g1 H1 o} w x => by
    cases o with
    | ok it S => exact fun g' H' J y c d => w g' H' J (x.trans y) c d
    | ex e S => exact fun g' H' cls d y c r => w g' H' cls d (x.trans y) c r
    | bad => exact w
  refine ⟨g, ρ, S, a, ?_⟩
  dsimp only at w
  cases e : m ρ S with
  | ok x S' => rw [e] at w; exact fun g' H' b y c r => ⟨g', ρ, S', x, ⟨a.e.mono y, c⟩, r, base w y⟩
  | ex x S' => rw [e] at w; exact w
  | bad => rw [e] at w; exact w
/-- for: item by item -/
noncomputable def forL (gm : MG) (b : MS) (chk : Sto → Prop) : List U → Rho → Sto → SO
  | [], ρ, S => open Classical in if chk S then .nx ρ S else .bad
  | d :: ds, ρ, S => open Classical in if chk S then (match gm d ρ with
    | some ρ1 => (b ρ1 S).andThen (forL gm b chk ds)
    | none => .bad) else .bad
noncomputable def mFor (mi : ME IT) (gm : MG) (b : MS) : MS := fun ρ S => (mi ρ S).thenS ρ fun it S1 => forL gm b it.chk it.us ρ S1
section
variable {ω : Om} {X : Cx} {E : WX} {mi : ME IT} {gm : MG} {m : MS} {st : Stmt} {wi : TI} {t : TG} {sl : List Nat}
open Classical in
theorem forL_nil {chk : Sto → Prop} {ρ : Rho} {S : Sto} : forL gm m chk [] ρ S = if chk S then .nx ρ S else .bad := rfl
open Classical in
theorem forL_cons {chk : Sto → Prop} {d : U} {ds : List U} {ρ : Rho} {S : Sto} : forL gm m chk (d :: ds) ρ S = if chk S then (match gm d ρ with
    | some ρ1 => (m ρ1 S).andThen (forL gm m chk ds)
    | none => .bad) else .bad := rfl
theorem rd_for {D : Ends} {σ : St} {H : Hp} (si : ∀ σ H R, rdI ω E mi σ H R → wi σ H R) (sg : SG ω gm t sl) (h : rdS ω E (mFor mi gm m) D σ H) : tFor wi t (rdS ω E m) D σ H := by
  obtain ⟨g, ρ, S, a, w⟩ := h
  refine si σ H _ ⟨g, ρ, S, a, ?_⟩
  unfold mFor at w
  cases e : mi ρ S with
  | bad => rw [e] at w; exact w
  | ex x S1 => rw [e] at w; exact fun g' H' cls d y c r => w g' H' σ cls d y ⟨a.e.mono y, c⟩ r
  | ok it S1 =>
    rw [e, thenS_ok] at w
    intro g1 H1 J x1 c1 dv
    refine ⟨fun i k σ' H' => k = it.us.length - i ∧ i ≤ it.us.length ∧ ∃ g' ρ' S', Gr g1 H1 g' H' ∧ At ω g' ρ' S' σ' H' ∧ Ws ω g' H' D E (forL gm m it.chk (it.us.drop i) ρ' S'),
      ⟨it.us.length, by simp, Nat.zero_le _, g1, ρ, S1, c1.rfl_, ⟨a.e.mono x1, c1⟩, w.base x1⟩, ?_⟩
    rintro i k σ' H' ⟨rfl, hi, g', ρ', S', x', a', w'⟩
    by_cases lt : i < it.us.length
    · rw [List.drop_eq_getElem_cons lt, forL_cons] at w'
      by_cases hc : it.chk S'
      · rw [if_pos hc] at w'
        refine Or.inr ⟨dv.go i g' H' S' x' a'.c hc lt, fun σ3 H3 => ∃ g3 ρ3 S3, Gr g1 H1 g3 H3 ∧ At ω g3 ρ3 S3 σ3 H3 ∧ Ws ω g3 H3 D E (forL gm m it.chk (it.us.drop (i + 1)) ρ3 S3), fun σ3 H3 q => ⟨_, by omega, rfl, lt, q⟩, fun v H2 y => ?_⟩
        obtain ⟨g2, d, x2, c2, ed, r2⟩ := dv.yl i g' H' S' v H2 x' a'.c hc lt y
        rw [List.getElem?_eq_getElem lt] at ed
        cases ed
        cases eg : gm it.us[i] ρ' with
        | none => rw [eg] at w'; exact w'.elim
        | some ρ1 =>
          rw [eg] at w'
          refine sg g2 ρ' ρ1 _ v σ' H2 _ (a'.e.mono x2) c2.fh r2 eg fun σ2 a2 _ _ => ⟨g2, ρ1, S', ⟨a2, c2⟩, ?_⟩
          replace w' := Ws.base w' x2
          dsimp only at w'
          revert w'
          cases m ρ1 S' with
          | nx ρ2 S2 => exact fun w' g3 H3 σ3 z a3 => ⟨g3, ρ2, S2, (x'.trans x2).trans z, a3, Ws.base w' z⟩
          | rt d S2 => exact fun w' => w'
          | ex e ρ2 S2 => exact fun w' => w'
          | bad => exact fun w' => w'
      · rw [if_neg hc] at w'; exact w'.elim
    · have ei : i = it.us.length := by omega
      subst ei
      rw [List.drop_length, forL_nil] at w'
      by_cases hc : it.chk S'
      · rw [if_pos hc] at w'
        exact Or.inl ⟨dv.st _ g' H' S' x' a'.c hc (Nat.le_refl _), w' g' H' σ' a'.c.rfl_ a'⟩
      · rw [if_neg hc] at w'; exact w'.elim
theorem xs_for (h : PS X st (tFor wi t (rdS ω E m))) (si : ∀ σ H R, rdI ω E mi σ H R → wi σ H R) (sg : SG ω gm t sl) : PS X st (rdS ω E (mFor mi gm m)) := h.to fun D σ H h => rd_for si sg h
end

/-! ### comprehensions -/
def wipeR (ρ : Rho) : List Nat → Rho
  | [] => ρ
  | v :: vs => (wipeR ρ vs).set v none
theorem EnvR.wipe {ω : Om} {g : Gd} {ρ : Rho} {σ : St} (h : EnvR ω g ρ σ) : ∀ vs : List Nat, EnvR ω g (wipeR ρ vs) (L2.wipe σ vs)
  | [] => h
  | v :: vs => by
    have ih := EnvR.wipe h vs
    unfold wipeR L2.wipe
    refine ⟨ih.k, by rw [List.length_set, List.length_set]; exact ih.len, fun i d e => ?_⟩
    by_cases z : v = i
    · subst z
      have l := (List.getElem?_eq_some_iff.mp e).1
      rw [List.length_set] at l
      rw [List.getElem?_set_self l] at e; cases e
    · rw [List.getElem?_set_ne z] at e
      rw [List.getElem?_set_ne z]
      exact ih.at_ i d e
theorem wipe_get (σ : St) : ∀ (vs : List Nat) (i : Nat), (L2.wipe σ vs)[i]? = if i ∈ vs then σ[i]?.map (fun _ => none) else σ[i]?
  | [], i => by unfold L2.wipe; simp
  | v :: vs, i => by
    unfold L2.wipe
    by_cases z : v = i
    · subst z
      rw [if_pos List.mem_cons_self]
      by_cases l : v < σ.length
      · rw [List.getElem?_set_self (by rw [wipe_length]; exact l), List.getElem?_eq_getElem l]; rfl
      · rw [List.getElem?_eq_none (by rw [List.length_set, wipe_length]; omega), List.getElem?_eq_none (by omega)]; rfl
    · rw [List.getElem?_set_ne z, wipe_get σ vs i]
      have : (i ∈ v :: vs) ↔ (i ∈ vs) := by simp [Ne.symm z]
      by_cases m : i ∈ vs
      · rw [if_pos m, if_pos (this.mpr m)]
      · rw [if_neg m, if_neg (fun q => m (this.mp q))]
theorem wipe_eq {σ σ2 : St} {vs sl : List Nat} (hl : σ2.length = σ.length) (h : ∀ i, i ∉ sl → σ2[i]? = (L2.wipe σ vs)[i]?) (hs : ∀ i, i ∈ sl → i ∈ vs) : L2.wipe σ2 vs = L2.wipe σ vs := by
  refine List.ext_getElem? fun i => ?_
  rw [wipe_get σ2]
  by_cases m : i ∈ vs
  · rw [if_pos m, wipe_get, if_pos m]
    by_cases l : i < σ.length
    · rw [List.getElem?_eq_getElem l, List.getElem?_eq_getElem (by rw [hl]; exact l)]; rfl
    · rw [List.getElem?_eq_none (by omega), List.getElem?_eq_none (by omega)]
  · rw [if_neg m, h i fun q => m (hs i q)]
noncomputable def lcL (gm : MG) (tt : ME Bool) (te : ME U) (chk : Sto → Prop) (ρ : Rho) : List U → Sto → Out (List U)
  | [], S => open Classical in if chk S then .ok [] S else .bad
  | d :: ds, S => open Classical in if chk S then (match gm d ρ with
    | some ρ1 => (match tt ρ1 S with
      | .ok true S1 => (match te ρ1 S1 with
        | .ok y S2 => (match lcL gm tt te chk ρ ds S2 with
          | .ok ys S3 => .ok (y :: ys) S3
          | _ => .bad)
        | _ => .bad)
      | .ok false S1 => lcL gm tt te chk ρ ds S1
      | _ => .bad)
    | none => .bad) else .bad
@[simp] def mYes : ME Bool := fun _ S => .ok true S
noncomputable def mLc (c : Bool) (mi : ME IT) (gm : MG) (tt : ME Bool) (te : ME U) (vs : List Nat) : ME U := fun ρ S => (mi ρ S).bind fun it S1 => (lcL gm tt te it.chk (wipeR ρ vs) it.us S1).bind (newLst c)
/-- nothing is raised -/
abbrev noX : WX := fun _ _ _ _ => False
section
variable {gm : MG} {tt : ME Bool} {te : ME U} {chk : Sto → Prop} {ρ : Rho}
open Classical in
theorem lcL_nil {S : Sto} : lcL gm tt te chk ρ [] S = if chk S then .ok [] S else .bad := rfl
open Classical in
theorem lcL_cons {d : U} {ds : List U} {S : Sto} : lcL gm tt te chk ρ (d :: ds) S = if chk S then (match gm d ρ with
    | some ρ1 => (match tt ρ1 S with
      | .ok true S1 => (match te ρ1 S1 with
        | .ok y S2 => (match lcL gm tt te chk ρ ds S2 with
          | .ok ys S3 => .ok (y :: ys) S3
          | _ => .bad)
        | _ => .bad)
      | .ok false S1 => lcL gm tt te chk ρ ds S1
      | _ => .bad)
    | none => .bad) else .bad := rfl
theorem lcL_noex : ∀ {us : List U} {S : Sto} {e : U} {S' : Sto}, lcL gm tt te chk ρ us S ≠ .ex e S'
  | [], S, e, S', h => by
    rw [lcL_nil] at h
    split at h <;> cases h
  | d :: ds, S, e, S', h => by
    rw [lcL_cons] at h
    split at h
    · split at h
      · split at h
        · split at h
          · split at h <;> cases h
          · cases h
        · exact lcL_noex h
        · cases h
      · cases h
    · cases h
end
section
variable {g g0 : Gd} {H H0 H' : Hp} {S : Sto} {p : Addr} {o : HO}
theorem Cor.hid (k : Cor g H S) (np : p ∉ g.al) (fp : g.F p = none) : Cor g (upd H p o) S where
  fh := fun b u e => by rw [upd_ne (ne_of_none e fp)]; exact k.fh b u e
  len := k.len
  at_ := fun n a c h1 h2 => by
    obtain ⟨q1, q2⟩ := k.at_ n a c h1 h2
    have ne : a ≠ p := fun z => np (by rw [← z]; exact List.mem_of_getElem? h1)
    refine ⟨q1.mono (upd_ne ne) q2.ne (Same.refl _) fun f => q1.no f, ?_⟩
    cases c with
    | lst us => obtain ⟨vs, e, r⟩ := q2; exact ⟨vs, by rw [upd_ne ne]; exact e, r⟩
    | fK us => obtain ⟨vs, ⟨o, e⟩, r⟩ := q2; exact ⟨vs, ⟨o, by rw [upd_ne ne]; exact e⟩, r⟩
    | fT us => obtain ⟨vs, ⟨o, e⟩, r⟩ := q2; exact ⟨vs, ⟨o, by rw [upd_ne ne]; exact e⟩, r⟩
    | dK us => obtain ⟨vs, e, r⟩ := q2; exact ⟨vs, by rw [upd_ne ne]; exact e, r⟩
    | dT us => obtain ⟨vs, e, r⟩ := q2; exact ⟨vs, by rw [upd_ne ne]; exact e, r⟩
    | ins cc us => obtain ⟨ki, dx, vs, e, r⟩ := q2; exact ⟨ki, dx, vs, by rw [upd_ne ne]; exact e, r⟩
  nd := k.nd
theorem Gr.hid (x : Gr g0 H0 g H) (hp : H0 p = none) (fp : g.F p = none) : Gr g0 H0 g (upd H p o) := ⟨x.ca, x.al, x.x.hid hp fp⟩
/-- a list that was made apart is known from now on, or stands in the store -/
theorem end_lst {c : Bool} {us : List U} {vs : List V} {Q : VK} {E : XK} (x : Gr g0 H0 g H) (k : Cor g H S) (hp : H0 p = none) (np : p ∉ g.al) (fp : g.F p = none) (e : H p = some (.lst vs)) (r : Rps g us vs)
    (w : Wp g0 H0 Rp Q E (newLst c us S)) : Q (.ref p) H := by
  have eH : upd H p (.lst vs) = H := by
    funext b
    by_cases z : b = p
    · rw [z, upd_same, e]
    · rw [upd_ne z]
  unfold newLst at w
  by_cases l : us.length ≤ 10000000
  · rw [if_pos l] at w
    cases c with
    | true =>
      rw [if_pos rfl] at w
      have r' : Rps (g.push p) us vs := Rps.mono (g := g) (g' := g.push p) (Same.refl _) rfl (fun n a h => by rw [List.getElem?_append_left (List.getElem?_eq_some_iff.mp h).1]; exact h) us vs r
      obtain ⟨t, et, ft⟩ := x.al
      have x2 : Gr g0 H0 (g.push p) H := ⟨x.ca, ⟨t ++ [p], by show g.al ++ [p] = _; rw [et, List.append_assoc], fun a m => by
        rcases List.mem_append.mp m with m | m
        · exact ft a m
        · simp at m; rw [m]; exact hp⟩, x.x⟩
      have c2 : Cor (g.push p) H (S ++ [.lst us]) := by
        refine ⟨k.fh, by simp [k.len], fun n a c' h1 h2 => ?_, ?_⟩
        · by_cases l : n < g.al.length
          · have h1' : g.al[n]? = some a := by rw [List.getElem?_append_left l] at h1; exact h1
            have h2' : S[n]? = some c' := by rw [List.getElem?_append_left (by rw [← k.len]; exact l)] at h2; exact h2
            obtain ⟨q1, q2⟩ := k.at_ n a c' h1' h2'
            refine ⟨q1, ?_⟩
            have mono : ∀ {us : List U} {vs : List V}, Rps g us vs → Rps (g.push p) us vs := fun {us vs} r => Rps.mono (g := g) (g' := g.push p) (Same.refl _) rfl (fun n a h => by rw [List.getElem?_append_left (List.getElem?_eq_some_iff.mp h).1]; exact h) us vs r
            have monoF : ∀ {κ : Type} {us : List (κ × U)} {vs : List (κ × V)}, RpF g us vs → RpF (g.push p) us vs := fun {κ us vs} r => RpF.mono (g := g) (g' := g.push p) (Same.refl _) rfl (fun n a h => by rw [List.getElem?_append_left (List.getElem?_eq_some_iff.mp h).1]; exact h) r
            cases c' with
            | lst us => obtain ⟨vs, e, r⟩ := q2; exact ⟨vs, e, mono r⟩
            | dK us => obtain ⟨vs, e, r⟩ := q2; exact ⟨vs, e, monoF r⟩
            | dT us => obtain ⟨vs, e, r⟩ := q2; exact ⟨vs, e, monoF r⟩
            | ins cc us => obtain ⟨ki, dx, vs, e, r⟩ := q2; exact ⟨ki, dx, vs, e, monoF r⟩
            | fK us => obtain ⟨vs, e, r⟩ := q2; exact ⟨vs, e, monoF r⟩
            | fT us => obtain ⟨vs, e, r⟩ := q2; exact ⟨vs, e, monoF r⟩
          · have e2 : n = g.al.length := by
              have := (List.getElem?_eq_some_iff.mp h1).1
              simp at this; omega
            subst e2
            simp at h1
            rw [k.len] at h2
            simp at h2
            subst h1 h2
            exact ⟨Fx.of fp rfl, vs, e, r'⟩
        · refine List.nodup_append.mpr ⟨k.nd, by simp, fun a m b m2 => ?_⟩
          simp at m2
          subst m2
          exact fun e => np (e ▸ m)
      exact w _ H _ x2 c2 (rp_cel (by rw [← k.len]; simp))
    | false =>
      rw [if_neg Bool.false_ne_true] at w
      have s : Same g.F (upd g.F p (.lst vs)) := fun b u e => by rw [upd_ne (ne_of_none e fp)]; exact e
      have fh : Same (upd g.F p (.lst vs)) H := fun b u e2 => by
        by_cases z : b = p
        · subst z; rw [upd_same] at e2; cases e2; exact e
        · rw [upd_ne z] at e2; exact k.fh b u e2
      have x1 : Ext g0.al g0.F H0 (upd g.F p (.lst vs)) H := ⟨x.x.ff.trans s, fh, x.x.hh, fun a h1 h2 => by
        by_cases z : a = p
        · subst z; exact absurd hp h1
        · rw [upd_ne z]; exact x.x.nw a h1 h2, x.x.st⟩
      have x2 : Gr g0 H0 (g.put p (.lst vs)) H := ⟨x.ca, x.al, x1⟩
      have monoR : ∀ {us : List U} {vs' : List V}, Rps g us vs' → Rps (g.put p (.lst vs)) us vs' := fun {us vs'} r => Rps.mono (g := g) (g' := g.put p (.lst vs)) s rfl (fun n a h => h) us vs' r
      have monoF : ∀ {κ : Type} {us : List (κ × U)} {vs' : List (κ × V)}, RpF g us vs' → RpF (g.put p (.lst vs)) us vs' := fun {κ us vs'} r => RpF.mono (g := g) (g' := g.put p (.lst vs)) s rfl (fun n a h => h) r
      have c2 : Cor (g.put p (.lst vs)) H S := ⟨fh, k.len, fun n a c' h1 h2 => by
        obtain ⟨q1, q2⟩ := k.at_ n a c' h1 h2
        have ne : a ≠ p := fun z => np (by rw [← z]; exact List.mem_of_getElem? h1)
        refine ⟨q1.mono rfl q2.ne s fun f => by show upd g.F p _ a = none; rw [upd_ne ne]; exact q1.no f, ?_⟩
        cases c' with
        | fK us => obtain ⟨vs, e, r⟩ := q2; exact ⟨vs, e, monoF r⟩
        | fT us => obtain ⟨vs, e, r⟩ := q2; exact ⟨vs, e, monoF r⟩
        | lst us => obtain ⟨vs, e, r⟩ := q2; exact ⟨vs, e, monoR r⟩
        | dK us => obtain ⟨vs, e, r⟩ := q2; exact ⟨vs, e, monoF r⟩
        | dT us => obtain ⟨vs, e, r⟩ := q2; exact ⟨vs, e, monoF r⟩
        | ins cc us => obtain ⟨ki, dx, vs, e, r⟩ := q2; exact ⟨ki, dx, vs, e, monoF r⟩, k.nd⟩
      exact w _ H _ x2 c2 (rp_lst upd_same (monoR r))
  · rw [if_neg l] at w; exact w.elim
end
section
variable {ω : Om} {X : Cx} {E : WX} {c : Bool} {mi : ME IT} {gm : MG} {tt : ME Bool} {te : ME U} {vs sl : List Nat} {wi : TI} {t : TG} {e : Expr} {st : Stmt}
theorem rd_lc {σ : St} {H : Hp} {Q : VK} (si : ∀ σ H R, rdI ω E mi σ H R → wi σ H R) (sg : SG ω gm t sl) (hs : ∀ i, i ∈ sl → i ∈ vs) (h : rdE ω E (mLc c mi gm tt te vs) σ H Q) :
    tLc wi t (rdT ω noX tt) (rdE ω noX te) vs σ H Q := by
  obtain ⟨g, ρ, S, a, w⟩ := h
  refine si σ H _ ⟨g, ρ, S, a, ?_⟩
  unfold mLc at w
  cases e : mi ρ S with
  | bad => rw [e] at w; exact w
  | ex x S1 => rw [e] at w; exact w
  | ok it S1 =>
    rw [e, bind_ok] at w
    intro g1 H1 J x1 c1 dv p hp
    replace w := Wp.base w x1
    have np : p ∉ g1.al := fun m => (c1.there m).1 hp
    have fp : g1.F p = none := fnone c1.fh hp
    generalize hL : lcL gm tt te it.chk (wipeR ρ vs) it.us S1 = L at w
    cases L with
    | bad => exact w.elim
    | ex x S2 => exact absurd hL lcL_noex
    | ok tot Sf =>
      rw [bind_ok] at w
      refine ⟨fun i k H' => k = it.us.length - i ∧ i ≤ it.us.length ∧ ∃ g' S' acc ws rest, Gr g1 H1 g' H' ∧ Cor g' H' S' ∧ p ∉ g'.al ∧ g'.F p = none ∧ H' p = some (.lst ws) ∧ Rps g' acc ws ∧
        lcL gm tt te it.chk (wipeR ρ vs) (it.us.drop i) S' = .ok rest Sf ∧ acc ++ rest = tot,
        ⟨it.us.length, by simp, Nat.zero_le _, g1, S1, [], [], tot, (c1.rfl_).hid hp fp, c1.hid np fp, np, fp, upd_same, rps_nil, hL, rfl⟩, ?_⟩
      rintro i k H' ⟨rfl, hi, g', S', acc, ws, rest, x', c', np', fp', eD, rD, hr, et⟩
      have ltot : tot.length ≤ 10000000 := by
        unfold newLst at w
        by_cases l : tot.length ≤ 10000000
        · exact l
        · rw [if_neg l] at w; exact w.elim
      by_cases lt : i < it.us.length
      · rw [List.drop_eq_getElem_cons lt, lcL_cons] at hr
        by_cases hc : it.chk S'
        · rw [if_pos hc] at hr
          refine Or.inr ⟨dv.go i g' H' S' x' c' hc lt, fun H3 => ∃ g3 S3 acc ws rest, Gr g1 H1 g3 H3 ∧ Cor g3 H3 S3 ∧ p ∉ g3.al ∧ g3.F p = none ∧ H3 p = some (.lst ws) ∧ Rps g3 acc ws ∧
            lcL gm tt te it.chk (wipeR ρ vs) (it.us.drop (i + 1)) S3 = .ok rest Sf ∧ acc ++ rest = tot, fun H3 q => ⟨_, by omega, rfl, lt, q⟩, fun v H2 y => ?_⟩
          obtain ⟨g2, d, x2, c2, ed, r2⟩ := dv.yl i g' H' S' v H2 x' c' hc lt y
          rw [List.getElem?_eq_getElem lt] at ed
          cases ed
          cases eg : gm it.us[i] (wipeR ρ vs) with
          | none => rw [eg] at hr; cases hr
          | some ρ1 =>
            rw [eg] at hr
            dsimp only at hr
            have ea : EnvR ω g2 (wipeR ρ vs) (L2.wipe σ vs) := (((a.e.mono x1).mono x').mono x2).wipe vs
            have keep : ∀ {g4 H4}, Gr g' H' g4 H4 → p ∉ g4.al ∧ g4.F p = none ∧ H4 p = some (.lst ws) := fun {g4 H4} z => by
              refine ⟨fun m => ?_, z.x.out fp' (some_ne eD) (fun u l e => by rw [z.x.hh p _ np' eD] at e; cases e; exact l), z.x.hh p _ np' eD⟩
              obtain ⟨t4, e4, f4⟩ := z.al
              rw [e4] at m
              rcases List.mem_append.mp m with m | m
              · exact np' m
              · rw [f4 p m] at eD; cases eD
            refine sg g2 (wipeR ρ vs) ρ1 _ v (L2.wipe σ vs) H2 _ ea c2.fh r2 eg fun σ2 a2 l2 k2 => ⟨wipe_eq (by rw [l2, wipe_length]) k2 hs, g2, ρ1, S', ⟨a2, c2⟩, ?_⟩
            cases et2 : tt ρ1 S' with
            | bad => rw [et2] at hr; cases hr
            | ex q S3 => rw [et2] at hr; cases hr
            | ok b S3 =>
              rw [et2] at hr
              intro g3 H3 b' x3 c3 rb
              cases (show b = b' from rb)
              have x13 : Gr g' H' g3 H3 := x2.trans x3
              cases b with
              | false =>
                rw [if_neg Bool.false_ne_true]
                dsimp only at hr
                obtain ⟨k1, k2', k3⟩ := keep x13
                exact ⟨g3, S3, acc, ws, rest, x'.trans x13, c3, k1, k2', k3, x13.rps rD, hr, et⟩
              | true =>
                rw [if_pos rfl]
                dsimp only at hr
                refine ⟨g3, ρ1, S3, ⟨a2.mono x3, c3⟩, ?_⟩
                cases ee : te ρ1 S3 with
                | bad => rw [ee] at hr; cases hr
                | ex q S4 => rw [ee] at hr; cases hr
                | ok yv S4 =>
                  rw [ee] at hr
                  dsimp only at hr
                  intro g4 H4 u x4 c4 r4
                  have x14 : Gr g' H' g4 H4 := x13.trans x4
                  obtain ⟨k1, k2', k3⟩ := keep x14
                  cases er : lcL gm tt te it.chk (wipeR ρ vs) (it.us.drop (i + 1)) S4 with
                  | bad => rw [er] at hr; cases hr
                  | ex q S5 => rw [er] at hr; cases hr
                  | ok ys S5 =>
                    rw [er] at hr
                    obtain ⟨e1, e2⟩ := Out.ok.inj hr
                    subst e1
                    subst e2
                    have la : acc.length < 10000000 := by
                      rw [← et, List.length_append, List.length_cons] at ltot; omega
                    refine ⟨ws, k3, ?_, g4, S4, acc ++ [yv], ws ++ [u], ys, (x'.trans x14).hid hp k2', c4.hid k1 k2', k1, k2', upd_same, (x14.rps rD).app (rps_cons r4 rps_nil), er, by rw [← et]; simp⟩
                    rw [rD.len]; have := ten; omega
        · rw [if_neg hc] at hr; cases hr
      · have ei : i = it.us.length := by omega
        subst ei
        rw [List.drop_length, lcL_nil] at hr
        by_cases hc : it.chk S'
        · rw [if_pos hc] at hr
          obtain ⟨e1, e2⟩ := Out.ok.inj hr
          subst e1
          subst e2
          rw [List.append_nil] at et
          subst et
          exact Or.inl ⟨dv.st _ g' H' S' x' c' hc (Nat.le_refl _), end_lst x' c' hp np' fp' eD rD w⟩
        · rw [if_neg hc] at hr; cases hr
theorem x_lc (h : PE X e (tLc wi t (rdT ω noX tt) (rdE ω noX te) vs)) (si : ∀ σ H R, rdI ω E mi σ H R → wi σ H R) (sg : SG ω gm t sl) (hs : ∀ i, i ∈ sl → i ∈ vs := by decide) : PE X e (rdE ω E (mLc c mi gm tt te vs)) :=
  h.to fun σ H Q h => rd_lc si sg hs h
theorem xs_setLc {i : Nat} (h : PS X st (tAsg (tLc wi t (rdT ω noX tt) (rdE ω noX te) vs) (gName i))) (si : ∀ σ H R, rdI ω E mi σ H R → wi σ H R) (sg : SG ω gm t sl) (hs : ∀ i, i ∈ sl → i ∈ vs := by decide) : PS X st (rdS ω E (mSet i (mLc c mi gm tt te vs))) :=
  xs_set (h.to fun D σ H h => rd_lc si sg hs h)
theorem xp_nil : PTs X [] (rdT ω noX mYes) := ⟨fun pins s σ H Q I ⟨g, ρ, S, a, w⟩ => pts_nil.run pins s σ H Q I (w.ok a.c rfl)⟩
end
end Z

namespace Z
open PySem PySem.Spec PyProof.Rows L2

/-! ### a value as data, read through the store -/
def optMap {α β : Type} (f : α → Option β) : List α → Option (List β)
  | [] => some []
  | x :: xs => match f x, optMap f xs with
    | some y, some ys => some (y :: ys)
    | _, _ => none
def res (S : Sto) : Nat → U → Option D
  | 0, _ => none
  | k + 1, u => match u with
    | .non => some .non
    | .bl b => some (.bl b)
    | .int i => some (.int i)
    | .str x => some (.str x)
    | .lst us => (optMap (res S k) us).map D.lst
    | .tup us => (optMap (res S k) us).map D.tup
    | .dct ks us => (optMap (res S k) us).map (D.dct ks)
    | .dtt _ _ => none
    | .scr _ => none
    | .exc nm tx _ _ => some (.exc nm tx)
    | .cel n => match S[n]? with
      | some (.lst us) => (optMap (res S k) us).map D.lst
      | some (.dK kvs) => (optMap (res S k) (kvs.map (·.2))).map (D.dct (kvs.map (·.1)))
      | _ => none
theorem optMap_some {α β : Type} {f : α → Option β} {g : α → β} {xs : List α} (h : ∀ x ∈ xs, f x = some (g x)) : optMap f xs = some (xs.map g) := by
  induction xs with
  | nil => rfl
  | cons x xs ih =>
    unfold optMap
    rw [h x List.mem_cons_self, ih fun y m => h y (List.mem_cons_of_mem _ m)]
    rfl
theorem optMap_len {α β : Type} {f : α → Option β} : ∀ {xs : List α} {ys : List β}, optMap f xs = some ys → ys.length = xs.length
  | [], ys, h => by cases h; rfl
  | x :: xs, ys, h => by
    unfold optMap at h
    split at h
    · cases h; rename_i h1 h2; rw [List.length_cons, List.length_cons, optMap_len h2]
    · cases h
theorem RpF.zip {κ : Type} {g : Gd} : ∀ {kvs : List (κ × U)} {vs : List (κ × V)}, RpF g kvs vs → vs = (kvs.map (·.1)).zip (vs.map (·.2)) ∧ Rps g (kvs.map (·.2)) (vs.map (·.2)) ∧ (kvs.map (·.1)).length = (vs.map (·.2)).length
  | _, _, .nil => ⟨rfl, rps_nil, rfl⟩
  | _, _, .cons (a := p) (b := q) r t => by
    obtain ⟨h1, h2, h3⟩ := RpF.zip t
    obtain ⟨k, u⟩ := p
    obtain ⟨k', v⟩ := q
    obtain ⟨e, r2⟩ := r
    cases (show k = k' from e)
    refine ⟨?_, rps_cons r2 h2, by simpa using h3⟩
    rw [List.map_cons, List.map_cons, List.zip_cons_cons, ← h1]
/-- every exception class in d is known -/
def KcD (o : Om) (d : D) : Prop := ∀ p ∈ xcs d, o.kc p
def KcDs (o : Om) (d : List D) : Prop := ∀ p ∈ xcss d, o.kc p
theorem rep_res {g : Gd} {H : Hp} {S : Sto} (k : Cor g H S) : ∀ (n : Nat) (u : U) (v : V) (d : D), Rp g u v → res S n u = some d → Rep g.ca.ad H d v ∧ KcD g.ca d := by
  intro n
  induction n with
  | zero => intro u v d _ h; cases h
  | succ n ih =>
    have all : ∀ (us : List U) (vs : List V) (ds : List D), Rps g us vs → optMap (res S n) us = some ds → Reps g.ca.ad H ds vs ∧ KcDs g.ca ds := by
      intro us
      induction us with
      | nil => intro vs ds r h; cases h; rw [r.of_nil]; exact ⟨reps_nil, fun p m => by unfold xcss at m; cases m⟩
      | cons u us ih2 =>
        intro vs ds r h
        obtain ⟨v, ws, rfl, r1, r2⟩ := r.of_cons
        unfold optMap at h
        split at h
        · cases h
          rename_i h1 h2
          obtain ⟨a1, a2⟩ := ih u v _ r1 h1
          obtain ⟨b1, b2⟩ := ih2 ws _ r2 h2
          refine ⟨reps_cons a1 b1, fun p m => ?_⟩
          unfold xcss at m
          rcases List.mem_append.mp m with m | m
          · exact a2 p m
          · exact b2 p m
        · cases h
    have nx : ∀ {d : D}, xcs d = [] → KcD g.ca d := fun e p m => by rw [e] at m; cases m
    intro u v d r h
    cases u with
    | non => cases h; rw [r.of_non]; exact ⟨rep_non, nx (by unfold xcs; rfl)⟩
    | bl b => cases h; rw [r.of_bl]; exact ⟨rep_bl, nx (by unfold xcs; rfl)⟩
    | int b => cases h; rw [r.of_int]; exact ⟨rep_int, nx (by unfold xcs; rfl)⟩
    | str b => cases h; rw [r.of_str]; exact ⟨rep_str, nx (by unfold xcs; rfl)⟩
    | lst us =>
      obtain ⟨a, vs, rfl, ha, hr⟩ := r.of_lst
      obtain ⟨ds, e1, rfl⟩ := Option.map_eq_some_iff.mp h
      obtain ⟨b1, b2⟩ := all us vs ds hr e1
      exact ⟨rep_lst (k.fh a _ ha) b1, fun p m => by unfold xcs at m; exact b2 p m⟩
    | tup us =>
      obtain ⟨a, vs, rfl, ha, hr⟩ := r.of_tup
      obtain ⟨ds, e1, rfl⟩ := Option.map_eq_some_iff.mp h
      obtain ⟨b1, b2⟩ := all us vs ds hr e1
      exact ⟨rep_tup (k.fh a _ ha) b1, fun p m => by unfold xcs at m; exact b2 p m⟩
    | dct ks us =>
      obtain ⟨a, vs, rfl, ha, hl, hr⟩ := r.of_dct
      obtain ⟨ds, e1, rfl⟩ := Option.map_eq_some_iff.mp h
      obtain ⟨b1, b2⟩ := all us vs ds hr e1
      exact ⟨rep_dct (k.fh a _ ha) (by rw [optMap_len e1]; exact hl) b1, fun p m => by unfold xcs at m; exact b2 p m⟩
    | dtt ks us => cases h
    | scr ns => cases h
    | exc nm tx ks us =>
      cases h
      obtain ⟨kc, a, t, dx, vs, rfl, ha, ht, _, _, _⟩ := r.of_exc
      exact ⟨rep_exc (k.fh a _ ha) (k.fh t _ ht), fun p m => by unfold xcs at m; rw [List.mem_singleton.mp m]; exact kc⟩
    | cel i =>
      obtain ⟨a, ha, rfl⟩ := r.of_cel
      have h' : (match S[i]? with
        | some (.lst us) => (optMap (res S n) us).map D.lst
        | some (.dK kvs) => (optMap (res S n) (kvs.map (·.2))).map (D.dct (kvs.map (·.1)))
        | _ => none) = some d := h
      split at h'
      · rename_i us e
        obtain ⟨vs, e2, hr⟩ := k.get ha e
        obtain ⟨ds, e1, rfl⟩ := Option.map_eq_some_iff.mp h'
        obtain ⟨b1, b2⟩ := all us vs ds hr e1
        exact ⟨rep_lst e2 b1, fun p m => by unfold xcs at m; exact b2 p m⟩
      · rename_i kvs e
        obtain ⟨vs, e2, hr⟩ := k.get ha e
        obtain ⟨ds, e1, rfl⟩ := Option.map_eq_some_iff.mp h'
        obtain ⟨z1, z2, z3⟩ := hr.zip
        obtain ⟨b1, b2⟩ := all _ _ ds z2 e1
        exact ⟨rep_dct (by rw [e2]; exact congrArg (fun z => some (HO.dK z)) z1) (by rw [optMap_len e1]; simp) b1, fun p m => by unfold xcs at m; exact b2 p m⟩
      · cases h'
/-- the items of a list, a tuple -/
def lsOf (S : Sto) : U → Option (List U)
  | .lst us => some us
  | .cel n => match S[n]? with
    | some (.lst us) => some us
    | _ => none
  | _ => none
theorem ls_of {g : Gd} {H : Hp} {S : Sto} {u : U} {v : V} {us : List U} (k : Cor g H S) (r : Rp g u v) (h : lsOf S u = some us) : ∃ a vs, v = .ref a ∧ H a = some (.lst vs) ∧ Rps g us vs := by
  unfold lsOf at h
  split at h
  · cases h
    obtain ⟨a, vs, rfl, ha, hr⟩ := r.of_lst
    exact ⟨a, vs, rfl, k.fh a _ ha, hr⟩
  · rename_i n
    obtain ⟨a, ha, rfl⟩ := r.of_cel
    split at h
    · rename_i us' e
      cases h
      obtain ⟨vs, e2, hr⟩ := k.get ha e
      exact ⟨a, vs, rfl, e2, hr⟩
    · cases h
  · cases h
/-- .. of a tuple, too -/
def sqOf (S : Sto) : U → Option (List U)
  | .tup us => some us
  | u => lsOf S u
theorem sq_of {g : Gd} {H : Hp} {S : Sto} {u : U} {v : V} {us : List U} {K : PySem.W.Frag} (k : Cor g H S) (r : Rp g u v) (h : sqOf S u = some us) : ∃ a vs, v = .ref a ∧ (SqL K H a vs ∨ SqT K H a vs) ∧ Rps g us vs := by
  cases u with
  | tup us' =>
    cases h
    obtain ⟨a, vs, rfl, ha, hr⟩ := r.of_tup
    exact ⟨a, vs, rfl, Or.inr (SqT.of (k.fh a _ ha)), hr⟩
  | _ =>
    obtain ⟨a, vs, rfl, ha, hr⟩ := ls_of k r h
    exact ⟨a, vs, rfl, Or.inl (SqL.of ha), hr⟩

/-! ### operators -/
/-- numbers that are small enough to be multiplied -/
def BIG : Nat := 2 ^ 100000
def ltBig (i : Int) : Prop := i.natAbs < BIG
instance (i : Int) : Decidable (ltBig i) := inferInstanceAs (Decidable (_ < _))
theorem ltBig_of {i : Int} (h : -(10 ^ 75) < i ∧ i < 10 ^ 75) : ltBig i := by
  have h1 : i.natAbs < 10 ^ 75 := by omega
  have h2 : (10 : Nat) ^ 75 < 2 ^ 250 := by decide +kernel
  have h3 : (2 : Nat) ^ 250 ≤ 2 ^ 100000 := Nat.pow_le_pow_right (by decide) (by decide)
  unfold ltBig BIG
  omega
theorem ltBig_pow {i : Int} {n : Nat} (h : i.natAbs < 2 ^ n) (hn : n ≤ 100000) : ltBig i := Nat.lt_of_lt_of_le h (Nat.pow_le_pow_right (by decide) hn)
def addM (c : Bool) (x y : U) (S : Sto) : Out U := match x, y with
  | .int i, .int j => .ok (.int (i + j)) S
  | .str i, .str j => if i.length + j.length ≤ 10000000 then .ok (.str (i ++ j)) S else .bad
  | .tup us, .tup ws => if us.length + ws.length ≤ 10000000 then .ok (.tup (us ++ ws)) S else .bad
  | x, y => match lsOf S x, lsOf S y with
    | some us, some ws => newLst c (us ++ ws) S
    | _, _ => .bad
def subM (x y : U) (S : Sto) : Out U := match x, y with
  | .int i, .int j => .ok (.int (i - j)) S
  | _, _ => .bad
@[irreducible] def mulM (c : Bool) (x y : U) (S : Sto) : Out U := match x, y with
  | .int i, .int j => if ltBig i ∧ ltBig j then .ok (.int (i * j)) S else .bad
  | x, .int k => match lsOf S x with
    | some us => if -(2 ^ 62) ≤ k ∧ k < 2 ^ 62 then newLst c (List.replicate k.toNat us).flatten S else .bad
    | none => .bad
  | _, _ => .bad
def divM (x y : U) (S : Sto) : Out U := match x, y with
  | .int i, .int j => if 0 < j ∧ j < 10 ^ 75 then .ok (.int (i / j)) S else .bad
  | _, _ => .bad
def modM (x y : U) (S : Sto) : Out U := match x, y with
  | .int i, .int j => if 0 < j then .ok (.int (i % j)) S else .bad
  | _, _ => .bad
def powM (x y : U) (S : Sto) : Out U := match x, y with
  | .int i, .int j => if 0 ≤ j ∧ j ≤ 1000000 ∧ i.natAbs < 2 ^ 64 then .ok (.int (i ^ j.toNat)) S else .bad
  | _, _ => .bad
def shlM (x y : U) (S : Sto) : Out U := match x, y with
  | .int i, .int j => if 0 ≤ j ∧ j ≤ 100000 ∧ ltBig i then .ok (.int (i * 2 ^ j.toNat)) S else .bad
  | _, _ => .bad
def shrM (x y : U) (S : Sto) : Out U := match x, y with
  | .int i, .int j => if 0 ≤ j then .ok (.int (i / 2 ^ j.toNat)) S else .bad
  | _, _ => .bad
def andM (x y : U) (S : Sto) : Out U := match x, y with
  | .int i, .int j => .ok (.int (Builtin.bitAnd i j)) S
  | _, _ => .bad
def negM (x : U) (S : Sto) : Out U := match x with
  | .int i => .ok (.int (-i)) S
  | _ => .bad
def ltM (x y : U) (S : Sto) : Out U := match x, y with
  | .int i, .int j => .ok (.bl (decide (i < j))) S
  | _, _ => .bad
def leM (x y : U) (S : Sto) : Out U := match x, y with
  | .int i, .int j => .ok (.bl (decide (i ≤ j))) S
  | _, _ => .bad
def gtM (x y : U) (S : Sto) : Out U := match x, y with
  | .int i, .int j => .ok (.bl (decide (j < i))) S
  | _, _ => .bad
def geM (x y : U) (S : Sto) : Out U := match x, y with
  | .int i, .int j => .ok (.bl (decide (j ≤ i))) S
  | _, _ => .bad
/-- data that may be compared -/
def okE (d : D) : Bool := plE d && (sm d && decide (dep d ≤ 64))
def eqM (x y : U) (S : Sto) : Out U := match x, y with
  | .int i, .int j => .ok (.bl (decide (i = j))) S
  | .str i, .str j => .ok (.bl (decide (i = j))) S
  | x, y => match res S 9 x, res S 9 y with
    | some d, some e => if okE d = true ∧ okE e = true then .ok (.bl (eqD d e)) S else .bad
    | _, _ => .bad
def neM (x y : U) (S : Sto) : Out U := match x, y with
  | .int i, .int j => .ok (.bl (!decide (i = j))) S
  | .str i, .str j => .ok (.bl (!decide (i = j))) S
  | x, y => match res S 9 x, res S 9 y with
    | some d, some e => if okE d = true ∧ okE e = true then .ok (.bl (!eqD d e)) S else .bad
    | _, _ => .bad
def isnM (x y : U) (S : Sto) : Out U := match y with
  | .non => match x with
    | .non => .ok (.bl true) S
    | _ => .ok (.bl false) S
  | _ => .bad
def notnM (x y : U) (S : Sto) : Out U := match y with
  | .non => match x with
    | .non => .ok (.bl false) S
    | _ => .ok (.bl true) S
  | _ => .bad
/-- an item -/
def atU (us : List U) (i : Int) : Option U := atI us i
def ixM (x y : U) (S : Sto) : Out U := match x, y with
  | .str z, .int i => match atI z.cps.toList i with
    | some c => if z.length ≤ 10000000 then .ok (.str ⟨#[c]⟩) S else .bad
    | none => .bad
  | x, .int i => match sqOf S x with
    | some us => match atI us i with
      | some d => .ok d S
      | none => .bad
    | none => .bad
  | _, _ => .bad
section
variable {K : PySem.W.Frag}
theorem s_add {c : Bool} : SOp (addM c) (uAdd K) := fun g H S d e x y Q E k r1 r2 w => by
  unfold addM at w
  split at w
  · rw [r1.of_int, r2.of_int]; exact Or.inl ⟨_, _, rfl, rfl, w.ok k rp_int⟩
  · rw [r1.of_str, r2.of_str]
    split at w
    · rename_i l; exact Or.inr (Or.inl ⟨_, _, rfl, rfl, Nat.le_trans l ten, w.ok k rp_str⟩)
    · exact w.elim
  · rename_i us ws
    obtain ⟨a, vs, rfl, ha, hr⟩ := r1.of_tup
    obtain ⟨b, zs, rfl, hb, hs⟩ := r2.of_tup
    split at w
    · rename_i l
      refine Or.inr (Or.inr (Or.inr ⟨a, b, vs, zs, rfl, rfl, SqT.of (k.fh a _ ha), SqT.of (k.fh b _ hb), by rw [hr.len, hs.len]; exact Nat.le_trans l ten, fun e => ?_, fun _ e => ?_, fun _ _ p hp => ?_⟩))
      · have z : us = [] := List.length_eq_zero_iff.mp (by rw [← hr.len, e]; rfl)
        subst z
        exact w.ok k (rp_tup hb hs)
      · have z : ws = [] := List.length_eq_zero_iff.mp (by rw [← hs.len, e]; rfl)
        subst z
        rw [List.append_nil] at w
        exact w.ok k (rp_tup ha hr)
      · obtain ⟨x, k2⟩ := k.newF (o := .tup (vs ++ zs)) hp
        exact w _ _ _ x k2 (rp_tup upd_same (x.rps (hr.app hs)))
    · exact w.elim
  · split at w
    · rename_i us ws h1 h2
      obtain ⟨a, vs, rfl, ha, hr⟩ := ls_of k r1 h1
      obtain ⟨b, zs, rfl, hb, hs⟩ := ls_of k r2 h2
      obtain ⟨l, q⟩ := new_lst k (hr.app hs) w
      exact Or.inr (Or.inr (Or.inl ⟨a, b, vs, zs, rfl, rfl, ha, hb, by rw [← List.length_append]; exact l, q⟩))
    · exact w.elim
theorem s_int {C : Int → Int → Prop} {f : Int → Int → V} {o : U → U → Sto → Out U} (h : ∀ (g : Gd) (H : Hp) (S : Sto) (d e : U) (Q : VK) (E : XK), Cor g H S → Wp g H Rp Q E (o d e S) → ∃ i j, d = .int i ∧ e = .int j ∧ C i j ∧ Q (f i j) H) : SOp o (rI C f) :=
  fun g H S d e x y Q E k r1 r2 w => by
    obtain ⟨i, j, rfl, rfl, c, q⟩ := h g H S d e Q E k w
    exact ⟨i, j, r1.of_int, r2.of_int, c, q⟩
theorem s_int0 {f : Int → Int → V} {o : U → U → Sto → Out U} (h : ∀ (g : Gd) (H : Hp) (S : Sto) (d e : U) (Q : VK) (E : XK), Cor g H S → Wp g H Rp Q E (o d e S) → ∃ i j, d = .int i ∧ e = .int j ∧ Q (f i j) H) : SOp o (rI0 f) :=
  fun g H S d e x y Q E k r1 r2 w => by
    obtain ⟨i, j, rfl, rfl, q⟩ := h g H S d e Q E k w
    exact ⟨i, j, r1.of_int, r2.of_int, q⟩
theorem s_sub : SOp subM (rI0 fun i j => .int (i - j)) := s_int0 fun g H S d e Q E k w => by
  unfold subM at w
  split at w
  · exact ⟨_, _, rfl, rfl, w.ok k rp_int⟩
  · exact w.elim
theorem s_div : SOp divM (rI CDivW fun i j => .int (i / j)) := s_int fun g H S d e Q E k w => by
  unfold divM at w
  split at w
  · rename_i i j
    split at w
    · rename_i h
      refine ⟨_, _, rfl, rfl, ⟨h.1, ?_⟩, w.ok k rp_int⟩
      have h1 : j.natAbs < 10 ^ 75 := by omega
      have h2 : (10 : Nat) ^ 75 < 2 ^ 250 := by decide +kernel
      have h3 : j.natAbs.log2 < 250 := (Nat.log2_lt (by omega)).mpr (Nat.lt_trans h1 h2)
      omega
    · exact w.elim
  · exact w.elim
theorem s_mod : SOp modM (rI (fun _ j => 0 < j) fun i j => .int (i % j)) := s_int fun g H S d e Q E k w => by
  unfold modM at w
  split at w
  · split at w
    · rename_i h; exact ⟨_, _, rfl, rfl, h, w.ok k rp_int⟩
    · exact w.elim
  · exact w.elim
theorem s_pow : SOp powM (rI CPow fun i j => .int (i ^ j.toNat)) := s_int fun g H S d e Q E k w => by
  unfold powM at w
  split at w
  · split at w
    · rename_i h; exact ⟨_, _, rfl, rfl, h, w.ok k rp_int⟩
    · exact w.elim
  · exact w.elim
theorem s_shl : SOp shlM (rI CShl fun i j => .int (i * 2 ^ j.toNat)) := s_int fun g H S d e Q E k w => by
  unfold shlM at w
  split at w
  · rename_i i j
    split at w
    · rename_i h
      obtain ⟨m, rfl⟩ : ∃ m : Nat, j = m := ⟨j.toNat, by omega⟩
      exact ⟨_, _, rfl, rfl, shl_ok (n := 100000) h.2.2 (by omega), w.ok k rp_int⟩
    · exact w.elim
  · exact w.elim
theorem s_shr : SOp shrM (rI (fun _ j => 0 ≤ j) fun i j => .int (i / 2 ^ j.toNat)) := s_int fun g H S d e Q E k w => by
  unfold shrM at w
  split at w
  · split at w
    · rename_i h; exact ⟨_, _, rfl, rfl, h, w.ok k rp_int⟩
    · exact w.elim
  · exact w.elim
theorem s_and : SOp andM (rI0 fun i j => .int (Builtin.bitAnd i j)) := s_int0 fun g H S d e Q E k w => by
  unfold andM at w
  split at w
  · exact ⟨_, _, rfl, rfl, w.ok k rp_int⟩
  · exact w.elim
theorem s_neg : SUn negM (rU fun i => .int (-i)) := fun g H S d x Q E k r w => by
  unfold negM at w
  split at w
  · exact ⟨_, r.of_int, w.ok k rp_int⟩
  · exact w.elim
theorem s_lt : SOp ltM (rI0 fun i j => .bl (decide (i < j))) := s_int0 fun g H S d e Q E k w => by
  unfold ltM at w
  split at w
  · exact ⟨_, _, rfl, rfl, w.ok k rp_bl⟩
  · exact w.elim
theorem s_le : SOp leM (rI0 fun i j => .bl (decide (i ≤ j))) := s_int0 fun g H S d e Q E k w => by
  unfold leM at w
  split at w
  · exact ⟨_, _, rfl, rfl, w.ok k rp_bl⟩
  · exact w.elim
theorem s_gt : SOp gtM (rI0 fun i j => .bl (decide (j < i))) := s_int0 fun g H S d e Q E k w => by
  unfold gtM at w
  split at w
  · exact ⟨_, _, rfl, rfl, w.ok k rp_bl⟩
  · exact w.elim
theorem s_ge : SOp geM (rI0 fun i j => .bl (decide (j ≤ i))) := s_int0 fun g H S d e Q E k w => by
  unfold geM at w
  split at w
  · exact ⟨_, _, rfl, rfl, w.ok k rp_bl⟩
  · exact w.elim
theorem s_mul {c : Bool} : SOp (mulM c) uMul := fun g H S d e x y Q E k r1 r2 w => by
  unfold mulM at w
  split at w
  · rename_i i j
    rw [r1.of_int, r2.of_int]
    split at w
    · rename_i h
      refine Or.inl ⟨_, _, rfl, rfl, ?_, w.ok k rp_int⟩
      have a := intBits_le (a := i) (k := 100000) h.1
      have b := intBits_le (a := j) (k := 100000) h.2
      show (Builtin.Int.intBits i : Int) + (Builtin.Int.intBits j : Int) ≤ 134217728
      omega
    · exact w.elim
  · rename_i x' kk _
    split at w
    · rename_i us h1
      obtain ⟨a, vs, rfl, ha, hr⟩ := ls_of k r1 h1
      rw [r2.of_int]
      split at w
      · rename_i h
        obtain ⟨l, q⟩ := new_lst k (rps_flat hr kk.toNat) w
        have e : ∀ n : Nat, (List.replicate n vs).flatten.length = vs.length * n := fun n => by
          induction n with
          | zero => rfl
          | succ n ih => rw [List.replicate_succ, List.flatten_cons, List.length_append, ih, Nat.mul_succ, Nat.add_comm]
        exact Or.inr ⟨a, kk, vs, rfl, rfl, ha, by omega, by omega, by rw [← e]; exact l, q⟩
      · exact w.elim
    · exact w.elim
  · exact w.elim
theorem okE_of {d : D} (h : okE d = true) : plE d = true ∧ sm d = true ∧ dep d ≤ 64 := by
  unfold okE at h
  obtain ⟨h1, h2⟩ := Bool.and_eq_true_iff.mp h
  obtain ⟨h3, h4⟩ := Bool.and_eq_true_iff.mp h2
  exact ⟨h1, h3, of_decide_eq_true h4⟩
theorem s_eq : SOp eqM (uEq K) := fun g H S d e x y Q E k r1 r2 w => by
  unfold eqM at w
  split at w
  · rename_i i j
    rw [r1.of_int, r2.of_int]
    refine Or.inl ⟨rfl, ?_⟩
    have e : decide (V.int i = V.int j) = decide (i = j) := by rw [Bool.eq_iff_iff]; simp
    rw [e]; exact w.ok k rp_bl
  · rename_i i j
    rw [r1.of_str, r2.of_str]
    refine Or.inl ⟨rfl, ?_⟩
    have e : decide (V.str i = V.str j) = decide (i = j) := by rw [Bool.eq_iff_iff]; simp
    rw [e]; exact w.ok k rp_bl
  · split at w
    · rename_i d' e' h1 h2
      split at w
      · rename_i h
        obtain ⟨p1, p2, p3⟩ := okE_of h.1
        obtain ⟨q1, q2, q3⟩ := okE_of h.2
        exact Or.inr ⟨py d', py e', rep_dp d' x p1 (rep_res k _ _ _ _ r1 h1).1, rep_dp e' y q1 (rep_res k _ _ _ _ r2 h2).1, shaped_of p2 p3, shaped_of q2 q3, w.ok k rp_bl⟩
      · exact w.elim
    · exact w.elim
theorem s_ne : SOp neM (uNe K) := fun g H S d e x y Q E k r1 r2 w => by
  unfold neM at w
  split at w
  · rename_i i j
    rw [r1.of_int, r2.of_int]
    refine Or.inl ⟨rfl, ?_⟩
    have e : decide (V.int i = V.int j) = decide (i = j) := by rw [Bool.eq_iff_iff]; simp
    rw [e]; exact w.ok k rp_bl
  · rename_i i j
    rw [r1.of_str, r2.of_str]
    refine Or.inl ⟨rfl, ?_⟩
    have e : decide (V.str i = V.str j) = decide (i = j) := by rw [Bool.eq_iff_iff]; simp
    rw [e]; exact w.ok k rp_bl
  · split at w
    · rename_i d' e' h1 h2
      split at w
      · rename_i h
        obtain ⟨p1, p2, p3⟩ := okE_of h.1
        obtain ⟨q1, q2, q3⟩ := okE_of h.2
        exact Or.inr ⟨py d', py e', rep_dp d' x p1 (rep_res k _ _ _ _ r1 h1).1, rep_dp e' y q1 (rep_res k _ _ _ _ r2 h2).1, shaped_of p2 p3, shaped_of q2 q3, w.ok k rp_bl⟩
      · exact w.elim
    · exact w.elim
def isNon : U → Bool
  | .non => true
  | _ => false
theorem rp_isN {g : Gd} {u : U} {v : V} (r : Rp g u v) : decide (v = .non) = isNon u := by
  cases u with
  | non => rw [r.of_non]; rfl
  | bl b => rw [r.of_bl]; rfl
  | int b => rw [r.of_int]; rfl
  | str b => rw [r.of_str]; rfl
  | lst us => obtain ⟨a, vs, rfl, _⟩ := r.of_lst; rfl
  | tup us => obtain ⟨a, vs, rfl, _⟩ := r.of_tup; rfl
  | dct ks us => obtain ⟨a, vs, rfl, _⟩ := r.of_dct; rfl
  | dtt ks us => obtain ⟨a, vs, rfl, _⟩ := r.of_dtt; rfl
  | exc nm tx ks us => obtain ⟨_, a, t, d, vs, rfl, _⟩ := r.of_exc; rfl
  | cel n => obtain ⟨a, _, rfl⟩ := r.of_cel; rfl
  | scr n => obtain ⟨a, rfl, _⟩ := r.of_scr; rfl
theorem s_isn : SOp isnM (fun x y H Q => y = .non ∧ Q (.bl (decide (x = .non))) H) := fun g H S d e x y Q E k r1 r2 w => by
  unfold isnM at w
  cases e with
  | non =>
    refine ⟨r2.of_non, ?_⟩
    rw [rp_isN r1]
    cases d <;> exact w.ok k rp_bl
  | _ => exact w.elim
theorem s_notn : SOp notnM (fun x y H Q => y = .non ∧ Q (.bl (!decide (x = .non))) H) := fun g H S d e x y Q E k r1 r2 w => by
  unfold notnM at w
  cases e with
  | non =>
    refine ⟨r2.of_non, ?_⟩
    rw [rp_isN r1]
    cases d <;> exact w.ok k rp_bl
  | _ => exact w.elim
theorem atI_rps {g : Gd} {us : List U} {vs : List V} {i : Int} {d : U} (r : Rps g us vs) (h : atI us i = some d) : ∃ v, atI vs i = some v ∧ Rp g d v := by
  unfold atI at h ⊢
  rw [r.len]
  cases e : ixN us.length i with
  | none => rw [e] at h; cases h
  | some j =>
    rw [e] at h
    exact r.get h
end

/-! ### calls of defs -/
section
variable {ω : Om} {X : Cx} {E : WX} {e : Expr} {ma : ME U} {mr mk : ME (List U)} {m : MF}
/-- what a def is called with -/
def GOk (n j : Nat) (gM : List U → List U → List U) (gV : List V → List V → List V) : Prop := ∀ (g : Gd) (us zs : List U) (vs ws : List V), Rps g us vs → Rps g zs ws → us.length = n → zs.length = j → Rps g (gM us zs) (gV vs ws)
theorem gok_id {n : Nat} : GOk n 0 (fun us _ => us) (fun vs _ => vs) := fun g us zs vs ws r _ _ _ => r
@[simp] def mCallN (n j : Nat) (m : MF) (gM : List U → List U → List U) (r k : ME (List U)) : ME U := fun ρ S => (r ρ S).bind fun us S1 => (k ρ S1).bind fun zs S2 => if us.length = n ∧ zs.length = j then m (gM us zs) S2 else .bad
theorem x_call {n j : Nat} {gM : List U → List U → List U} {gV : List V → List V → List V} (h : PE X e (tC2 n j gV (spM ω m) (fun σ cls d H => E cls d σ H) (rdA ω E mr) (rdA ω E mk))) (gk : GOk n j gM gV) : PE X e (rdE ω E (mCallN n j m gM mr mk)) :=
  h.to fun σ H Q h => by
    refine (rd_bind (R := Rps) (m := mr) (kk := fun ρ us S1 => (mk ρ S1).bind fun zs S2 => if us.length = n ∧ zs.length = j then m (gM us zs) S2 else .bad) h).mono ?_
    rintro vs H1 ⟨g1, ρ, S1, us, a1, r1, w1⟩
    refine ⟨g1, ρ, S1, a1, (Wp.bind (R := Rps) w1).mono ?_⟩
    rintro ws H2 ⟨g2, S2, zs, x2, c2, r2, w2⟩
    by_cases l : us.length = n ∧ zs.length = j
    · rw [if_pos l] at w2
      exact ⟨by rw [r1.len]; exact l.1, by rw [r2.len]; exact l.2, g2, S2, _, x2.ca.trans a1.e.k, c2, gk g2 us zs vs ws (x2.rps r1) r2 l.1 l.2, w2⟩
    · rw [if_neg l] at w2; exact w2.elim
end
end Z

namespace Z
open PySem PySem.Spec PyProof.Rows L2

/-! ### what is known of the classes -/
abbrev T6 : List String := ["int", "bool", "str", "list", "tuple", "dict"]
/-- an exception class of the program -/
structure KnX (K : PySem.W.Frag) (C : Addr) (nm : Str) : Prop where
  ex : ExKnown K C nm
  xc : L2.ExcC K C
  cl : (PySem.W.clsIn K C).isSome = true
  t6 : ∀ n ∈ T6, PySem.W.kitOne K (.ref C) (.type n) = some false
/-- a class of instances -/
structure KnI (K : PySem.W.Frag) (C : Addr) : Prop where
  cl : Cls K C
  ha : PySem.W.findIn K (.ref C) "__class__" = some (some (.builtin "object.__class__"))
  hn : PySem.W.specialIn K (.builtin "object.__class__") "__get__" = some (some (.builtin "getset_descriptor.__get__"))
  ht : PySem.W.takesIn K (.builtin "object.__class__") = some true
  hm : PySem.W.mroIn K C (.type "object") = some true
  t6 : ∀ n ∈ T6, PySem.W.kitOne K (.ref C) (.type n) = some false
structure Kn (K : PySem.W.Frag) (o : Om) : Prop where
  s : ∀ a ns, o.ks a ns → ∀ H, SqL K H a (ns.map V.int)
  x : ∀ nm, o.kc nm → KnX K (o.ad nm) nm
  i : ∀ nm, o.ki nm → KnI K (o.ad nm)

/-! ### isinstance -/
/-- where a value's class is looked up -/
inductive TyU (K : PySem.W.Frag) (H : Hp) : V → Value → Prop where
  | x {x : V} {t : Value} (h : TyX K H x t) : TyU K H x t
  | fdT {a : Addr} {o : Obj} {kvs : List (List Key × V)} (e : H a = some (.frz o (.dT kvs))) : TyU K H (.ref a) (.type "dict")
  | exc {a C t : Addr} {d : Option Addr} (e : H a = some (exv C t d a)) (hd : d = none ∨ ∃ dx fs, d = some dx ∧ H dx = some (.xd fs)) (c : L2.ExcC K C) (cl : (PySem.W.clsIn K C).isSome = true) : TyU K H (.ref a) (.ref C)
section
variable {X : Cx} {pins : List (Addr × Obj)} {σ : St} {H : Hp} {s : Shared}
theorem kit_ofU {x : V} {u t : Value} (I : Inv X pins σ H s) (rx : RelV x u) (ty : TyU X.K H x t) : ∃ P : Heap → Prop, PySem.W.KitX X.K u t P ∧ P s.heap ∧ u ≠ .builtin "__main__.__loader__#opaque" := by
  cases ty with
  | x h => exact kit_of I rx h
  | @fdT a ob kvs ea =>
    cases (show u = Value.ref a from rx)
    obtain ⟨_, _, _, xs, _, o, es, ep, h1, h2, _⟩ := (show ObjOk X.prog X.w H s.heap a (.frz ob (.dT kvs)) from I.hok a _ ea)
    exact ⟨_, PySem.W.kitx_dict, ⟨o, h1, h2.1⟩, fun z => nomatch z⟩
  | @exc a C t d e hd c cl =>
    cases (show u = Value.ref a from rx)
    have h1 := exv_get (I.hok a _ e)
    have J : ∃ o od, PySem.W.InstAt s.heap a o C od := by
      rcases hd with rfl | ⟨dx, fs, rfl, hx⟩
      · exact ⟨_, none, h1, rfl, rfl, trivial⟩
      · obtain ⟨mA, ⟨od, es, ep, e2, _⟩, _⟩ := (show ObjOk X.prog X.w H s.heap dx (.xd fs) from I.hok dx _ hx)
        exact ⟨_, some od, h1, rfl, rfl, e2⟩
    obtain ⟨o, od, J⟩ := J
    exact ⟨_, PySem.W.kitx_exc cl c.hg c.hk c.hs c.ha c.hn c.ht c.hm, J, fun z => nomatch z⟩
/-- isinstance(x, c), isinstance(x, (c1, c2, ..)) -/
def rIsU (K : PySem.W.Frag) : List V → Hp → VK → Prop := fun xs H Q =>
  (∃ (x c : V) (t u : Value) (b : Bool), xs = [x, c] ∧ ClsV c u ∧ TyU K H x t ∧ PySem.W.kitOne K t u = some b ∧ Q (.bl b) H) ∨
  (∃ (x : V) (tp : Addr) (cs : List V) (t : Value) (us : List Value) (b : Bool), xs = [x, .ref tp] ∧ H tp = some (.tup cs) ∧ Paired ClsV cs us ∧ TyU K H x t ∧ PySem.W.kitAny K t us = some b ∧ Q (.bl b) H)
theorem u_isU : CallR X (.builtin "isinstance") (rIsU X.K) := by
  intro pins s σ H xs us Q I r h
  rcases h with ⟨x, c, t, u, b, rfl, k, ty, e, q⟩ | ⟨x, tp, cs, t, ws, b, rfl, hT, k, ty, e, q⟩
  · obtain ⟨u1, u2, rfl, r1, r2⟩ := vals2 r
    have e2 := k.eq r2
    subst e2
    obtain ⟨P, Z, p, hx⟩ := kit_ofU I r1 ty
    exact PySem.W.kia_one Z I.kIn p e hx fun tk => ⟨.bl b, H, I.tok tk, rfl, q⟩
  · obtain ⟨u1, u2, rfl, r1, r2⟩ := vals2 r
    cases (show u2 = Value.ref tp from r2)
    obtain ⟨P, Z, p, hx⟩ := kit_ofU I r1 ty
    obtain ⟨_, its, rv, o, h1, h2, n, h3⟩ := (show ObjOk X.prog X.w H s.heap tp (.tup cs) from I.hok tp _ hT)
    have e3 := ClsV.all k rv
    subst e3
    obtain ⟨oc, od, dt, sl⟩ := o
    simp only at h2 h3
    subst h2 h3
    exact PySem.W.kia_tup Z I.kIn p h1 e hx fun tk => ⟨.bl b, H, I.tok tk, rfl, q⟩
end
/-- the kind of a value -/
inductive Kd where
  | b (n : String) | x (nm : Str) | i (nm : Str)
def kdOf (S : Sto) : U → Option Kd
  | .non => some (.b "NoneType")
  | .bl _ => some (.b "bool")
  | .int _ => some (.b "int")
  | .str _ => some (.b "str")
  | .lst _ => some (.b "list")
  | .tup _ => some (.b "tuple")
  | .dct _ _ => some (.b "dict")
  | .dtt _ _ => some (.b "dict")
  | .exc nm _ _ _ => some (.x nm)
  | .scr _ => none
  | .cel n => match S[n]? with
    | some (.lst _) => some (.b "list")
    | some (.dK _) => some (.b "dict")
    | some (.dT _) => some (.b "dict")
    | some (.ins c _) => some (.i c)
    | _ => none
def Kd.cv (o : Om) : Kd → Value
  | .b n => .type n
  | .x nm => .ref (o.ad nm)
  | .i nm => .ref (o.ad nm)
/-- isinstance of a built-in kind -/
def Kd.isB (n : String) : Kd → Bool
  | .b m => m == n || (m == "bool" && n == "int")
  | _ => false
theorem ty_of {K : PySem.W.Frag} {g : Gd} {H : Hp} {S : Sto} {u : U} {v : V} {d : Kd} (kn : Kn K g.ca) (k : Cor g H S) (r : Rp g u v) (h : kdOf S u = some d) : TyU K H v (d.cv g.ca) := by
  cases u with
  | non => cases h; rw [r.of_non]; exact .x (.base .non)
  | bl b => cases h; rw [r.of_bl]; exact .x (.base (.bl b))
  | int b => cases h; rw [r.of_int]; exact .x (.base (.int b))
  | str b => cases h; rw [r.of_str]; exact .x (.base (.str b))
  | lst us => cases h; obtain ⟨a, vs, rfl, ha, hr⟩ := r.of_lst; exact .x (.base (.lst (k.fh a _ ha)))
  | tup us => cases h; obtain ⟨a, vs, rfl, ha, hr⟩ := r.of_tup; exact .x (.base (.tup (k.fh a _ ha)))
  | dct ks us => cases h; obtain ⟨a, vs, rfl, ha, hl, hr⟩ := r.of_dct; exact .x (.base (.dK (k.fh a _ ha)))
  | scr ns => cases h
  | dtt ks us => cases h; obtain ⟨a, vs, rfl, ha, hl, hr⟩ := r.of_dtt; exact .x (.base (.dT (k.fh a _ ha)))
  | exc nm tx ks us =>
    cases h
    obtain ⟨kc, a, t, dd, vs, rfl, ha, ht, hd, _, _⟩ := r.of_exc
    have q := kn.x nm kc
    refine .exc (k.fh a _ ha) ?_ q.xc q.cl
    rcases hd with ⟨e, _⟩ | ⟨dx, e, h⟩
    · exact Or.inl e
    · exact Or.inr ⟨dx, _, e, k.fh dx _ h⟩
  | cel n =>
    obtain ⟨a, ha, rfl⟩ := r.of_cel
    have h' : (match S[n]? with
    | some (.lst _) => some (.b "list")
    | some (.dK _) => some (.b "dict")
    | some (.dT _) => some (.b "dict")
    | some (.ins c _) => some (.i c)
    | _ => none) = some d := h
    split at h'
    · rename_i e; cases h'; obtain ⟨vs, e2, _⟩ := k.get ha e; exact .x (.base (.lst e2))
    · rename_i e; cases h'; obtain ⟨vs, e2, _⟩ := k.get ha e; exact .x (.base (.dK e2))
    · rename_i e; cases h'; obtain ⟨vs, e2, _⟩ := k.get ha e; exact .x (.base (.dT e2))
    · rename_i e; cases h'; obtain ⟨ki, dx, vs, e2, _⟩ := k.get ha e
      have q := kn.i _ ki
      exact .x (.base (.ins e2 q.cl q.ha q.hn q.ht q.hm))
    · cases h'
def KdOk (o : Om) : Kd → Prop
  | .b n => n ∈ ["NoneType", "bool", "int", "str", "list", "tuple", "dict"]
  | .x nm => o.kc nm
  | .i nm => o.ki nm
theorem kind_ok {g : Gd} {H : Hp} {S : Sto} {u : U} {v : V} {d : Kd} (k : Cor g H S) (r : Rp g u v) (h : kdOf S u = some d) : KdOk g.ca d := by
  cases u with
  | exc nm tx ks us => cases h; exact r.of_exc.1
  | scr ns => cases h
  | cel n =>
    obtain ⟨a, ha, rfl⟩ := r.of_cel
    have h' : (match S[n]? with
    | some (.lst _) => some (.b "list")
    | some (.dK _) => some (.b "dict")
    | some (.dT _) => some (.b "dict")
    | some (.ins c _) => some (.i c)
    | _ => none) = some d := h
    split at h'
    · cases h'; simp [KdOk]
    · cases h'; simp [KdOk]
    · cases h'; simp [KdOk]
    · rename_i e; cases h'; obtain ⟨ki, _⟩ := k.get ha e; exact ki
    · cases h'
  | _ => cases h; simp [KdOk]
theorem kit_isB {K : PySem.W.Frag} {o : Om} (kn : Kn K o) {d : Kd} {n : String} (hn : n ∈ T6) (hd : KdOk o d) : PySem.W.kitOne K (d.cv o) (.type n) = some (d.isB n) := by
  cases d with
  | x nm => exact (kn.x nm hd).t6 n hn
  | i nm => exact (kn.i nm hd).t6 n hn
  | b m =>
    refine kit_ty ?_
    simp only [T6, KdOk, List.mem_cons, List.not_mem_nil, or_false] at hn hd
    rcases hn with rfl | rfl | rfl | rfl | rfl | rfl <;> rcases hd with rfl | rfl | rfl | rfl | rfl | rfl | rfl <;> simp only [Kd.isB] <;> decide +kernel
@[simp] def mIsT (n : String) (a : ME U) : ME U := fun ρ S => (a ρ S).bind fun x S1 => match kdOf S1 x with
  | some d => .ok (.bl (d.isB n)) S1
  | none => .bad
@[simp] def mIsT2 (n n2 : String) (a : ME U) : ME U := fun ρ S => (a ρ S).bind fun x S1 => match kdOf S1 x with
  | some d => .ok (.bl (d.isB n || d.isB n2)) S1
  | none => .bad
section
variable {ω : Om} {X : Cx} {E : WX} {e : Expr} {ma : ME U}
theorem x_isT {n : String} (kn : Kn X.K ω) (h : PE X e (tCB (rIsU X.K) (tCons (rdE ω E ma) (tCons (tC (.ty n)) tNil)))) (hn : n ∈ T6 := by decide) : PE X e (rdE ω E (mIsT n ma)) := h.to fun σ H Q h => by
  refine (rd_bind (R := Rp) (m := ma) (kk := fun ρ x S1 => match kdOf S1 x with
    | some d => .ok (U.bl (d.isB n)) S1
    | none => .bad) h).mono ?_
  rintro x H1 ⟨g1, ρ, S1, u, a1, r1, w1⟩
  cases ek : kdOf S1 u with
  | none => rw [ek] at w1; exact w1.elim
  | some d =>
    rw [ek] at w1
    have ec := a1.e.k
    subst ec
    exact Or.inl ⟨x, .ty n, _, _, _, rfl, .ty n, ty_of kn a1.c r1 ek, kit_isB kn hn (kind_ok a1.c r1 ek), w1.ok a1.c rp_bl⟩
theorem x_isT2 {n n2 : String} (kn : Kn X.K ω) (h : PE X e (tCB (rIsU X.K) (tCons (rdE ω E ma) (tCons (tTup (tCons (tC (.ty n)) (tCons (tC (.ty n2)) tNil))) tNil)))) (hn : n ∈ T6 := by decide) (hn2 : n2 ∈ T6 := by decide) : PE X e (rdE ω E (mIsT2 n n2 ma)) := h.to fun σ H Q h => by
  refine (rd_bind (R := Rp) (m := ma) (kk := fun ρ x S1 => match kdOf S1 x with
    | some d => .ok (U.bl (d.isB n || d.isB n2)) S1
    | none => .bad) h).mono ?_
  rintro x H1 ⟨g1, ρ, S1, u, a1, r1, w1⟩
  cases ek : kdOf S1 u with
  | none => rw [ek] at w1; exact w1.elim
  | some d =>
    rw [ek] at w1
    have ec := a1.e.k
    subst ec
    refine ⟨by show 2 ≤ sizeLine; rw [sizeLine_eq]; decide, fun p hp => Or.inr ⟨x, p, [.ty n, .ty n2], d.cv g1.ca, [.type n, .type n2], d.isB n || d.isB n2, rfl, upd_same, .cons (.ty n) (.cons (.ty n2) .nil), ?_, ?_, ?_⟩⟩
    · obtain ⟨x2, k2⟩ := a1.c.newF (o := .tup [.ty n, .ty n2]) hp
      exact ty_of (g := g1.put p (.tup [.ty n, .ty n2])) kn k2 (x2.rp r1) ek
    · refine kitAny_cons (kit_isB kn hn (kind_ok a1.c r1 ek)) (fun e => ?_) (fun e => by rw [e]; rfl)
      rw [e, Bool.false_or]
      exact kitAny_cons (kit_isB kn hn2 (kind_ok a1.c r1 ek)) (fun e => by rw [e]; exact kitAny_nil) (fun e => e)
    · obtain ⟨x2, k2⟩ := a1.c.newF (o := .tup [.ty n, .ty n2]) hp
      exact w1 _ _ _ x2 k2 rp_bl
end

/-! ### the script -/
@[simp] def mLenS (a : ME U) : ME U := fun ρ S => (a ρ S).bind fun x S1 => match x with
  | .scr ns => .ok (.int ns.length) S1
  | _ => .bad
@[simp] def mIxS (a i : ME U) : ME U := fun ρ S => (a ρ S).bind fun x S1 => (i ρ S1).bind fun y S2 => match x, y with
  | .scr ns, .int k => match atI ns k with
    | some n => .ok (.int n) S2
    | none => .bad
  | _, _ => .bad
theorem scr_at {K : PySem.W.Frag} {g : Gd} {H : Hp} {S : Sto} {ns : List Int} {v : V} (kn : Kn K g.ca) (k : Cor g H S) (r : Rp g (.scr ns) v) : ∃ a, v = .ref a ∧ SqL K H a (ns.map V.int) := by
  obtain ⟨a, e, h⟩ := r.of_scr
  refine ⟨a, e, ?_⟩
  rcases h with ⟨o, h⟩ | h
  · exact Or.inl (Or.inr ⟨o, k.fh a _ h⟩)
  · exact kn.s a ns h H
theorem atI_map {α β : Type} (f : α → β) {xs : List α} {i : Int} {x : α} (h : atI xs i = some x) : atI (xs.map f) i = some (f x) := by
  unfold atI at h ⊢
  rw [List.length_map]
  cases e : ixN xs.length i with
  | none => rw [e] at h; cases h
  | some j =>
    rw [e] at h
    show (xs.map f)[j]? = _
    rw [List.getElem?_map, show xs[j]? = some x from h]; rfl
section
variable {ω : Om} {X : Cx} {E : WX} {e : Expr} {ma mi : ME U}
theorem x_lenS (kn : Kn X.K ω) (h : PE X e (tCB (uLen X.K) (tCons (rdE ω E ma) tNil))) : PE X e (rdE ω E (mLenS ma)) := h.to fun σ H Q h => by
  refine (rd_bind (R := Rp) (m := ma) (kk := fun ρ x S1 => match x with
    | .scr ns => .ok (U.int ns.length) S1
    | _ => .bad) h).mono ?_
  rintro x H1 ⟨g1, ρ, S1, u, a1, r1, w1⟩
  have ec := a1.e.k
  subst ec
  cases u with
  | scr ns =>
    obtain ⟨a, rfl, hs⟩ := scr_at kn a1.c r1
    exact Or.inl ⟨a, ns.map V.int, rfl, Or.inl hs, by rw [List.length_map]; exact w1.ok a1.c rp_int⟩
  | _ => exact w1.elim
theorem x_ixS (kn : Kn X.K ω) (h : PE X e (tOp (rIx X.K) (rdE ω E ma) (rdE ω E mi))) : PE X e (rdE ω E (mIxS ma mi)) := h.to fun σ H Q h => by
  refine (rd_bind (R := Rp) (m := ma) (kk := fun ρ x S1 => (mi ρ S1).bind fun y S2 => match x, y with
    | .scr ns, .int k => match atI ns k with
      | some n => .ok (U.int n) S2
      | none => .bad
    | _, _ => .bad) h).mono ?_
  rintro x H1 ⟨g1, ρ, S1, u, a1, r1, w1⟩
  refine ⟨g1, ρ, S1, a1, (Wp.bind (R := Rp) w1).mono ?_⟩
  rintro y H2 ⟨g2, S2, i, x2, c2, r2, w2⟩
  have ec := x2.ca.trans a1.e.k
  subst ec
  split at w2
  · rename_i ns k
    obtain ⟨a, rfl, hs⟩ := scr_at kn c2 (x2.rp r1)
    rw [r2.of_int]
    cases e1 : atI ns k with
    | none => rw [e1] at w2; exact w2.elim
    | some n =>
      rw [e1] at w2
      exact Or.inl ⟨a, ns.map V.int, k, .int n, rfl, rfl, hs, atI_map V.int e1, w2.ok c2 rp_int⟩
  · exact w2.elim
end

/-! ### built-ins -/
def SCBw (ω : Om) (o : List U → Sto → Out U) (r : List V → Hp → VK → Prop) : Prop := ∀ (g : Gd) (H : Hp) (S : Sto) (ds : List U) (xs : List V) (Q : VK) (E : XK), g.ca = ω → Cor g H S → Rps g ds xs → Wp g H Rp Q E (o ds S) → r xs H Q
theorem SCB.w {ω : Om} {o : List U → Sto → Out U} {r : List V → Hp → VK → Prop} (s : SCB o r) : SCBw ω o r := fun g H S ds xs Q E _ => s g H S ds xs Q E
theorem x_cb {ω : Om} {X : Cx} {E : WX} {e : Expr} {mr : ME (List U)} {o : List U → Sto → Out U} {r : List V → Hp → VK → Prop} (h : PE X e (tCB r (rdA ω E mr))) (s : SCBw ω o r) : PE X e (rdE ω E (mCB o mr)) := h.to fun σ H Q h => by
  refine (rd_bind (R := Rps) (m := mr) (kk := fun ρ => o) h).mono ?_
  rintro xs H1 ⟨g1, ρ, S1, ds, a1, r1, w1⟩
  exact s g1 H1 S1 ds xs Q _ a1.e.k a1.c r1 w1
def on1 (f : U → Sto → Out U) (us : List U) (S : Sto) : Out U := match us with
  | [x] => f x S
  | _ => .bad
def on2 (f : U → U → Sto → Out U) (us : List U) (S : Sto) : Out U := match us with
  | [x, y] => f x y S
  | _ => .bad
@[simp] theorem on1_ (f : U → Sto → Out U) (x : U) (S : Sto) : on1 f [x] S = f x S := rfl
@[simp] theorem on2_ (f : U → U → Sto → Out U) (x y : U) (S : Sto) : on2 f [x, y] S = f x y S := rfl
theorem s_on1 {ω : Om} {f : U → Sto → Out U} {r : List V → Hp → VK → Prop} (h : ∀ (g : Gd) (H : Hp) (S : Sto) (d : U) (x : V) (Q : VK) (E : XK), g.ca = ω → Cor g H S → Rp g d x → Wp g H Rp Q E (f d S) → r [x] H Q) : SCBw ω (on1 f) r := fun g H S ds xs Q E o k rs w => by
  match ds, rs, w with
  | [d], rs, w =>
    obtain ⟨v, ws, rfl, r1, r2⟩ := rs.of_cons
    rw [r2.of_nil]
    exact h g H S d v Q E o k r1 w
  | [], _, w => exact w.elim
  | _ :: _ :: _, _, w => exact w.elim
theorem s_on2 {ω : Om} {f : U → U → Sto → Out U} {r : List V → Hp → VK → Prop} (h : ∀ (g : Gd) (H : Hp) (S : Sto) (d e : U) (x y : V) (Q : VK) (E : XK), g.ca = ω → Cor g H S → Rp g d x → Rp g e y → Wp g H Rp Q E (f d e S) → r [x, y] H Q) : SCBw ω (on2 f) r := fun g H S ds xs Q E o k rs w => by
  match ds, rs, w with
  | [d, e], rs, w =>
    obtain ⟨v, ws, rfl, r1, r2⟩ := rs.of_cons
    obtain ⟨v2, ws2, rfl, r3, r4⟩ := r2.of_cons
    rw [r4.of_nil]
    exact h g H S d e v v2 Q E o k r1 r3 w
  | [], _, w => exact w.elim
  | [_], _, w => exact w.elim
  | _ :: _ :: _ :: _, _, w => exact w.elim
def lenM (x : U) (S : Sto) : Out U := match x with
  | .str z => if z.length ≤ 10000000 then .ok (.int z.length) S else .bad
  | x => match sqOf S x with
    | some us => .ok (.int us.length) S
    | none => .bad
def blsOf : List U → Option (List Bool)
  | [] => some []
  | .bl b :: us => (blsOf us).map (b :: ·)
  | _ :: _ => none
def intsOf : List U → Option (List Int)
  | [] => some []
  | .int b :: us => (intsOf us).map (b :: ·)
  | _ :: _ => none
theorem bls_of {g : Gd} : ∀ {us : List U} {bs : List Bool} {vs : List V}, blsOf us = some bs → Rps g us vs → vs = bs.map V.bl
  | [], _, _, h, r => by cases h; exact r.of_nil
  | .bl b :: us, bs, vs, h, r => by
    obtain ⟨v, ws, rfl, r1, r2⟩ := r.of_cons
    obtain ⟨bs', e, rfl⟩ := Option.map_eq_some_iff.mp h
    rw [r1.of_bl, bls_of e r2]; rfl
  | .non :: _, _, _, h, _ => by cases h
  | .int _ :: _, _, _, h, _ => by cases h
  | .str _ :: _, _, _, h, _ => by cases h
  | .lst _ :: _, _, _, h, _ => by cases h
  | .tup _ :: _, _, _, h, _ => by cases h
  | .dct _ _ :: _, _, _, h, _ => by cases h
  | .dtt _ _ :: _, _, _, h, _ => by cases h
  | .exc _ _ _ _ :: _, _, _, h, _ => by cases h
  | .cel _ :: _, _, _, h, _ => by cases h
  | .scr _ :: _, _, _, h, _ => by cases h
theorem ints_of {g : Gd} : ∀ {us : List U} {bs : List Int} {vs : List V}, intsOf us = some bs → Rps g us vs → vs = bs.map V.int
  | [], _, _, h, r => by cases h; exact r.of_nil
  | .int b :: us, bs, vs, h, r => by
    obtain ⟨v, ws, rfl, r1, r2⟩ := r.of_cons
    obtain ⟨bs', e, rfl⟩ := Option.map_eq_some_iff.mp h
    rw [r1.of_int, ints_of e r2]; rfl
  | .non :: _, _, _, h, _ => by cases h
  | .bl _ :: _, _, _, h, _ => by cases h
  | .str _ :: _, _, _, h, _ => by cases h
  | .lst _ :: _, _, _, h, _ => by cases h
  | .tup _ :: _, _, _, h, _ => by cases h
  | .dct _ _ :: _, _, _, h, _ => by cases h
  | .dtt _ _ :: _, _, _, h, _ => by cases h
  | .exc _ _ _ _ :: _, _, _, h, _ => by cases h
  | .cel _ :: _, _, _, h, _ => by cases h
  | .scr _ :: _, _, _, h, _ => by cases h
@[simp] theorem intsOf_map (ns : List Int) : intsOf (ns.map U.int) = some ns := by
  induction ns with
  | nil => rfl
  | cons n ns ih => show (intsOf (ns.map U.int)).map (n :: ·) = _; rw [ih]; rfl
@[simp] theorem blsOf_map (ns : List Bool) : blsOf (ns.map U.bl) = some ns := by
  induction ns with
  | nil => rfl
  | cons n ns ih => show (blsOf (ns.map U.bl)).map (n :: ·) = _; rw [ih]; rfl
def allM (x : U) (S : Sto) : Out U := match (lsOf S x).bind blsOf with
  | some bs => .ok (.bl (bs.all id)) S
  | none => .bad
def sumM (x : U) (S : Sto) : Out U := match (lsOf S x).bind intsOf with
  | some ns => .ok (.int ns.sum) S
  | none => .bad
def isort (ns : List Int) : List Int := ns.mergeSort (fun a b => decide (a ≤ b))
def sortIM (c : Bool) (x : U) (S : Sto) : Out U := match (lsOf S x).bind intsOf with
  | some ns => newLst c ((isort ns).map U.int) S
  | none => .bad
/-- data whose text is written -/
def okR (d : D) : Prop := sm d = true ∧ (txt d).length ≤ 10000000 ∧ dep d ≤ 64
open Classical in
noncomputable def reprM (x : U) (S : Sto) : Out U := match res S 9 x with
  | some d => if okR d then .ok (.str (txt d)) S else .bad
  | none => .bad
def intM (x : U) (S : Sto) : Out U := match x with
  | .int i => .ok (.int i) S
  | .bl k => .ok (.int (if k then 1 else 0)) S
  | .str a => if a.length ≤ 640 then (match PySem.intText? a with
    | some n => .ok (.int n) S
    | none => .bad) else .bad
  | _ => .bad
def strM (x : U) (S : Sto) : Out U := match x with
  | .int i => if i.natAbs.log2 < 1920 then .ok (.str (toString i)) S else .bad
  | .str a => .ok (.str a) S
  | _ => .bad
def listM (c : Bool) (x : U) (S : Sto) : Out U := match sqOf S x with
  | some us => newLst c us S
  | none => .bad
def tupM (x : U) (S : Sto) : Out U := match x with
  | .tup us => .ok (.tup us) S
  | x => match lsOf S x with
    | some us => .ok (.tup us) S
    | none => .bad
def max2M (x y : U) (S : Sto) : Out U := match x, y with
  | .int i, .int j => .ok (.int (if j > i then j else i)) S
  | _, _ => .bad
def min2M (x y : U) (S : Sto) : Out U := match x, y with
  | .int i, .int j => .ok (.int (if j < i then j else i)) S
  | _, _ => .bad
def maxI : List Int → Option Int
  | [] => none
  | n :: ns => some (ns.foldl max n)
def minI : List Int → Option Int
  | [] => none
  | n :: ns => some (ns.foldl min n)
def minLM (x : U) (S : Sto) : Out U := match (lsOf S x).bind intsOf with
  | some ns => (match minI ns with
    | some m => .ok (.int m) S
    | none => .bad)
  | none => .bad
section
variable {ω : Om} {K : PySem.W.Frag}
theorem s_len : SCBw ω (on1 lenM) (uLen K) := s_on1 fun g H S d x Q E o k r w => by
  unfold lenM at w
  split at w
  · rw [r.of_str]
    split at w
    · rename_i l; exact Or.inr ⟨_, rfl, Nat.le_trans l ten, w.ok k rp_int⟩
    · exact w.elim
  · split at w
    · rename_i us h
      obtain ⟨a, vs, rfl, hs, hr⟩ := sq_of (K := K) k r h
      exact Or.inl ⟨a, vs, rfl, hs, by rw [hr.len]; exact w.ok k rp_int⟩
    · exact w.elim
theorem s_all : SCBw ω (on1 allM) (rAll K) := s_on1 fun g H S d x Q E o k r w => by
  unfold allM at w
  cases e : lsOf S d with
  | none => rw [e] at w; exact w.elim
  | some us =>
    rw [e, Option.bind_some] at w
    obtain ⟨a, vs, rfl, ha, hr⟩ := ls_of k r e
    cases e2 : blsOf us with
    | none => rw [e2] at w; exact w.elim
    | some bs =>
      rw [e2] at w
      rw [bls_of e2 hr] at ha
      exact ⟨a, bs, rfl, SqL.of ha, w.ok k rp_bl⟩
theorem s_sum : SCBw ω (on1 sumM) (rSum K) := s_on1 fun g H S d x Q E o k r w => by
  unfold sumM at w
  cases e : lsOf S d with
  | none => rw [e] at w; exact w.elim
  | some us =>
    rw [e, Option.bind_some] at w
    obtain ⟨a, vs, rfl, ha, hr⟩ := ls_of k r e
    cases e2 : intsOf us with
    | none => rw [e2] at w; exact w.elim
    | some bs =>
      rw [e2] at w
      rw [ints_of e2 hr] at ha
      exact ⟨a, bs, rfl, SqL.of ha, w.ok k rp_int⟩
theorem rps_int {g : Gd} : ∀ ns : List Int, Rps g (ns.map U.int) (ns.map V.int)
  | [] => rps_nil
  | _ :: ns => rps_cons rp_int (rps_int ns)
theorem sort_one {a b : List Int} (p : a.Perm b) (h1 : a.Pairwise (· ≤ ·)) (h2 : b.Pairwise (· ≤ ·)) : a = b := p.eq_of_pairwise (fun _ _ _ _ h1 h2 => Int.le_antisymm h1 h2) h1 h2
theorem isort_perm (ns : List Int) : (isort ns).Perm ns := List.mergeSort_perm ns _
theorem isort_pw (ns : List Int) : (isort ns).Pairwise (· ≤ ·) := by
  have h := List.pairwise_mergeSort (le := fun a b : Int => decide (a ≤ b)) (fun a b c h1 h2 => decide_eq_true (Int.le_trans (of_decide_eq_true h1) (of_decide_eq_true h2))) (fun a b => by
    rcases Int.le_total a b with h | h
    · rw [decide_eq_true h]; rfl
    · rw [decide_eq_true h]; exact Bool.or_true _) ns
  exact h.imp fun h => of_decide_eq_true h
theorem s_sortI {c : Bool} : SCBw ω (on1 (sortIM c)) (rSortedI K) := s_on1 fun g H S d x Q E o k r w => by
  unfold sortIM at w
  cases e : lsOf S d with
  | none => rw [e] at w; exact w.elim
  | some us =>
    rw [e, Option.bind_some] at w
    obtain ⟨a, vs, rfl, ha, hr⟩ := ls_of k r e
    cases e2 : intsOf us with
    | none => rw [e2] at w; exact w.elim
    | some bs =>
      rw [e2] at w
      rw [ints_of e2 hr] at ha
      refine ⟨a, bs, rfl, SqL.of ha, fun ns' p h1 h2 hp => ?_⟩
      have e3 : ns' = isort bs := sort_one (h1.trans (isort_perm bs).symm) h2 (isort_pw bs)
      rw [e3]
      exact (new_lst k (rps_int (isort bs)) w).2 p hp
theorem s_repr (kn : Kn K ω) : SCBw ω (on1 reprM) (rRp ω.ad K) := s_on1 fun g H S d x Q E o k r w => by
  unfold reprM at w
  cases e : res S 9 d with
  | none => rw [e] at w; exact w.elim
  | some D =>
    rw [e] at w
    dsimp only at w
    by_cases h : okR D
    · rw [if_pos h] at w
      subst o
      obtain ⟨q1, q2⟩ := rep_res k 9 d x D r e
      exact ⟨D, x, rfl, q1, fun p m => (kn.x p (q2 p m)).ex, h.1, Nat.le_trans h.2.1 ten, h.2.2, w.ok k rp_str⟩
    · rw [if_neg h] at w; exact w.elim
def uInt : List V → Hp → VK → Prop := fun xs H Q => ((∃ i, xs = [.int i] ∧ Q (.int i) H) ∨ ∃ k, xs = [.bl k] ∧ Q (.int (if k then 1 else 0)) H) ∨
  ∃ a n, xs = [.str a] ∧ PySem.intText? a = some n ∧ a.length ≤ 640 ∧ Q (.int n) H
theorem s_int1 : SCBw ω (on1 intM) uInt := s_on1 fun g H S d x Q E o k r w => by
  unfold intM at w
  split at w
  · rw [r.of_int]; exact Or.inl (Or.inl ⟨_, rfl, w.ok k rp_int⟩)
  · rw [r.of_bl]; exact Or.inl (Or.inr ⟨_, rfl, w.ok k rp_int⟩)
  · rename_i a
    rw [r.of_str]
    split at w
    · rename_i l
      split at w
      · rename_i n e; exact Or.inr ⟨a, n, rfl, e, l, w.ok k rp_int⟩
      · exact w.elim
    · exact w.elim
  · exact w.elim
def uStr : List V → Hp → VK → Prop := fun xs H Q => (∃ i, xs = [.int i] ∧ i.natAbs.log2 < 1920 ∧ Q (.str (toString i)) H) ∨ ∃ a, xs = [.str a] ∧ Q (.str a) H
theorem s_str : SCBw ω (on1 strM) uStr := s_on1 fun g H S d x Q E o k r w => by
  unfold strM at w
  split at w
  · rw [r.of_int]
    split at w
    · rename_i l; exact Or.inl ⟨_, rfl, l, w.ok k rp_str⟩
    · exact w.elim
  · rw [r.of_str]; exact Or.inr ⟨_, rfl, w.ok k rp_str⟩
  · exact w.elim
def uListC (K : PySem.W.Frag) : List V → Hp → VK → Prop := fun xs H Q => ∃ p ys, xs = [.ref p] ∧ (SqL K H p ys ∨ SqT K H p ys) ∧ ∀ l, H l = none → Q (.ref l) (upd H l (.lst ys))
def uTupC (K : PySem.W.Frag) : List V → Hp → VK → Prop := fun xs H Q => ∃ p ys, xs = [.ref p] ∧ ((SqL K H p ys ∧ ∀ l, H l = none → Q (.ref l) (upd H l (.tup ys))) ∨ (SqT K H p ys ∧ Q (.ref p) H))
theorem s_list {c : Bool} : SCBw ω (on1 (listM c)) (uListC K) := s_on1 fun g H S d x Q E o k r w => by
  unfold listM at w
  split at w
  · rename_i us h
    obtain ⟨a, vs, rfl, hs, hr⟩ := sq_of (K := K) k r h
    exact ⟨a, vs, rfl, hs, (new_lst k hr w).2⟩
  · exact w.elim
theorem s_tup : SCBw ω (on1 tupM) (uTupC K) := s_on1 fun g H S d x Q E o k r w => by
  unfold tupM at w
  split at w
  · rename_i us
    obtain ⟨a, vs, rfl, ha, hr⟩ := r.of_tup
    exact ⟨a, vs, rfl, Or.inr ⟨SqT.of (k.fh a _ ha), w.ok k r⟩⟩
  · split at w
    · rename_i us h
      obtain ⟨a, vs, rfl, ha, hr⟩ := ls_of k r h
      refine ⟨a, vs, rfl, Or.inl ⟨SqL.of ha, fun p hp => ?_⟩⟩
      obtain ⟨x, k2⟩ := k.newF (o := .tup vs) hp
      exact w _ _ _ x k2 (rp_tup upd_same (x.rps hr))
    · exact w.elim
def uMax (K : PySem.W.Frag) : List V → Hp → VK → Prop := fun xs H Q => (∃ i j, xs = [.int i, .int j] ∧ Q (.int (if j > i then j else i)) H) ∨ rMax K xs H Q
def uMin (K : PySem.W.Frag) : List V → Hp → VK → Prop := fun xs H Q => (∃ i j, xs = [.int i, .int j] ∧ Q (.int (if j < i then j else i)) H) ∨ rMin K xs H Q
theorem s_max2 : SCBw ω (on2 max2M) (uMax K) := s_on2 fun g H S d e x y Q E o k r1 r2 w => by
  unfold max2M at w
  split at w
  · rw [r1.of_int, r2.of_int]; exact Or.inl ⟨_, _, rfl, w.ok k rp_int⟩
  · exact w.elim
theorem s_min2 : SCBw ω (on2 min2M) (uMin K) := s_on2 fun g H S d e x y Q E o k r1 r2 w => by
  unfold min2M at w
  split at w
  · rw [r1.of_int, r2.of_int]; exact Or.inl ⟨_, _, rfl, w.ok k rp_int⟩
  · exact w.elim
theorem foldl_min_le : ∀ (ns : List Int) (n : Int), ns.foldl min n ≤ n ∧ ∀ y ∈ ns, ns.foldl min n ≤ y
  | [], n => ⟨Int.le_refl _, fun y m => by cases m⟩
  | a :: ns, n => by
    obtain ⟨h1, h2⟩ := foldl_min_le ns (min n a)
    rw [List.foldl_cons]
    refine ⟨by omega, fun y m => ?_⟩
    rcases List.mem_cons.mp m with rfl | m
    · omega
    · exact h2 y m
theorem s_minL : SCBw ω (on1 minLM) (uMin K) := s_on1 fun g H S d x Q E o k r w => by
  unfold minLM at w
  cases e : lsOf S d with
  | none => rw [e] at w; exact w.elim
  | some us =>
    rw [e, Option.bind_some] at w
    obtain ⟨a, vs, rfl, ha, hr⟩ := ls_of k r e
    cases e2 : intsOf us with
    | none => rw [e2] at w; exact w.elim
    | some bs =>
      rw [e2] at w
      rw [ints_of e2 hr] at ha
      dsimp only at w
      cases bs with
      | nil => exact w.elim
      | cons n ns =>
        refine Or.inr ⟨a, n :: ns, rfl, SqL.of ha, by simp, fun m hm hl => ?_⟩
        have q := foldl_min_le ns n
        have mem : ∀ (l : List Int) (n : Int), l.foldl min n = n ∨ l.foldl min n ∈ l := by
          intro l
          induction l with
          | nil => intro n; exact Or.inl rfl
          | cons b l ih =>
            intro n
            rw [List.foldl_cons]
            rcases ih (min n b) with h | h
            · rw [h]
              rcases Int.min_def n b with h2
              by_cases z : n ≤ b
              · left; omega
              · right; rw [show min n b = b by omega]; exact List.mem_cons_self
            · exact Or.inr (List.mem_cons_of_mem _ h)
        have e4 : m = ns.foldl min n := by
          have h1 : ns.foldl min n ≤ m := by
            rcases List.mem_cons.mp hm with rfl | hm
            · exact q.1
            · exact q.2 m hm
          have h2 : m ≤ ns.foldl min n := by
            rcases mem ns n with h | h
            · rw [h]; exact hl n List.mem_cons_self
            · exact hl _ (List.mem_cons_of_mem _ h)
          omega
        rw [e4]
        exact w.ok k rp_int
theorem s_ix : SOp ixM (rIx K) := fun g H S d e x y Q E k r1 r2 w => by
  unfold ixM at w
  split at w
  · rename_i z i
    rw [r1.of_str, r2.of_int]
    cases h : atI z.cps.toList i with
    | none => rw [h] at w; exact w.elim
    | some c =>
      rw [h] at w
      dsimp only at w
      split at w
      · rename_i l; exact Or.inr (Or.inr ⟨z, i, c, rfl, rfl, Nat.le_trans l ten, h, w.ok k rp_str⟩)
      · exact w.elim
  · rename_i x' i _
    rw [r2.of_int]
    split at w
    · rename_i us h
      obtain ⟨a, vs, rfl, hs, hr⟩ := sq_of (K := K) k r1 h
      split at w
      · rename_i u e
        obtain ⟨v, e1, r⟩ := atI_rps hr e
        rcases hs with hs | hs
        · exact Or.inl ⟨a, vs, i, v, rfl, rfl, hs, e1, w.ok k r⟩
        · exact Or.inr (Or.inl ⟨a, vs, i, v, rfl, rfl, hs, e1, w.ok k r⟩)
      · exact w.elim
    · exact w.elim
  · exact w.elim
end
section
variable {X : Cx}
theorem u_int : CallR X (.type "int") uInt := call_int1.or call_int_str
theorem u_str : CallR X (.type "str") uStr := call_str_int.or SkE.call_str_str
theorem u_list : CallR X (.type "list") (uListC X.K) := call_list_of
theorem u_tuple : CallR X (.type "tuple") (uTupC X.K) := call_tuple_of
theorem u_max (hc : X.calm = true) : CallR X (.builtin "max") (uMax X.K) := (call_max2 hc).or (cr_max hc)
theorem u_min (hc : X.calm = true) : CallR X (.builtin "min") (uMin X.K) := (call_min2 hc).or (cr_min hc)
theorem u_sorted : CallR X (.builtin "sorted") (rSortedI X.K) := cr_sortedI
end
end Z

namespace Z
open PySem PySem.Spec PyProof.Rows L2

/-! ### lists that are written -/
@[simp] def mBL (o : U → List U → Sto → Out U) (a : ME U) (r : ME (List U)) : ME U := fun ρ S => (a ρ S).bind fun x S1 => match lsOf S1 x with
  | some _ => (r ρ S1).bind (o x)
  | none => .bad
@[simp] def mBL0 (o : U → Sto → Out U) (a : ME U) : ME U := fun ρ S => (a ρ S).bind fun x S1 => match lsOf S1 x with
  | some _ => o x S1
  | none => .bad
def celL (S : Sto) (x : U) : Option (Nat × List U) := match x with
  | .cel n => match S[n]? with
    | some (.lst us) => some (n, us)
    | _ => none
  | _ => none
def appM (x : U) (us : List U) (S : Sto) : Out U := match us with
  | [d] => match celL S x with
    | some (n, ws) => if ws.length < 10000000 then .ok .non (S.set n (.lst (ws ++ [d]))) else .bad
    | none => .bad
  | _ => .bad
def revM (x : U) (S : Sto) : Out U := match celL S x with
  | some (n, ws) => .ok .non (S.set n (.lst ws.reverse))
  | none => .bad
def popM (x : U) (S : Sto) : Out U := match celL S x with
  | some (n, ws) => match ws[ws.length - 1]? with
    | some d => .ok d (S.set n (.lst ws.dropLast))
    | none => .bad
  | none => .bad
def setIx (x y d : U) (S : Sto) : Option Sto := match celL S x, y with
  | some (n, ws), .int k => match ixN ws.length k with
    | some j => some (S.set n (.lst (ws.set j d)))
    | none => none
  | _, _ => none
@[simp] def mSetIx (f : U → U → U → Sto → Option Sto) (a o i : ME U) : MS := fun ρ S => (a ρ S).thenS ρ fun d S1 => (o ρ S1).thenS ρ fun x S2 => (i ρ S2).thenS ρ fun y S3 => match f x y d S3 with
  | some S4 => .nx ρ S4
  | none => .bad
section
variable {g : Gd} {H : Hp} {S : Sto}
theorem celL_S {S : Sto} {x : U} {n : Nat} {ws : List U} (h : celL S x = some (n, ws)) : S[n]? = some (.lst ws) := by
  unfold celL at h
  split at h
  · split at h
    · rename_i e
      cases h
      exact e
    · cases h
  · cases h
theorem celL_of {x : U} {v : V} {n : Nat} {ws : List U} (k : Cor g H S) (r : Rp g x v) (h : celL S x = some (n, ws)) : ∃ a vs, v = .ref a ∧ g.al[n]? = some a ∧ H a = some (.lst vs) ∧ Rps g ws vs := by
  unfold celL at h
  split at h
  · obtain ⟨a, ha, rfl⟩ := r.of_cel
    split at h
    · rename_i e
      cases h
      obtain ⟨vs, e2, hr⟩ := k.get ha e
      exact ⟨a, vs, rfl, ha, e2, hr⟩
    · cases h
  · cases h
theorem SBL {K : PySem.W.Frag} {x : U} {v : V} {us : List U} (k : Cor g H S) (r : Rp g x v) (h : lsOf S x = some us) : tyV K "list" v H := by
  obtain ⟨a, vs, rfl, ha, _⟩ := ls_of k r h
  exact Or.inl ⟨rfl, vs, SqL.of ha⟩
end
def SMt (o : U → List U → Sto → Out U) (r : V → List V → Hp → VK → Prop) : Prop := ∀ (g : Gd) (H : Hp) (S : Sto) (d : U) (ds : List U) (x : V) (xs : List V) (Q : VK) (E : XK), Cor g H S → Rp g d x → Rps g ds xs → Wp g H Rp Q E (o d ds S) → r x xs H Q
def SMt0 (o : U → Sto → Out U) (r : V → List V → Hp → VK → Prop) : Prop := ∀ (g : Gd) (H : Hp) (S : Sto) (d : U) (x : V) (Q : VK) (E : XK), Cor g H S → Rp g d x → Wp g H Rp Q E (o d S) → r x [] H Q
section
variable {ω : Om} {X : Cx} {E : WX} {e : Expr} {st : Stmt} {ma mo mi : ME U} {mr : ME (List U)}
theorem x_bl {o : U → List U → Sto → Out U} {r : V → List V → Hp → VK → Prop} (h : PE X e (tBM X.K "list" r (rdE ω E ma) (rdA ω E mr))) (s : SMt o r) : PE X e (rdE ω E (mBL o ma mr)) := h.to fun σ H Q h => by
  refine (rd_bind (R := Rp) (m := ma) (kk := fun ρ x S1 => match lsOf S1 x with
    | some _ => (mr ρ S1).bind (o x)
    | none => .bad) h).mono ?_
  rintro x H1 ⟨g1, ρ, S1, d, a1, r1, w1⟩
  cases el : lsOf S1 d with
  | none => rw [el] at w1; exact w1.elim
  | some us =>
    rw [el] at w1
    refine ⟨SBL a1.c r1 el, g1, ρ, S1, a1, (Wp.bind (R := Rps) w1).mono ?_⟩
    rintro xs H2 ⟨g2, S2, ds, x2, c2, r2, w2⟩
    exact s g2 H2 S2 d ds x xs Q _ c2 (x2.rp r1) r2 w2
theorem x_bl0 {o : U → Sto → Out U} {r : V → List V → Hp → VK → Prop} (h : PE X e (tBM0 X.K "list" r (rdE ω E ma))) (s : SMt0 o r) : PE X e (rdE ω E (mBL0 o ma)) := h.to fun σ H Q h => by
  refine (rd_bind (R := Rp) (m := ma) (kk := fun ρ x S1 => match lsOf S1 x with
    | some _ => o x S1
    | none => .bad) h).mono ?_
  rintro x H1 ⟨g1, ρ, S1, d, a1, r1, w1⟩
  cases el : lsOf S1 d with
  | none => rw [el] at w1; exact w1.elim
  | some us =>
    rw [el] at w1
    exact ⟨SBL a1.c r1 el, s g1 H1 S1 d x Q _ a1.c r1 w1⟩
theorem s_app : SMt appM rAppend := fun g H S d ds x xs Q E k r rs w => by
  unfold appM at w
  split at w
  · rename_i u
    obtain ⟨v, ws, rfl, r1, r2⟩ := rs.of_cons
    rw [r2.of_nil]
    split at w
    · rename_i n ws h
      obtain ⟨a, vs, rfl, ha, e, hr⟩ := celL_of k r h
      split at w
      · rename_i l
        refine ⟨a, vs, v, rfl, rfl, e, by rw [hr.len]; have := ten; omega, ?_⟩
        obtain ⟨x, k2⟩ := k.setC (o := .lst (vs ++ [v])) (c := .lst (ws ++ [u])) ha ⟨vs ++ [v], upd_same, hr.app (rps_cons r1 rps_nil)⟩ (celL_S h)
        exact w _ _ _ x k2 rp_non
      · exact w.elim
    · exact w.elim
  · exact w.elim
theorem s_rev : SMt0 revM rReverse := fun g H S d x Q E k r w => by
  unfold revM at w
  split at w
  · rename_i n ws h
    obtain ⟨a, vs, rfl, ha, e, hr⟩ := celL_of k r h
    obtain ⟨x, k2⟩ := k.setC (o := .lst vs.reverse) (c := .lst ws.reverse) ha ⟨vs.reverse, upd_same, hr.rev⟩ (celL_S h)
    exact ⟨a, vs, rfl, rfl, e, w _ _ _ x k2 rp_non⟩
  · exact w.elim
theorem dropLast_rps {g : Gd} {us : List U} {vs : List V} (h : Rps g us vs) : Rps g us.dropLast vs.dropLast := by
  rw [List.dropLast_eq_take, List.dropLast_eq_take, h.len]
  exact h.take _
theorem s_pop : SMt0 popM rPop := fun g H S d x Q E k r w => by
  unfold popM at w
  split at w
  · rename_i n ws h
    obtain ⟨a, vs, rfl, ha, e, hr⟩ := celL_of k r h
    split at w
    · rename_i u e2
      obtain ⟨v, e3, r3⟩ := hr.get e2
      obtain ⟨x, k2⟩ := k.setC (o := .lst vs.dropLast) (c := .lst ws.dropLast) ha ⟨vs.dropLast, upd_same, dropLast_rps hr⟩ (celL_S h)
      exact ⟨a, vs, v, rfl, rfl, e, by rw [hr.len]; exact e3, w _ _ _ x k2 (x.rp r3)⟩
    · exact w.elim
  · exact w.elim
/-- a store keeps to its mirror -/
def SSt (f : U → U → U → Sto → Option Sto) (t : TSet) : Prop := ∀ (g : Gd) (H : Hp) (S S' : Sto) (o i d : U) (x y v : V) (Q : Hp → Prop), Cor g H S → Rp g o x → Rp g i y → Rp g d v → f o i d S = some S' → (∀ H', Gr g H g H' → Cor g H' S' → Q H') → t x y v H Q
theorem s_setIx : SSt setIx rSetL := fun g H S S' o i d x y v Q k r1 r2 r3 e q => by
  unfold setIx at e
  split at e
  · rename_i n ws kk h
    split at e
    · rename_i j hj
      cases e
      obtain ⟨a, vs, rfl, ha, e, hr⟩ := celL_of k r1 h
      rw [r2.of_int]
      obtain ⟨x, k2⟩ := k.setC (o := .lst (vs.set j v)) (c := .lst (ws.set j d)) ha ⟨vs.set j v, upd_same, hr.set r3 j⟩ (celL_S h)
      exact ⟨a, vs, kk, j, rfl, rfl, e, by rw [hr.len]; exact hj, q _ x k2⟩
    · cases e
  · cases e
theorem xs_setIx {f : U → U → U → Sto → Option Sto} {t : TSet} (h : PS X st (tAsg (rdE ω E ma) (gSub (rdE ω E mo) (rdE ω E mi) t))) (s : SSt f t) : PS X st (rdS ω E (mSetIx f ma mo mi)) := h.to fun D σ H ⟨g, ρ, S, a, w⟩ =>
  ⟨g, ρ, S, a, Ws.ofE (R := Rp) a w fun v H1 g1 S1 d x1 a1 r1 w1 => ⟨g1, ρ, S1, a1, Ws.ofE (R := Rp) a1 w1 fun x H2 g2 S2 o x2 a2 r2 w2 => ⟨g2, ρ, S2, a2, Ws.ofE (R := Rp) a2 w2 fun y H3 g3 S3 i x3 a3 r3 w3 => by
    cases ef : f o i d S3 with
    | none => rw [ef] at w3; exact w3.elim
    | some S4 =>
      rw [ef] at w3
      exact s g3 H3 S3 S4 o i d x y v _ a3.c (x3.rp r2) r3 (x3.rp (x2.rp r1)) ef fun H4 x4 c4 => w3 g3 H4 _ x4 ⟨a3.e.mono x4, c4⟩⟩⟩⟩
end

/-! ### dicts -/
section
variable {κ α : Type} [DecidableEq κ]
def valG (kvs : List (κ × α)) (k : κ) : Option α := (kvs.find? fun kv => decide (kv.1 = k)).map (·.2)
def putG (kvs : List (κ × α)) (k : κ) (v : α) : List (κ × α) :=
  if (kvs.any fun kv => decide (kv.1 = k)) = true then kvs.map (fun kv => if kv.1 = k then (kv.1, v) else kv) else kvs ++ [(k, v)]
def dropG (kvs : List (κ × α)) (k : κ) : List (κ × α) := kvs.filter fun kv => decide (kv.1 ≠ k)
variable {g : Gd}
theorem RpF.any {k : κ} : ∀ {kvs : List (κ × U)} {vs : List (κ × V)}, RpF g kvs vs → (kvs.any fun kv => decide (kv.1 = k)) = (vs.any fun kv => decide (kv.1 = k))
  | _, _, .nil => rfl
  | _, _, .cons (a := p) (b := q) r t => by rw [List.any_cons, List.any_cons, RpF.any t, r.1]
theorem RpF.val {k : κ} : ∀ {kvs : List (κ × U)} {vs : List (κ × V)}, RpF g kvs vs → (∀ u, valG kvs k = some u → ∃ v, valV vs k = some v ∧ Rp g u v) ∧ (valG kvs k = none → valV vs k = none)
  | _, _, .nil => ⟨fun u h => (by cases h), fun _ => (rfl)⟩
  | p :: _, q :: _, .cons r t => by
    obtain ⟨h1, h2⟩ := RpF.val (k := k) t
    obtain ⟨a, u⟩ := p
    obtain ⟨b, v⟩ := q
    have e : a = b := r.1
    subst e
    by_cases z : a = k
    · have e1 : ∀ {β : Type} (x : β) (l : List (κ × β)), (((a, x) :: l).find? fun kv => decide (kv.1 = k)).map (·.2) = some x := fun x l => by simp [List.find?_cons, z]
      refine ⟨fun w h => ?_, fun h => ?_⟩
      · rw [show valG ((a, u) :: _) k = some u from e1 u _] at h
        cases h
        exact ⟨v, e1 v _, r.2⟩
      · rw [show valG ((a, u) :: _) k = some u from e1 u _] at h; cases h
    · have e1 : ∀ {β : Type} (x : β) (l : List (κ × β)), (((a, x) :: l).find? fun kv => decide (kv.1 = k)).map (·.2) = (l.find? fun kv => decide (kv.1 = k)).map (·.2) := fun x l => by simp [List.find?_cons, z]
      refine ⟨fun w h => ?_, fun h => ?_⟩
      · rw [show valG ((a, u) :: _) k = valG _ k from e1 u _] at h
        obtain ⟨v', q1, q2⟩ := h1 w h
        exact ⟨v', (show valV ((a, v) :: _) k = valV _ k from e1 v _).trans q1, q2⟩
      · rw [show valG ((a, u) :: _) k = valG _ k from e1 u _] at h
        exact (show valV ((a, v) :: _) k = valV _ k from e1 v _).trans (h2 h)
theorem RpF.put {k : κ} {u : U} {v : V} (r : Rp g u v) {kvs : List (κ × U)} {vs : List (κ × V)} (h : RpF g kvs vs) : RpF g (putG kvs k u) (putK vs k v) := by
  unfold putG putK
  rw [RpF.any h]
  have app : ∀ {a : List (κ × U)} {b : List (κ × V)}, RpF g a b → RpF g (a ++ [(k, u)]) (b ++ [(k, v)]) := by
    intro a b h
    induction h with
    | nil => exact .cons ⟨rfl, r⟩ .nil
    | cons r t ih => exact .cons r ih
  have mp : ∀ {a : List (κ × U)} {b : List (κ × V)}, RpF g a b → RpF g (a.map (fun kv => if kv.1 = k then (kv.1, u) else kv)) (b.map (fun kv => if kv.1 = k then (kv.1, v) else kv)) := by
    intro a b h
    induction h with
    | nil => exact .nil
    | @cons p q _ _ r' t ih =>
      refine .cons ?_ ih
      dsimp only
      by_cases z : p.1 = k
      · rw [if_pos z, if_pos (r'.1.symm.trans z)]; exact ⟨r'.1, r⟩
      · rw [if_neg z, if_neg (fun y => z (r'.1.trans y))]; exact r'
  split
  · exact mp h
  · exact app h
theorem RpF.drop {k : κ} : ∀ {kvs : List (κ × U)} {vs : List (κ × V)}, RpF g kvs vs → RpF g (dropG kvs k) (dropK vs k)
  | _, _, .nil => .nil
  | p :: _, q :: _, .cons r t => by
    have ih := RpF.drop (k := k) t
    unfold dropG dropK at ih ⊢
    rw [List.filter_cons, List.filter_cons, ← r.1]
    split
    · exact .cons r ih
    · exact ih
theorem RpF.len : ∀ {kvs : List (κ × U)} {vs : List (κ × V)}, RpF g kvs vs → kvs.length = vs.length
  | _, _, .nil => rfl
  | _, _, .cons r t => by rw [List.length_cons, List.length_cons, RpF.len t]
theorem rpf_zip : ∀ {ks : List κ} {us : List U} {vs : List V}, ks.length = us.length → Rps g us vs → RpF g (ks.zip us) (ks.zip vs)
  | [], us, vs, l, r => by
    cases us with
    | nil => rw [r.of_nil]; exact .nil
    | cons _ _ => cases l
  | k :: ks, us, vs, l, r => by
    cases us with
    | nil => cases l
    | cons u us =>
      obtain ⟨v, ws, rfl, r1, r2⟩ := r.of_cons
      exact .cons ⟨rfl, r1⟩ (rpf_zip (by simpa using l) r2)
end
/-- a key: a number, a text; a tuple of such -/
def kOf : U → Option Key
  | .int i => some (.inl i)
  | .str x => some (.inr x)
  | _ => none
def kTof : U → Option (List Key)
  | .tup us => optMap kOf us
  | _ => none
theorem kOf_v {g : Gd} {u : U} {v : V} {k : Key} (r : Rp g u v) (h : kOf u = some k) : v = kV k := by
  unfold kOf at h
  split at h
  · cases h; exact r.of_int
  · cases h; exact r.of_str
  · cases h
theorem kTof_v {g : Gd} {H : Hp} {S : Sto} {u : U} {v : V} {k : List Key} (c : Cor g H S) (r : Rp g u v) (h : kTof u = some k) : ∃ b, v = .ref b ∧ g.F b = some (.tup (k.map kV)) ∧ H b = some (.tup (k.map kV)) := by
  unfold kTof at h
  split at h
  · rename_i us
    obtain ⟨a, vs, rfl, ha, hr⟩ := r.of_tup
    have e : ∀ {us : List U} {vs : List V} {k : List Key}, Rps g us vs → optMap kOf us = some k → vs = k.map kV := by
      intro us
      induction us with
      | nil => intro vs k r h; cases h; exact r.of_nil
      | cons u us ih =>
        intro vs k r h
        obtain ⟨v, ws, rfl, r1, r2⟩ := r.of_cons
        unfold optMap at h
        split at h
        · cases h; rename_i h1 h2; rw [kOf_v r1 h1, ih r2 h2]; rfl
        · cases h
    rw [e hr h] at ha
    exact ⟨a, rfl, ha, c.fh a _ ha⟩
  · cases h
/-- what a dict holds: by plain keys, by keys that are tuples -/
inductive Dc where
  | k (kvs : List (Key × U)) | t (kvs : List (List Key × U))
def dcOf (S : Sto) : U → Option Dc
  | .dct ks us => some (.k (ks.zip us))
  | .dtt ks us => some (.t (ks.zip us))
  | .cel n => match S[n]? with
    | some (.dK kvs) => some (.k kvs)
    | some (.dT kvs) => some (.t kvs)
    | some (.fK kvs) => some (.k kvs)
    | some (.fT kvs) => some (.t kvs)
    | _ => none
  | _ => none
def Dc.get (d : Dc) (y : U) : Option (Option U) := match d with
  | .k kvs => (kOf y).map (valG kvs)
  | .t kvs => (kTof y).map (valG kvs)
def DcAt (g : Gd) (H : Hp) (a : Addr) : Dc → Prop
  | .k kvs => ∃ vs, Rd H a (.dK vs) ∧ RpF g kvs vs
  | .t kvs => ∃ vs, Rd H a (.dT vs) ∧ RpF g kvs vs
theorem dc_at {g : Gd} {H : Hp} {S : Sto} {x : U} {v : V} {d : Dc} (k : Cor g H S) (r : Rp g x v) (h : dcOf S x = some d) : ∃ a, v = .ref a ∧ DcAt g H a d := by
  unfold dcOf at h
  split at h
  · cases h
    obtain ⟨a, vs, rfl, ha, hl, hr⟩ := r.of_dct
    exact ⟨a, rfl, _, Rd.of (k.fh a _ ha), rpf_zip hl hr⟩
  · cases h
    obtain ⟨a, vs, rfl, ha, hl, hr⟩ := r.of_dtt
    exact ⟨a, rfl, _, Rd.of (k.fh a _ ha), rpf_zip hl hr⟩
  · obtain ⟨a, ha, rfl⟩ := r.of_cel
    split at h
    · rename_i e; cases h; obtain ⟨vs, q1, q2⟩ := k.get ha e; exact ⟨a, rfl, vs, Rd.of q1, q2⟩
    · rename_i e; cases h; obtain ⟨vs, q1, q2⟩ := k.get ha e; exact ⟨a, rfl, vs, Rd.of q1, q2⟩
    · rename_i e; cases h; obtain ⟨vs, q1, q2⟩ := k.get ha e; exact ⟨a, rfl, vs, Or.inr q1, q2⟩
    · rename_i e; cases h; obtain ⟨vs, q1, q2⟩ := k.get ha e; exact ⟨a, rfl, vs, Or.inr q1, q2⟩
    · cases h
  · cases h
theorem dc_isD {g : Gd} {H : Hp} {S : Sto} {x : U} {v : V} {d : Dc} (k : Cor g H S) (r : Rp g x v) (h : dcOf S x = some d) : ∃ a, v = .ref a ∧ IsD H a := by
  obtain ⟨a, e, q⟩ := dc_at k r h
  refine ⟨a, e, ?_⟩
  cases d with
  | k kvs => obtain ⟨vs, e, _⟩ := q; exact Or.inl ⟨vs, e⟩
  | t kvs => obtain ⟨vs, e, _⟩ := q; exact Or.inr ⟨vs, e⟩
theorem dc_get {g : Gd} {H : Hp} {S : Sto} {x y : U} {v w : V} {d : Dc} {o : Option U} (k : Cor g H S) (r : Rp g x v) (r2 : Rp g y w) (h : dcOf S x = some d) (h2 : d.get y = some o) :
    ∃ a o', v = .ref a ∧ DGet H a w o' ∧ (∀ u, o = some u → ∃ z, o' = some z ∧ Rp g u z) ∧ (o = none → o' = none) := by
  obtain ⟨a, e, q⟩ := dc_at k r h
  cases d with
  | k kvs =>
    obtain ⟨vs, e1, q⟩ := q
    obtain ⟨key, e2, rfl⟩ := Option.map_eq_some_iff.mp h2
    rw [kOf_v r2 e2]
    obtain ⟨p1, p2⟩ := q.val (k := key)
    refine ⟨a, valV vs key, e, Or.inl ⟨vs, key, e1, rfl, rfl⟩, fun u hu => ?_, p2⟩
    obtain ⟨z, e3, r3⟩ := p1 u hu
    exact ⟨z, e3, r3⟩
  | t kvs =>
    obtain ⟨vs, e1, q⟩ := q
    obtain ⟨key, e2, rfl⟩ := Option.map_eq_some_iff.mp h2
    obtain ⟨b, rfl, _, hb⟩ := kTof_v k r2 e2
    obtain ⟨p1, p2⟩ := q.val (k := key)
    refine ⟨a, valV vs key, e, Or.inr ⟨vs, key, b, e1, rfl, hb, rfl⟩, fun u hu => ?_, p2⟩
    obtain ⟨z, e3, r3⟩ := p1 u hu
    exact ⟨z, e3, r3⟩
/-- d[k] = v -/
def setDc (x y d : U) (S : Sto) : Option Sto := match x with
  | .cel n => match S[n]? with
    | some (.dK kvs) => match kOf y with
      | some k => if kvs.length < 10000000 then some (S.set n (.dK (putG kvs k d))) else none
      | none => none
    | some (.dT kvs) => match kTof y with
      | some k => if kvs.length < 10000000 then some (S.set n (.dT (putG kvs k d))) else none
      | none => none
    | _ => none
  | _ => none
theorem s_setDc : SSt setDc rSetD := fun g H S S' o i d x y v Q k r1 r2 r3 e q => by
  unfold setDc at e
  split at e
  · rename_i n
    obtain ⟨a, ha, rfl⟩ := r1.of_cel
    split at e
    · rename_i kvs e1
      obtain ⟨vs, e2, hr⟩ := k.get ha e1
      split at e
      · rename_i key hk
        split at e
        · rename_i l
          cases e
          rw [kOf_v r2 hk]
          obtain ⟨x, k2⟩ := k.setC (o := .dK (putK vs key v)) (c := .dK (putG kvs key d)) ha ⟨_, upd_same, hr.put r3⟩ e1
          exact ⟨a, _, rfl, DPut.k e2 (by rw [← hr.len]; have := ten; omega), q _ x k2⟩
        · cases e
      · cases e
    · rename_i kvs e1
      obtain ⟨vs, e2, hr⟩ := k.get ha e1
      split at e
      · rename_i key hk
        split at e
        · rename_i l
          cases e
          obtain ⟨b, rfl, _, hb⟩ := kTof_v k r2 hk
          obtain ⟨x, k2⟩ := k.setC (o := .dT (putK vs key v)) (c := .dT (putG kvs key d)) ha ⟨_, upd_same, hr.put r3⟩ e1
          exact ⟨a, _, rfl, DPut.t e2 hb (by rw [← hr.len]; have := ten; omega), q _ x k2⟩
        · cases e
      · cases e
    · cases e
  · cases e
@[simp] def mDGet (a y : ME U) : ME U := fun ρ S => (a ρ S).bind fun x S1 => (y ρ S1).bind fun i S2 => match (dcOf S2 x).bind (·.get i) with
  | some (some d) => .ok d S2
  | _ => .bad
@[simp] def mDGet2 (a y z : ME U) : ME U := fun ρ S => (a ρ S).bind fun x S1 => match dcOf S1 x with
  | some _ => (y ρ S1).bind fun i S2 => (z ρ S2).bind fun e S3 => match (dcOf S3 x).bind (·.get i) with
    | some (some d) => .ok d S3
    | some none => .ok e S3
    | none => .bad
  | none => .bad
@[simp] def mDPop2 (a y z : ME U) : ME U := fun ρ S => (a ρ S).bind fun x S1 => match dcOf S1 x with
  | some _ => (y ρ S1).bind fun i S2 => (z ρ S2).bind fun e S3 => match x with
    | .cel n => match S3[n]? with
      | some (.dK kvs) => match kOf i with
        | some k => match valG kvs k with
          | some d => .ok d (S3.set n (.dK (dropG kvs k)))
          | none => .ok e S3
        | none => .bad
      | _ => .bad
    | _ => .bad
  | none => .bad
@[simp] def mDIn (neg : Bool) (y a : ME U) : ME U := fun ρ S => (y ρ S).bind fun i S1 => (a ρ S1).bind fun x S2 => match (dcOf S2 x).bind (·.get i) with
  | some o => .ok (.bl (if neg = true then !o.isSome else o.isSome)) S2
  | none => .bad
@[simp] def mDNewK : ME U := fun _ S => .ok (.cel S.length) (S ++ [.dK []])
@[simp] def mDNewT : ME U := fun _ S => .ok (.cel S.length) (S ++ [.dT []])
section
variable {ω : Om} {X : Cx} {E : WX} {e : Expr} {ma my mz : ME U}
theorem x_dget (h : PE X e (tDGet (rdE ω E ma) (rdE ω E my))) : PE X e (rdE ω E (mDGet ma my)) := h.to fun σ H Q h => by
  refine (rd_bind (R := Rp) (m := ma) (kk := fun ρ x S1 => (my ρ S1).bind fun i S2 => match (dcOf S2 x).bind (·.get i) with
    | some (some d) => .ok d S2
    | _ => .bad) h).mono ?_
  rintro x H1 ⟨g1, ρ, S1, u, a1, r1, w1⟩
  refine ⟨g1, ρ, S1, a1, (Wp.bind (R := Rp) w1).mono ?_⟩
  rintro y H2 ⟨g2, S2, i, x2, c2, r2, w2⟩
  cases ed : dcOf S2 u with
  | none => rw [ed] at w2; exact w2.elim
  | some d =>
    rw [ed, Option.bind_some] at w2
    cases eg : d.get i with
    | none => rw [eg] at w2; exact w2.elim
    | some o =>
      cases o with
      | none => rw [eg] at w2; exact w2.elim
      | some z =>
        rw [eg] at w2
        obtain ⟨a, o', e1, e2, e3, _⟩ := dc_get c2 (x2.rp r1) r2 ed eg
        obtain ⟨v, rfl, r3⟩ := e3 z rfl
        exact ⟨a, v, e1, e2, w2.ok c2 r3⟩
theorem x_dget2 (h : PE X e (tDGet2 (rdE ω E ma) (rdE ω E my) (rdE ω E mz))) : PE X e (rdE ω E (mDGet2 ma my mz)) := h.to fun σ H Q h => by
  refine (rd_bind (R := Rp) (m := ma) (kk := fun ρ x S1 => match dcOf S1 x with
    | some _ => (my ρ S1).bind fun i S2 => (mz ρ S2).bind fun e S3 => match (dcOf S3 x).bind (·.get i) with
      | some (some d) => .ok d S3
      | some none => .ok e S3
      | none => .bad
    | none => .bad) h).mono ?_
  rintro x H1 ⟨g1, ρ, S1, u, a1, r1, w1⟩
  cases ed0 : dcOf S1 u with
  | none => rw [ed0] at w1; exact w1.elim
  | some d0 =>
    rw [ed0] at w1
    obtain ⟨a, ea, isd⟩ := dc_isD a1.c r1 ed0
    refine ⟨a, ea, isd, g1, ρ, S1, a1, (Wp.bind (R := Rp) w1).mono ?_⟩
    rintro y H2 ⟨g2, S2, i, x2, c2, r2, w2⟩
    refine ⟨g2, ρ, S2, ⟨a1.e.mono x2, c2⟩, (Wp.bind (R := Rp) w2).mono ?_⟩
    rintro z H3 ⟨g3, S3, f, x3, c3, r3, w3⟩
    cases ed : dcOf S3 u with
    | none => rw [ed] at w3; exact w3.elim
    | some d =>
      rw [ed, Option.bind_some] at w3
      cases eg : d.get i with
      | none => rw [eg] at w3; exact w3.elim
      | some o =>
        rw [eg] at w3
        obtain ⟨a', o', e1, e2, e3, e4⟩ := dc_get c3 (x3.rp (x2.rp r1)) (x3.rp r2) ed eg
        rw [ea] at e1
        cases e1
        cases o with
        | none =>
          have e5 := e4 rfl
          subst e5
          exact ⟨none, e2, w3.ok c3 r3⟩
        | some dd =>
          obtain ⟨v, rfl, r4⟩ := e3 dd rfl
          exact ⟨some v, e2, w3.ok c3 r4⟩
theorem x_dpop2 (h : PE X e (tDPop2 (rdE ω E ma) (rdE ω E my) (rdE ω E mz))) : PE X e (rdE ω E (mDPop2 ma my mz)) := h.to fun σ H Q h => by
  refine (rd_bind (R := Rp) (m := ma) (kk := fun ρ x S1 => match dcOf S1 x with
    | some _ => (my ρ S1).bind fun i S2 => (mz ρ S2).bind fun e S3 => match x with
      | .cel n => match S3[n]? with
        | some (.dK kvs) => match kOf i with
          | some k => match valG kvs k with
            | some d => .ok d (S3.set n (.dK (dropG kvs k)))
            | none => .ok e S3
          | none => .bad
        | _ => .bad
      | _ => .bad
    | none => .bad) h).mono ?_
  rintro x H1 ⟨g1, ρ, S1, u, a1, r1, w1⟩
  cases ed0 : dcOf S1 u with
  | none => rw [ed0] at w1; exact w1.elim
  | some d0 =>
    rw [ed0] at w1
    obtain ⟨a, ea, isd⟩ := dc_isD a1.c r1 ed0
    refine ⟨a, ea, isd, g1, ρ, S1, a1, (Wp.bind (R := Rp) w1).mono ?_⟩
    rintro y H2 ⟨g2, S2, i, x2, c2, r2, w2⟩
    refine ⟨g2, ρ, S2, ⟨a1.e.mono x2, c2⟩, (Wp.bind (R := Rp) w2).mono ?_⟩
    rintro z H3 ⟨g3, S3, f, x3, c3, r3, w3⟩
    cases u with
    | cel n =>
      obtain ⟨a', ha, e1⟩ := (x3.rp (x2.rp r1)).of_cel
      rw [ea] at e1
      cases e1
      dsimp only at w3
      split at w3
      · rename_i kvs e2
        obtain ⟨vs, e3, hr⟩ := c3.get ha e2
        split at w3
        · rename_i k hk
          rw [kOf_v (x3.rp r2) hk]
          obtain ⟨p1, p2⟩ := hr.val (k := k)
          refine ⟨vs, k, e3, rfl, fun v hv => ?_, fun hv => ?_⟩
          · cases ev : valG kvs k with
            | none => rw [p2 ev] at hv; cases hv
            | some d =>
              rw [ev] at w3
              obtain ⟨v', q1, q2⟩ := p1 d ev
              rw [hv] at q1; cases q1
              obtain ⟨x4, k4⟩ := c3.setC (o := .dK (dropK vs k)) (c := .dK (dropG kvs k)) ha ⟨_, upd_same, hr.drop⟩ e2
              exact w3 _ _ _ x4 k4 (x4.rp q2)
          · cases ev : valG kvs k with
            | none => rw [ev] at w3; exact w3.ok c3 r3
            | some d =>
              obtain ⟨v', q1, q2⟩ := p1 d ev
              rw [hv] at q1; cases q1
        · exact w3.elim
      · exact w3.elim
    | _ => exact w3.elim
theorem rd_din {neg : Bool} {σ : L2.St} {H : Hp} {Q : VK} (h : rdE ω E (mDIn neg my ma) σ H Q) : rdE ω E my σ H fun y H1 => rdE ω E ma σ H1 fun x H2 => ∃ a o, x = .ref a ∧ DGet H2 a y o ∧ Q (.bl (if neg = true then !o.isSome else o.isSome)) H2 := by
  refine (rd_bind (R := Rp) (m := my) (kk := fun ρ i S1 => (ma ρ S1).bind fun x S2 => match (dcOf S2 x).bind (·.get i) with
    | some o => .ok (U.bl (if neg = true then !o.isSome else o.isSome)) S2
    | none => .bad) h).mono ?_
  rintro y H1 ⟨g1, ρ, S1, i, a1, r1, w1⟩
  refine ⟨g1, ρ, S1, a1, (Wp.bind (R := Rp) w1).mono ?_⟩
  rintro x H2 ⟨g2, S2, u, x2, c2, r2, w2⟩
  cases ed : dcOf S2 u with
  | none => rw [ed] at w2; exact w2.elim
  | some d =>
    rw [ed, Option.bind_some] at w2
    cases eg : d.get i with
    | none => rw [eg] at w2; exact w2.elim
    | some o =>
      rw [eg] at w2
      obtain ⟨a, o', e1, e2, e3, e4⟩ := dc_get c2 r2 (x2.rp r1) ed eg
      refine ⟨a, o', e1, e2, ?_⟩
      have e5 : o'.isSome = o.isSome := by
        cases o with
        | none => rw [e4 rfl]; rfl
        | some z => obtain ⟨v, e6, _⟩ := e3 z rfl; rw [e6]; rfl
      rw [e5]
      exact w2.ok c2 rp_bl
theorem x_din (h : PE X e (tDIn (rdE ω E my) (rdE ω E ma))) : PE X e (rdE ω E (mDIn false my ma)) := h.to fun σ H Q h => rd_din h
theorem x_dnotin (h : PE X e (tDNotIn (rdE ω E my) (rdE ω E ma))) : PE X e (rdE ω E (mDIn true my ma)) := h.to fun σ H Q h => rd_din h
theorem xt_din (h : PT X e (tB (tDIn (rdE ω E my) (rdE ω E ma)))) : PT X e (rdT ω E (mTB (mDIn false my ma))) := h.to fun σ H Q h => rd_din (rd_test h)
theorem xt_dnotin (h : PT X e (tB (tDNotIn (rdE ω E my) (rdE ω E ma)))) : PT X e (rdT ω E (mTB (mDIn true my ma))) := h.to fun σ H Q h => rd_din (rd_test h)
theorem x_dnewK (h : PE X e tDNewK) : PE X e (rdE ω E mDNewK) := h.to fun σ H Q ⟨g, ρ, S, a, w⟩ p hp => by
  obtain ⟨x, k2⟩ := a.c.newC (o := .dK []) (c := .dK []) hp ⟨[], upd_same, .nil⟩
  exact w _ _ _ x k2 (rp_cel (by rw [← a.c.len]; simp))
theorem x_dnewT (h : PE X e tDNewT) : PE X e (rdE ω E mDNewT) := h.to fun σ H Q ⟨g, ρ, S, a, w⟩ p hp => by
  obtain ⟨x, k2⟩ := a.c.newC (o := .dT []) (c := .dT []) hp ⟨[], upd_same, .nil⟩
  exact w _ _ _ x k2 (rp_cel (by rw [← a.c.len]; simp))
end

/-! ### what a for walks -/
@[simp] def mIt (a : ME U) : ME IT := fun ρ S => (a ρ S).bind fun x S1 => match x with
  | .lst us => .ok ⟨us, none⟩ S1
  | .tup us => .ok ⟨us, none⟩ S1
  | .str z => .ok ⟨z.cps.toList.map fun c => .str ⟨#[c]⟩, none⟩ S1
  | .cel n => match S1[n]? with
    | some (.lst us) => .ok ⟨us, some n⟩ S1
    | _ => .bad
  | _ => .bad
def rng (lo : Int) (n : Nat) : List U := (List.range n).map fun i : Nat => .int (lo + (i : Int))
@[simp] theorem rng_len (lo : Int) (n : Nat) : (rng lo n).length = n := by simp [rng]
@[simp] def mRange1 (r : ME (List U)) : ME IT := fun ρ S => (r ρ S).bind fun us S1 => match us with
  | [.int j] => if -(2 ^ 62) ≤ j ∧ j < 2 ^ 62 then .ok ⟨rng 0 j.toNat, none⟩ S1 else .bad
  | _ => .bad
@[simp] def mRange2 (r : ME (List U)) : ME IT := fun ρ S => (r ρ S).bind fun us S1 => match us with
  | [.int i, .int j] => if (-(2 ^ 62) ≤ i ∧ i < 2 ^ 62) ∧ -(2 ^ 62) ≤ j ∧ j < 2 ^ 62 then .ok ⟨rng i (j - i).toNat, none⟩ S1 else .bad
  | _ => .bad
def vIt (K : PySem.W.Frag) (x : V) (H : Hp) (R : It → Hp → Prop) : Prop :=
  (∃ a xs, x = .ref a ∧ SqL K H a xs ∧ R (Itl K a) H) ∨ (∃ a xs, x = .ref a ∧ SqT K H a xs ∧ R (Itt K a) H) ∨ (∃ z, x = .str z ∧ R (Its z) H)
def uIt (K : PySem.W.Frag) (tl : TE) : TI := fun σ H R => tl σ H fun x H1 => vIt K x H1 R
theorem u_it {X : Cx} {tg e : Expr} {te : TE} (he : PE X e te) : PI X tg e (uIt X.K te) := by
  refine ⟨fun pins s σ H R I h => ?_⟩
  refine thn (he.run pins s σ H _ I h) fun v s1 ⟨y, H1, I1, r1, q⟩ => ?_
  rcases q with ⟨a, xs, rfl, hq, q⟩ | ⟨a, xs, rfl, hq, q⟩ | ⟨z, rfl, q⟩
  · cases r1
    obtain ⟨its, rv, p, hz⟩ := I1.list hq
    exact wpAny_pyIter_list p.isList (pi_one (tk := s1.toks) I1 _ (turn_list a _) ⟨_, Heap.get?_push_size _ rfl, rfl, rfl⟩ q)
  · cases r1
    obtain ⟨its, rv, p, hz⟩ := I1.tuple hq
    exact wpAny_pyIter_tuple (show s1.heap.IsTuple a its.toArray from p) (pi_one (tk := s1.toks) I1 _ (turn_tuple a _) ⟨_, Heap.get?_push_size _ rfl, rfl, rfl⟩ q)
  · obtain ⟨t, rfl⟩ := r1
    cases ha : z.cps.all (· < 128)
    · exact wpAny_pyIter_wide ha (pi_one (tk := s1.toks) I1 _ (turn_str _ z t "str_iterator" (.inr rfl)) ⟨_, Heap.get?_push_size _ rfl, rfl, rfl⟩ q)
    · exact wpAny_pyIter_ascii ha (pi_one (tk := s1.toks) I1 _ (turn_str _ z t "str_ascii_iterator" (.inl rfl)) ⟨_, Heap.get?_push_size _ rfl, rfl, rfl⟩ q)
section
variable {ω : Om} {E : WX} {K : PySem.W.Frag} {g : Gd} {H : Hp} {ma : ME U} {mr : ME (List U)}
theorem Cor.noop {g : Gd} {H : Hp} {S : Sto} (k : Cor g H S) {d : U} {v : V} (r : Rp g d v) {P : Prop} (h : P) : P := h
theorem dv_list {a : Addr} {vs : List V} {us : List U} (ha : g.F a = some (.lst vs)) (r : Rps g us vs) : DrvU (Itl K a) g H ⟨us, none⟩ where
  go := fun i g' H' S' x c _ l => ⟨vs, vs[i]'(by rw [r.len]; exact l), SqL.of (c.fh a _ (x.x.ff a _ ha)), List.getElem?_eq_getElem _⟩
  yl := fun i g' H' S' v H2 x c _ l y => by
    obtain ⟨e, y2⟩ := y
    have e2 := y2 vs (SqL.of (c.fh a _ (x.x.ff a _ ha)))
    obtain ⟨d, e3, r3⟩ := r.got e2
    rw [e]
    exact ⟨g', d, c.rfl_, c, e3, x.rp r3⟩
  st := fun i g' H' S' x c _ l => ⟨vs, SqL.of (c.fh a _ (x.x.ff a _ ha)), by rw [r.len]; exact l⟩
theorem dv_tup {a : Addr} {vs : List V} {us : List U} (ha : g.F a = some (.tup vs)) (r : Rps g us vs) : DrvU (Itt K a) g H ⟨us, none⟩ where
  go := fun i g' H' S' x c _ l => ⟨vs, vs[i]'(by rw [r.len]; exact l), SqT.of (c.fh a _ (x.x.ff a _ ha)), List.getElem?_eq_getElem _⟩
  yl := fun i g' H' S' v H2 x c _ l y => by
    obtain ⟨e, y2⟩ := y
    have e2 := y2 vs (SqT.of (c.fh a _ (x.x.ff a _ ha)))
    obtain ⟨d, e3, r3⟩ := r.got e2
    rw [e]
    exact ⟨g', d, c.rfl_, c, e3, x.rp r3⟩
  st := fun i g' H' S' x c _ l => ⟨vs, SqT.of (c.fh a _ (x.x.ff a _ ha)), by rw [r.len]; exact l⟩
theorem dv_cel {a : Addr} {n : Nat} {us : List U} (ha : g.al[n]? = some a) : DrvU (Itl K a) g H ⟨us, some n⟩ where
  go := fun i g' H' S' x c k l => by
    obtain ⟨us', e, rfl⟩ := k
    obtain ⟨vs, e2, hr⟩ := c.get (x.ix n a ha) e
    exact ⟨vs, vs[i]'(by rw [hr.len]; exact l), SqL.of e2, List.getElem?_eq_getElem _⟩
  yl := fun i g' H' S' v H2 x c k l y => by
    obtain ⟨us', e0, rfl⟩ := k
    obtain ⟨vs, e2, hr⟩ := c.get (x.ix n a ha) e0
    obtain ⟨e, y2⟩ := y
    obtain ⟨d, e3, r3⟩ := hr.got (y2 vs (SqL.of e2))
    rw [e]
    exact ⟨g', d, c.rfl_, c, e3, r3⟩
  st := fun i g' H' S' x c k l => by
    obtain ⟨us', e, rfl⟩ := k
    obtain ⟨vs, e2, hr⟩ := c.get (x.ix n a ha) e
    exact ⟨vs, SqL.of e2, by rw [hr.len]; exact l⟩
theorem dv_str {z : Str} : DrvU (Its z) g H ⟨z.cps.toList.map fun c => .str ⟨#[c]⟩, none⟩ where
  go := fun i g' H' S' x c _ l => by dsimp only at l; simp at l; exact l
  yl := fun i g' H' S' v H2 x c _ l y => by
    obtain ⟨e, ch, e2, e3⟩ := y
    rw [e, e3]
    exact ⟨g', .str ⟨#[ch]⟩, c.rfl_, c, by rw [List.getElem?_map, Array.getElem?_toList, e2]; rfl, rp_str⟩
  st := fun i g' H' S' x c _ l => by dsimp only at l; simp at l; exact l
theorem dv_rng {lo : Int} {n : Nat} : DrvU (Itr lo n) g H ⟨rng lo n, none⟩ where
  go := fun i g' H' S' x c _ l => by dsimp only at l; simp at l; exact l
  yl := fun i g' H' S' v H2 x c _ l y => by
    obtain ⟨e, e2⟩ := y
    rw [e, e2]
    have l' : i < n := by simpa using l
    exact ⟨g', .int (lo + i), c.rfl_, c, by unfold rng; rw [List.getElem?_map, List.getElem?_range l']; rfl, rp_int⟩
  st := fun i g' H' S' x c _ l => by dsimp only at l; simp at l; exact l
theorem si_it : ∀ σ H R, rdI ω E (mIt ma) σ H R → uIt K (rdE ω E ma) σ H R := fun σ H R h => by
  refine (rdI_bind (R := Rp) (m := ma) (kk := fun ρ x S1 => match x with
    | .lst us => .ok ⟨us, none⟩ S1
    | .tup us => .ok ⟨us, none⟩ S1
    | .str z => .ok ⟨z.cps.toList.map fun c => .str ⟨#[c]⟩, none⟩ S1
    | .cel n => match S1[n]? with
      | some (.lst us) => .ok ⟨us, some n⟩ S1
      | _ => .bad
    | _ => .bad) h).mono ?_
  rintro x H1 ⟨g1, ρ, S1, d, a1, r1, w1⟩
  cases d with
  | lst us =>
    obtain ⟨a, vs, rfl, ha, hr⟩ := r1.of_lst
    exact Or.inl ⟨a, vs, rfl, SqL.of (a1.c.fh a _ ha), w1 _ _ _ a1.c.rfl_ a1.c (dv_list ha hr)⟩
  | tup us =>
    obtain ⟨a, vs, rfl, ha, hr⟩ := r1.of_tup
    exact Or.inr (Or.inl ⟨a, vs, rfl, SqT.of (a1.c.fh a _ ha), w1 _ _ _ a1.c.rfl_ a1.c (dv_tup ha hr)⟩)
  | str z =>
    rw [r1.of_str]
    exact Or.inr (Or.inr ⟨z, rfl, w1 _ _ _ a1.c.rfl_ a1.c dv_str⟩)
  | cel n =>
    obtain ⟨a, ha, rfl⟩ := r1.of_cel
    dsimp only at w1
    split at w1
    · rename_i us e
      obtain ⟨vs, e2, hr⟩ := a1.c.get ha e
      exact Or.inl ⟨a, vs, rfl, SqL.of e2, w1 _ _ _ a1.c.rfl_ a1.c (dv_cel ha)⟩
    · exact w1.elim
  | _ => exact w1.elim
theorem si_range1 : ∀ σ H R, rdI ω E (mRange1 mr) σ H R → iRng1 (rdA ω E mr) σ H R := fun σ H R h => by
  refine (rdI_bind (R := Rps) (m := mr) (kk := fun ρ us S1 => match us with
    | [.int j] => if -(2 ^ 62) ≤ j ∧ j < 2 ^ 62 then .ok ⟨rng 0 j.toNat, none⟩ S1 else .bad
    | _ => .bad) h).mono ?_
  rintro x H1 ⟨g1, ρ, S1, d, a1, r1, w1⟩
  split at w1
  · rename_i j
    split at w1
    · rename_i h
      obtain ⟨v, ws, rfl, q1, q2⟩ := r1.of_cons
      rw [q2.of_nil, q1.of_int]
      exact ⟨j, rfl, h.1, h.2, w1 _ _ _ a1.c.rfl_ a1.c dv_rng⟩
    · exact w1.elim
  · exact w1.elim
theorem si_range2 : ∀ σ H R, rdI ω E (mRange2 mr) σ H R → iRng2 (rdA ω E mr) σ H R := fun σ H R h => by
  refine (rdI_bind (R := Rps) (m := mr) (kk := fun ρ us S1 => match us with
    | [.int i, .int j] => if (-(2 ^ 62) ≤ i ∧ i < 2 ^ 62) ∧ -(2 ^ 62) ≤ j ∧ j < 2 ^ 62 then .ok ⟨rng i (j - i).toNat, none⟩ S1 else .bad
    | _ => .bad) h).mono ?_
  rintro x H1 ⟨g1, ρ, S1, d, a1, r1, w1⟩
  split at w1
  · rename_i i j
    split at w1
    · rename_i h
      obtain ⟨v, ws, rfl, q1, q2⟩ := r1.of_cons
      obtain ⟨v2, ws2, rfl, q3, q4⟩ := q2.of_cons
      rw [q4.of_nil, q1.of_int, q3.of_int]
      exact ⟨i, j, rfl, ⟨h.1.1, h.1.2, h.2.1, h.2.2⟩, w1 _ _ _ a1.c.rfl_ a1.c dv_rng⟩
    · exact w1.elim
  · exact w1.elim
end
end Z

namespace PySem
namespace ZX
open PySem.W PySem.Calls PyProof.Rows PySem.HandSPX Builtin Builtin.ObjectAttr
section
variable {prog : Program} {w : World} {A : Around} {E : Value → Shared → Prop} {R : Result → Shared → Prop} {h hp : Heap} {g : Array GenState} {d : Drawn} {t : Nat} {os : OsState}
variable {nm q : Str} {C N : Addr} {bs bm bmB : List Value} {hdct : Bool} {sn : List Str} {sub : List Value} {ab : Bool} {col : Option Bool} {dd : Option Addr} {k0 k1 k2 k3 k5 : Option Value} {B newId initId : String}
/-- Base.__init__(e, ..): the args are laid anew -/
theorem init_baseT (F : ExcBaseFacts B newId initId bmB) (hT : ∀ X : String, bm.contains (.type X) = bmB.contains (.type X)) {e t0 : Addr} {rest : List Value}
    (hC : h.get? C = some (excClassObj nm q C N bs bm hdct sn sub ab col dd k0 k1 k2 k3 k5 newId)) (he : h.get? e = some (excO C t0)) (hrest : rest.length ≤ sizeLine)
    (hq : ∀ h' t1, (∀ b o, b ≠ e → h.get? b = some o → h'.get? b = some o) → h'.get? e = some (excO C t1) → h.objs.size ≤ t1 → h'.get? t1 = some (W.kdv_tup rest) → R (.ok (.ret .none)) ⟨h', g, d, t, os⟩) :
    codeAny (model prog w) A (.call (.builtin initId) ⟨.ref e :: rest, []⟩) R ⟨h, g, d, t, os⟩ := by
  refine codeAny_call_builtin F.init.plain F.initEntry (check_init_own F hT hC he rfl ?_)
  wp_walk
  have hlt := Heap.lt_size he
  refine hq _ h.objs.size (fun b o hb ho => ?_) ?_ (Nat.le_refl _) ?_
  · rw [Heap.get?_update_other _ _ (Ne.symm hb)]
    exact Heap.get?_push_of_some _ ho
  · rw [Heap.get?_update_self _ (Heap.get?_push_of_some _ he) rfl]
    rfl
  · rw [Heap.get?_update_other _ _ (Nat.ne_of_lt hlt)]
    exact Heap.get?_push_at rfl rfl
/-- the first attribute of an exception, any base -/
theorem exc_osaB {K : W.Frag} {name : Str} {tk : Tok} {v : Value} {x C : Addr} {fv : Array Value} {cd : ClassData}
    (X : K.In hp) (hx : hp.get? x = some { cls := .ref C, data := .fields fv }) (hcd : W.clsIn K C = some cd) (ne : cd.mro.isEmpty = false) (hob : cd.mro.contains (.type "object") = true) (hps : ∀ self, refuseLoop self "__setattr__" cd.mro = pure ()) (hh : cd.hasDict = true) (ha : W.findIn K (.ref C) name = some none)
    (hq : ∀ h' tk' dx, (∀ b o, b ≠ x → hp.get? b = some o → h'.get? b = some o) → hp.objs.size ≤ dx → dx ≠ x → h'.get? x = some { cls := .ref C, dict := some dx, data := .fields fv } →
      h'.Ns1 dx (fun y => if y = name then some v else none) → R (.ok (.ret .none)) ⟨h', g, d, tk', os⟩) :
    codeAny (model prog w) A (.call (.builtin "object.__setattr__") ⟨[.ref x, .str name tk, v], []⟩) R ⟨hp, g, d, t, os⟩ := by
  have I : W.InstAt hp x { cls := .ref C, data := .fields fv } C none := ⟨hx, rfl, rfl, trivial⟩
  have SF := F.store_object
  have hxs : x ≠ hp.objs.size := Nat.ne_of_lt (Heap.lt_size hx)
  have sub : W.Looks (model prog w) hp (isInstance (.ref x) (.type "object")) true := I.type.andThen (W.looks_mroIn X (by unfold W.mroIn; rw [hcd, Option.bind_some, if_neg (by rw [ne]; decide), hob]))
  refine codeAny_call_builtin SF.slot.plain SF.entry (@W.check_slot (model prog w) _ _ ⟨hp, g, d, t, os⟩ "object.__setattr__" "object" "__setattr__" (.ref x) [.str name tk, v] [] _ SF.kind SF.split sub (SF.args (.ref x) (.str name tk) v) ?_)
  have hmr : W.Looks (model prog w) hp (mroOf (.ref C)) cd.mro := (W.looks_clsIn X hcd).andThen .now
  have L3 : W.Looks (model prog w) hp (storeTaker? none) none := .now
  have hcls : W.Looks (model prog w) hp (classData C) cd := W.looks_clsIn X hcd
  rw [W.osa_eq, refuse_eq]
  refine wpAny_bind (wpAny_bind (I.type.at (wpAny_bind (hmr.at ?_))))
  rw [hps]
  refine wpAny_pure (wpAny_bind (I.type.at (wpAny_bind ((W.looks_findIn X ha).at (wpAny_bind (L3.at ?_))))))
  show wpAny _ _ (storeInOwnDict (.ref x) (.ref C) (.str name tk) name v false) _ _ _
  obtain ⟨nm, bs, mro, ns, qn, hd, sn, sb, ab, col, del⟩ := cd
  dsimp only at hh
  subst hh
  unfold storeInOwnDict ownDictForStores
  repeat (first | with_reducible refine store_in_new ?_ ?_ | with_reducible refine wpAny_loadPart_at hx ?_ | with_reducible refine hcls.at ?_ | wp_step)
  · exact ⟨_, #[], _, (Heap.get?_update_ne _ _ _ _ hxs.symm).trans (Heap.get?_push_at rfl rfl), rfl, fun e he => absurd he (by simp), fun _ => rfl⟩
  · intro h' tk' hn' hs
    have hx₁ : (hp.push { cls := .type "dict", data := .dict #[] }).get? x = some { cls := .ref C, data := .fields fv } := Heap.get?_push_of_some _ hx
    refine hq h' tk' hp.objs.size (fun b o hb ho => ?_) (Nat.le_refl _) hxs.symm ?_ hn'
    · exact (hs.2 b (Nat.ne_of_lt (Heap.lt_size ho))).trans ((Heap.get?_update_ne _ _ _ _ hb).trans (Heap.get?_push_of_some _ ho))
    · exact (hs.2 x hxs).trans (Heap.get?_update_self _ hx₁ rfl)
/-- classes of the program ahead of a chain that passes -/
def refsTo (l : List Value) : List Value → Bool
  | .ref _ :: r => refsTo l r
  | r => r == l
theorem refsTo_cases {l : List Value} : ∀ m : List Value, refsTo l m = true → (∃ c r, m = .ref c :: r ∧ refsTo l r = true) ∨ m = l
  | [], e => .inr (beq_iff_eq.mp e)
  | v :: r, e => by
    cases v with
    | ref c => exact .inl ⟨c, r, rfl, e⟩
    | _ => exact .inr (beq_iff_eq.mp e)
theorem refsTo_pass {l : List Value} (self : Value) (hl : refuseLoop self "__setattr__" l = pure ()) : ∀ m : List Value, refsTo l m = true → refuseLoop self "__setattr__" m = pure () := by
  intro m
  induction m with
  | nil =>
    intro e
    rcases refsTo_cases _ e with ⟨c, r, h, _⟩ | h
    · cases h
    · rw [h]; exact hl
  | cons v r ih =>
    intro e
    rcases refsTo_cases _ e with ⟨c, r', h, h2⟩ | h
    · obtain ⟨rfl, rfl⟩ := List.cons.inj h
      rw [refuseLoop_ref]; exact ih h2
    · rw [h]; exact hl
theorem refsTo_contains {l : List Value} (X : String) : ∀ m : List Value, refsTo l m = true → m.contains (.type X) = l.contains (.type X) := by
  intro m
  induction m with
  | nil =>
    intro e
    rcases refsTo_cases _ e with ⟨c, r, h, _⟩ | h
    · cases h
    · rw [h]
  | cons v r ih =>
    intro e
    rcases refsTo_cases _ e with ⟨c, r', h, h2⟩ | h
    · obtain ⟨rfl, rfl⟩ := List.cons.inj h
      rw [List.contains_cons, ih h2]; rfl
    · rw [h]
end
abbrev veT : List Value := [.type "ValueError", .type "Exception", .type "BaseException", .type "object"]
abbrev leT : List Value := [.type "LookupError", .type "Exception", .type "BaseException", .type "object"]
theorem ve_pass (self : Value) : refuseLoop self "__setattr__" veT = pure () := refsVE_pass self veT (by decide +kernel)
theorem le_pass (self : Value) : refuseLoop self "__setattr__" leT = pure () := by
  first | rfl | kernel_rfl
end ZX
end PySem
namespace Z
open PySem PySem.Spec PyProof.Rows L2

/-! ### what the written part says of such a class -/
structure OxC (K : PySem.W.Frag) (C : Addr) (B newId initId : String) (bmB : List Value) : Prop where
  F : ExcBaseFacts B newId initId bmB
  ps : ∀ self, refuseLoop self "__setattr__" bmB = pure ()
  ob : bmB.contains (.type "object") = true
  cls : ∃ nm q N bs bm sn sub ab col dd k0 k1 k2 k3 k5, K.lookup C = some (excClassObj nm q C N bs bm true sn sub ab col dd k0 k1 k2 k3 k5 newId) ∧ ZX.refsTo bmB bm = true
  sa : PySem.W.findIn K (.ref C) "__setattr__" = some (some (.builtin "object.__setattr__"))
  exC : PySem.W.subIn K (.ref C) (.type "BaseException") = some true
  tyC : PySem.W.typeIn K (.ref C) = some (.type "type")
  kC : PySem.W.keepIn K (.ref C) = true
theorem exv_own {C t a x : Addr} {d : Option Addr} : exv C t d a ≠ .own x := fun z => by
  have z' : HO.ext _ = HO.own x := z
  cases z'
theorem exv_frz {C t a : Addr} {d : Option Addr} {o : Obj} {u : HO} : exv C t d a ≠ .frz o u := fun z => by
  have z' : HO.ext _ = HO.frz o u := z
  cases z'
theorem exv_tbl {C t a : Addr} {d : Option Addr} {ps : Array Value} : exv C t d a ≠ .tbl ps := fun z => by
  have z' : HO.ext _ = HO.tbl ps := z
  cases z'
section
variable {X : Cx} {pins : List (Addr × Obj)} {σ : L2.St} {H : Hp} {s : Shared} {a C dx t0 : Addr} {f : Str} {y : V} {u : Value} {A : Around} {E : Value → Shared → Prop} {B newId initId : String} {bmB : List Value}
/-- Base.__init__(self, text) -/
theorem binit_ok {tx : Str} {tk : Tok} {Q : Value → Shared → Prop} (T : OxC X.K C B newId initId bmB) (I : Inv X pins σ H s) (e : H a = some (exv C t0 none a))
    (h : ∀ t1 s', H t1 = none → t1 ≠ a → Inv X pins σ (upd (upd H t1 (.tup [.str tx])) a (exv C t1 none a)) s' → Q .none s') :
    wpAny (model X.prog X.w) A (call (.builtin initId) [.ref a, .str tx tk]) Q E s := by
  obtain ⟨nm, q, N, bs, bm, sn, sub, ab, col, dd, k0, k1, k2, k3, k5, hC, hbm⟩ := T.cls
  have ho := exv_get (I.hok a _ e)
  obtain ⟨hp, g, d, t, os⟩ := s
  refine wpAny_call (ZX.init_baseT (rest := [.str tx tk]) T.F (fun Y => ZX.refsTo_contains Y bm hbm) (I.kIn _ _ hC) ho (by show 1 ≤ sizeLine; rw [sizeLine_eq]; decide) fun h' t1 k hx dn ht => ?_)
  have hnd : H t1 = none := I.hok.fresh dn
  have dne : t1 ≠ a := Ne.symm (Nat.ne_of_lt (Nat.lt_of_lt_of_le (Heap.lt_size ho) dn))
  have nd : ∀ {b : Addr} {o : Obj}, hp.get? b = some o → b ≠ t1 := fun {b o} q => Nat.ne_of_lt (Nat.lt_of_lt_of_le (Heap.lt_size q) dn)
  have na : ∀ {b : Addr}, H b = none → b ≠ a := fun {b} n z => by
    rw [z, e] at n
    cases n
  have Un1 : Un X.fs [] H (upd (upd H t1 (.tup [.str tx])) a (exv C t1 none a)) hp h' := {
    keep := fun b o q n _ _ => k b o (na n) q
    slot := fun b o q n _ _ => ⟨o.slots, k b o (na n) q⟩
    free := fun b o q n _ => by rw [upd_ne (na n), upd_ne (nd q)]; exact n
    there := fun b o q _ => by
      by_cases hb : b = a
      · exact ⟨_, by rw [hb]; exact hx⟩
      · exact ⟨o, k b o hb q⟩
    tups := fun b xs q => by rw [upd_ne (at_ne e q exv_tup), upd_ne (ne_of_none q hnd)]; exact q
    frzs := fun b o v q => by rw [upd_ne (at_ne e q exv_frz), upd_ne (ne_of_none q hnd)]; exact q
    tbls := fun b ps q => ⟨#[], by rw [upd_ne (at_ne e q exv_tbl), upd_ne (ne_of_none q hnd), q]; simp⟩ }
  refine h t1 _ hnd dne (I.un (t' := t) Un1 fun b o q => ?_)
  by_cases hb : b = a
  · subst hb
    rw [upd_same] at q
    cases q
    exact exv_ok hx
  · rw [upd_ne hb] at q
    by_cases hd : b = t1
    · subst hd
      rw [upd_same] at q
      cases q
      exact ⟨by show 1 ≤ sizeLine; rw [sizeLine_eq]; decide, [.str tx tk], .cons ⟨tk, rfl⟩ .nil, ⟨_, ht, rfl, _, rfl⟩⟩
    · rw [upd_ne hd] at q
      exact (I.hok b o q).stay (fun c v hc z => k c v (by
          rcases hc with hc | hc
          · rw [hc]
            exact hb
          · exact at_ne e hc exv_own) z)
        (fun c hc => by rw [upd_ne (at_ne e hc exv_own), upd_ne (ne_of_none hc hnd)]; exact hc) (fun c xs hc => by rw [upd_ne (at_ne e hc exv_tup), upd_ne (ne_of_none hc hnd)]; exact hc)
/-- self.f = y, the first one -/
theorem ost_first {Q : Unit → Shared → Prop} (T : OxC X.K C B newId initId bmB) (I : Inv X pins σ H s) (e : H a = some (exv C t0 none a)) (hno : PySem.W.findIn X.K (.ref C) f = some none) (ry : RelV y u)
    (h : ∀ dx s', H dx = none → dx ≠ a → Inv X pins σ (upd (upd H dx (.xd [(f, y)])) a (exv C t0 (some dx) a)) s' → Q () s') : wpAny (model X.prog X.w) A (setAttr (.ref a) f u) Q E s := by
  obtain ⟨nm, q, N, bs, bm, sn, sub, ab, col, dd, k0, k1, k2, k3, k5, hC, hbm⟩ := T.cls
  have hcl : PySem.W.clsIn X.K C = some { name := nm, bases := bs, mro := .ref C :: bm, ns := N, qualname := q, hasDict := true, slotNames := sn, subclasses := sub, abstract := ab, collection := col, hasDel := false } := by unfold PySem.W.clsIn; rw [hC] <;> rfl
  have ho := exv_get (I.hok a _ e)
  obtain ⟨hp, g, d, t, os⟩ := s
  refine PySem.W.set_plain I.kIn (ox := { cls := .ref C, dict := none, data := .fields #[.ref t0, .none, .none, .none, .bool false, .none] }) (od := none) ⟨ho, rfl, rfl, trivial⟩ T.sa ?_
  have hbm' : ZX.refsTo bmB (.ref C :: bm) = true := hbm
  refine ZX.exc_osaB I.kIn ho hcl rfl ((ZX.refsTo_contains "object" _ hbm').trans T.ob) (fun self => ZX.refsTo_pass self (T.ps self) _ hbm') rfl hno (fun h' tk' dx k dn dne hx hn => ?_)
  have hnd : H dx = none := I.hok.fresh dn
  have nd : ∀ {b : Addr} {o : Obj}, hp.get? b = some o → b ≠ dx := fun {b o} q => Nat.ne_of_lt (Nat.lt_of_lt_of_le (Heap.lt_size q) dn)
  have na : ∀ {b : Addr}, H b = none → b ≠ a := fun {b} n z => by
    rw [z, e] at n
    cases n
  have Un1 : Un X.fs [] H (upd (upd H dx (.xd [(f, y)])) a (exv C t0 (some dx) a)) hp h' := {
    keep := fun b o q n _ _ => k b o (na n) q
    slot := fun b o q n _ _ => ⟨o.slots, k b o (na n) q⟩
    free := fun b o q n _ => by rw [upd_ne (na n), upd_ne (nd q)]; exact n
    there := fun b o q _ => by
      by_cases hb : b = a
      · exact ⟨_, by rw [hb]; exact hx⟩
      · exact ⟨o, k b o hb q⟩
    tups := fun b xs q => by rw [upd_ne (at_ne e q exv_tup), upd_ne (ne_of_none q hnd)]; exact q
    frzs := fun b o v q => by rw [upd_ne (at_ne e q exv_frz), upd_ne (ne_of_none q hnd)]; exact q
    tbls := fun b ps q => ⟨#[], by rw [upd_ne (at_ne e q exv_tbl), upd_ne (ne_of_none q hnd), q]; simp⟩ }
  refine h dx _ hnd dne (I.un (t' := tk') Un1 fun b o q => ?_)
  by_cases hb : b = a
  · subst hb
    rw [upd_same] at q
    cases q
    exact exv_ok hx
  · rw [upd_ne hb] at q
    by_cases hd : b = dx
    · subst hd
      rw [upd_same] at q
      cases q
      exact ⟨_, hn, relO_put (fs := []) ry fun g => True.intro⟩
    · rw [upd_ne hd] at q
      exact (I.hok b o q).stay (fun c v hc z => k c v (by
          rcases hc with hc | hc
          · rw [hc]
            exact hb
          · exact at_ne e hc exv_own) z)
        (fun c hc => by rw [upd_ne (at_ne e hc exv_own), upd_ne (ne_of_none hc hnd)]; exact hc) (fun c xs hc => by rw [upd_ne (at_ne e hc exv_tup), upd_ne (ne_of_none hc hnd)]; exact hc)
end

/-! ### __init__ -/
/-- Base.__init__(self, text), Base a class of the program -/
def tBI (K : PySem.W.Frag) (B newId initId : String) (bmB : List Value) (ta : TA) : TE := fun σ H Q => ta σ H fun vs H1 => ∃ (a C t0 : Addr) (tx : Str), vs = [.ref a, .str tx] ∧ OxC K C B newId initId bmB ∧ H1 a = some (exv C t0 none a) ∧
  ∀ t1, H1 t1 = none → t1 ≠ a → Q .non (upd (upd H1 t1 (.tup [.str tx])) a (exv C t1 none a))
def tOF (K : PySem.W.Frag) (B newId initId : String) (bmB : List Value) (f : Str) (to te : TE) : TS := fun D σ H => te σ H fun y H1 => to σ H1 fun x H2 => ∃ a C t0 : Addr, x = .ref a ∧ OxC K C B newId initId bmB ∧ PySem.W.findIn K (.ref C) f = some none ∧
  H2 a = some (exv C t0 none a) ∧ ∀ dx, H2 dx = none → dx ≠ a → D.nx σ (upd (upd H2 dx (.xd [(f, y)])) a (exv C t0 (some dx) a))
/-- what the written part says of the base -/
structure BaseC (K : PySem.W.Frag) (Cb : Addr) (initId : String) : Prop where
  ga : PySem.W.specialIn K (.ref Cb) "__getattribute__" = some (some (.builtin "type.__getattribute__"))
  rd : PySem.W.readsIn K Cb (.type "type") = true
  ini : PySem.W.findCls K (.ref Cb) (.type "type") "__init__" = some (.val (.builtin initId))
section
variable {X : Cx} {o e : Expr} {es : List Expr} {to te : TE} {ta : TA} {f x : Str} {p p' p1 p2 pos : Pos} {B newId initId : String} {bmB : List Value}
theorem pe_binit {Cb : Addr} {pl : Sem Bool} (hg : Gl X x) (hm : X.mg x = some (.ref Cb)) (T : BaseC X.K Cb initId) (hi : PySem.W.handedIn (.builtin initId) = true) (ha : PA X (e :: es) ta) (hdb : (x == ("__debug__" : Str)) = false := by decide)
    (hc : eval (.Call (.Attribute (.Name x p1) "__init__" p2) (e :: es) [] pos) X.env = (do
      let ov ← eval (.Name x p1) X.env
      standAt p2.atName
      let (f, first) ← holding [ov] (getMethod ov "__init__" pl)
      callWith pos f first (backTo pos (starEach (e :: es) X.env)) (backToKw pos (keywordEach [] X.env))) := by rfl)
    (he : starEach (e :: es) X.env = (false, eval e X.env) :: starEach es X.env := by rfl) (hpl : (backTo pos (starEach es X.env)).any (·.1) = false := by rfl) :
    PE X (.Call (.Attribute (.Name x p1) "__init__" p2) (e :: es) [] pos) (tBI X.K B newId initId bmB ta) := by
  refine ⟨fun pins s σ H Q I h => ?_⟩
  refine PySem.W.methodCall_KW (ld_glob I hg hm ?_ hdb) hc
  refine PySem.W.method_cls I.kIn T.ga (PySem.W.cls_value I.kIn T.rd T.ini hi ?_)
  show wpAny _ _ (callWith pos (Value.builtin initId) [] (backTo pos (starEach (e :: es) X.env)) []) _ _ _
  refine PyProof.Rows.callWith_method1 (thn (ha.run pos pins _ σ H _ (I.tok _) h) fun us s1 ⟨vs, H1, I1, r1, a, C, t0, tx, ev, T, ea, q⟩ => ?_) he hpl
  subst ev
  obtain ⟨u1, u2, rfl, ra, tk, rfl⟩ := vals2 r1
  obtain rfl : u1 = Value.ref a := ra
  exact binit_ok T I1 ea fun t1 s' h1 h2 J => ⟨.non, _, J, rfl, q t1 h1 h2⟩
theorem ps_ofirst (ho : PE X o to) (he : PE X e te) (hs : swapsWith e (some (.Attribute o f p')) pos.line X.env = pure false := by rfl) : PS X (.Assign [.Attribute o f p'] e pos) (tOF X.K B newId initId bmB f to te) := by
  refine ⟨fun pins s σ H D I h => ?_⟩
  refine plainObj_wpAny_Assign_Attribute (thn (he.run pins s σ H _ I h) fun v s1 ⟨y, H1, I1, r1, q1⟩ => thn (ho.run pins s1 σ H1 _ I1 q1) fun u s2 ⟨x, H2, I2, r2, a, C, t0, ex, T, hno, ea, q⟩ => ?_) hs
  subst ex
  obtain rfl : u = Value.ref a := r2
  exact ost_first T I2 ea hno r1 fun dx s' n ne J => ⟨σ, _, J, q dx n ne⟩
end
/-- __init__(self, v) of the class at C -/
def spInit (C : Addr) (tx f : Str) : Sp := fun vs H Q _ => ∃ (a t0 : Addr) (v : V), vs = [.ref a, v] ∧ H a = some (exv C t0 none a) ∧
  ∀ t dx, H t = none → H dx = none → t ≠ dx → t ≠ a → dx ≠ a → Q .non (upd (upd (upd H t (.tup [.str tx])) dx (.xd [(f, v)])) a (exv C t (some dx) a))
theorem init_by {W : Wd} {q : Str} {st : Stmt} {fi : Addr} {fd : FuncData} {C : Addr} {tx f pn : Str} {B newId initId : String} {bmB : List Value} (D : Df W "__init__" q st fi fd) (S : FnScope ["self", pn] ["self", pn] (defScope st)) (T : OxC W.K C B newId initId bmB)
    (hf : PySem.W.findIn W.K (.ref C) f = some none)
    (hb : ∀ (cd : Value) (A : Around) (out : List PySem.Env) (s : Shared) (H : Hp) (E : XK), PSs (cx W ["self", pn] q (defScope st) fi cd A out s H E) (defBody st)
      (tSeq (tDrop (tBI W.K B newId initId bmB (tCons (tVar 0) (tCons (tC (.str tx)) tNil)))) (tOF W.K B newId initId bmB f (tVar 0) (tVar 1)))) : Fn W 1 fi fd ["self", pn] (spInit C tx f) := by
  refine fn_by D S (fun vs H Q E h => ?_) (fun cd A out s H vs Q E hr h => ?_)
  · obtain ⟨a, t0, v, rfl, _⟩ := h; rfl
  obtain ⟨a, t0, v, rfl, ha, q⟩ := h
  refine ⟨_, hb cd A out s H E, ?_⟩
  refine ⟨.ref a, rfl, a, C, t0, tx, rfl, T, ha, fun t1 h1 h2 => ⟨v, rfl, .ref a, rfl, a, C, t1, rfl, T, hf, upd_same, fun dx h3 h4 => ?_⟩⟩
  rw [upd_ne h4] at h3
  by_cases e : dx = t1
  · rw [e, upd_same] at h3; cases h3
  · rw [upd_ne e] at h3
    have q2 := q t1 dx h1 h3 (Ne.symm e) h2 h4
    have eq : upd (upd (upd (upd H t1 (.tup [.str tx])) a (exv C t1 none a)) dx (.xd [(f, v)])) a (exv C t1 (some dx) a) = upd (upd (upd H t1 (.tup [.str tx])) dx (.xd [(f, v)])) a (exv C t1 (some dx) a) := by
      funext b
      by_cases z : b = a
      · rw [z, upd_same, upd_same]
      · rw [upd_ne z, upd_ne z]
        by_cases y : b = dx
        · rw [y, upd_same, upd_same]
        · rw [upd_ne y, upd_ne y, upd_ne z]
    show Q .non _
    rw [eq]
    exact q2

/-! ### an exception is made -/
/-- what a caller knows of an exception class with its own __init__ of one argument -/
structure MkX (W : Wd) (k : Nat) (x : Str) (C : Addr) (tx f : Str) : Prop where
  ex : ∃ (fi : Addr) (fd : FuncData) (ps : List Str) (B newId initId : String) (bmB : List Value), Fn W k fi fd ps (spInit C tx f) ∧ OxC W.K C B newId initId bmB ∧ PySem.W.findIn W.K (.ref C) "__init__" = some (some (.ref fi)) ∧ PySem.W.typeIn W.K (.ref fi) = some (.type "function") ∧
    W.mg x = some (.ref C) ∧ (∀ (s : Shared) (u v : Value), BindsTo s fd ⟨[u, v], []⟩ (ps.zip [u, v]))
section
variable {X : Cx} {k j : Nat} {x tx f : Str} {C : Addr} {e : Expr} {te : TE} {p pos : Pos}
/-- an object of ours may be forgotten, and the heap read without it -/
theorem Inv.forget {pins : List (Addr × Obj)} {σ : L2.St} {H : Hp} {s : Shared} {a : Addr} {φ : Heap → Prop} (I : Inv X pins σ H s) (ha : H a = some (.ext φ)) (n0 : X.s_0.heap.get? a = none) :
    ∃ G : Heap, (∀ b o, G.get? b = some o → s.heap.get? b = some o) ∧ G.get? a = none ∧ Inv X pins σ (delH H a) { s with heap := G } := by
  obtain ⟨G, g1, g2⟩ := restrict s.heap fun b => decide (b ≠ a)
  have gk : ∀ b o, b ≠ a → s.heap.get? b = some o → G.get? b = some o := fun b o hb e => by
    rw [g1 b (decide_eq_true hb)]
    exact e
  have ga : G.get? a = none := g2 a (decide_eq_false fun z => z rfl)
  have gs : ∀ b o, G.get? b = some o → s.heap.get? b = some o := fun b o e => by
    by_cases hb : b = a
    · rw [hb, ga] at e
      cases e
    · rw [← g1 b (decide_eq_true hb)]
      exact e
  have ne0 : ∀ b o, X.s_0.heap.get? b = some o → b ≠ a := fun b o e z => by
    rw [z, n0] at e
    cases e
  have neN : ∀ b, H b = none → b ≠ a := fun b e z => by
    rw [z, ha] at e
    cases e
  have neT : ∀ b xs, H b = some (.tup xs) → b ≠ a := fun b xs e z => by
    rw [z, ha] at e
    cases e
  have neF : ∀ b o u, H b = some (.frz o u) → b ≠ a := fun b o u e z => by
    rw [z, ha] at e
    cases e
  have neB : ∀ b ps, H b = some (.tbl ps) → b ≠ a := fun b ps e z => by
    rw [z, ha] at e
    cases e
  have neO : ∀ b c, H b = some (.own c) → b ≠ a := fun b c e z => by
    rw [z, ha] at e
    cases e
  have cellK : ∀ x c, X.env.cells.lookup x = some c → ∀ v, s.heap.IsCell c v → G.IsCell c v := fun x c e v ⟨o, ho, hd⟩ => ⟨o, gk c o (neN c (I.freeC x c e)) ho, hd⟩
  refine ⟨G, gs, ga, ⟨I.ok, I.os, I.bare, ⟨fun b o e n hb hq => ?_, fun b o e n hb hq => ?_, fun b o e n hq => ?_, fun b o e hq => ?_, fun b xs e => ?_, fun b o u e => ?_, fun b ps e => ?_⟩, ?_, fun x c e => ?_, ?_, fun x c e => ?_, fun p hp => ?_, fun b u e => ?_, I.len⟩⟩
  · exact gk b o (ne0 b o e) (I.base.keep b o e n hb hq)
  · obtain ⟨sl, q⟩ := I.base.slot b o e n hb hq
    exact ⟨sl, gk b _ (ne0 b o e) q⟩
  · rw [delH_ne (ne0 b o e)]
    exact I.base.free b o e n hq
  · obtain ⟨o', q⟩ := I.base.there b o e hq
    exact ⟨o', gk b o' (ne0 b o e) q⟩
  · have q := I.base.tups b xs e
    rw [delH_ne (neT b xs q)]
    exact q
  · have q := I.base.frzs b o u e
    rw [delH_ne (neF b o u q)]
    exact q
  · obtain ⟨m, q⟩ := I.base.tbls b ps e
    exact ⟨m, by rw [delH_ne (neB b _ q)]; exact q⟩
  · obtain ⟨m, ⟨o, es, ep, ho, r⟩, hl⟩ := I.loc
    refine ⟨m, ⟨o, es, ep, gk _ _ (neN _ I.free) ho, r⟩, fun i x v e1 e2 e3 => ?_⟩
    obtain ⟨u, r', l⟩ := hl i x v e1 e2 e3
    refine ⟨u, r', ?_⟩
    rcases l with l | ⟨k, c, ec, z⟩
    · exact .inl l
    · exact .inr ⟨k, c, ec, cellK x c ec _ z⟩
  · obtain ⟨v, z⟩ := I.cell x c e
    exact ⟨v, cellK x c e v z⟩
  · rw [delH_ne (neN _ I.free)]
    exact I.free
  · rw [delH_ne (neN _ (I.freeC x c e))]
    exact I.freeC x c e
  · obtain ⟨e, n, ne, nf, d⟩ := I.pin p hp
    exact ⟨gk _ _ (neN _ n) e, by rw [delH_ne (neN _ n)]; exact n, ne, nf, d⟩
  · have hb : b ≠ a := fun z => by
      rw [z, delH_same] at e
      cases e
    rw [delH_ne hb] at e
    refine (I.hok b u e).stay (fun c v hc q => gk c v ?_ q) (fun c q => ?_) fun c xs q => ?_
    · rcases hc with z | z
      · rw [z]
        exact hb
      · exact neO _ _ z
    · rw [delH_ne (neO c b q)]
      exact q
    · rw [delH_ne (neT c xs q)]
      exact q
/-- C(e): the exception is made -/
theorem mkx (c : MkX (wdOf X) k x C tx f) (hr : Rm j X.A) (hj : k + 1 ≤ j) (hg : Gl X x) (he : PE X e te) (hs : starEach [e] X.env = (false, eval e X.env) :: starEach [] X.env) (hdb : (x == ("__debug__" : Str)) = false)
    {pins : List (Addr × Obj)} {s : Shared} {σ : L2.St} {H : Hp} {R : V → Hp → Prop} (I : Inv X pins σ H s) (h : te σ H R) :
    wpAny (model X.prog X.w) X.A (eval (.Call (.Name x p) [e] [] pos) X.env) (fun u s' => ∃ (a t dx : Addr) (v : V) (H1 : Hp), u = .ref a ∧ H1 a = none ∧ H1 t = none ∧ H1 dx = none ∧ t ≠ dx ∧ t ≠ a ∧ dx ≠ a ∧ X.s_0.heap.get? a = none ∧
      Inv X pins σ (upd (upd (upd H1 t (.tup [.str tx])) dx (.xd [(f, v)])) a (exv C t (some dx) a)) s' ∧ R v H1) X.xe s := by
  obtain ⟨fi, fd, ps, B, newId, initId, bmB, F1, T, iC, tI, hm, hb⟩ := c.ex
  obtain ⟨nm, q, N, bs, bm, sn, sub, ab, col, dd, k0, k1, k2, k3, k5, hC, hbm⟩ := T.cls
  refine wpAny_Call_Name_kw (ld_glob I hg hm ?_ hdb)
  refine PySem.W.callWith_K (h₀ := X.base) I.ok.mod.kin T.kC ?_ hs (by rfl)
  rw [hs]
  show wpAny _ _ (spliced ((false, eval e X.env) :: backTo pos (starEach [] X.env))) _ _ s
  refine Calls.spliced_cons (thn (he.run pins s σ H _ I h) fun u s1 ⟨v, H1, I1, r1, q1⟩ => ?_)
  refine Calls.spliced_nil ⟨I1.kIn, ?_⟩
  show wpAny _ _ (call (.ref C) [u]) _ _ _
  obtain ⟨hp, g, dr, tk, os⟩ := s1
  have hsz : hp.objs.size ≤ hp.objs.size + 1 := Nat.le_succ _
  have hn : H1 (hp.objs.size + 1) = none := I1.hok.fresh hsz
  have kk : ∀ b o, hp.get? b = some o → ((hp.push (PySem.W.kdv_tup [u])).push (PySem.HandSPX.excO C hp.objs.size)).get? b = some o := fun b o e => Heap.get?_push_of_some _ (Heap.get?_push_of_some _ e)
  have hget : ((hp.push (PySem.W.kdv_tup [u])).push (PySem.HandSPX.excO C hp.objs.size)).get? (hp.objs.size + 1) = some (PySem.HandSPX.excO C hp.objs.size) := by heap_get
  have I2 : Inv X pins σ (upd H1 (hp.objs.size + 1) (exv C hp.objs.size none (hp.objs.size + 1))) ⟨(hp.push (PySem.W.kdv_tup [u])).push (PySem.HandSPX.excO C hp.objs.size), g, dr, tk, os⟩ :=
    I1.laid (t' := tk) (a := hp.objs.size + 1) (o := exv C hp.objs.size none (hp.objs.size + 1)) (h' := (hp.push (PySem.W.kdv_tup [u])).push (PySem.HandSPX.excO C hp.objs.size)) kk hsz (exv_ok hget)
  have n0 : X.s_0.heap.get? (hp.objs.size + 1) = none := by
    cases e0 : X.s_0.heap.get? (hp.objs.size + 1) with
    | none => rfl
    | some o =>
      exact absurd (Nat.lt_of_lt_of_le (Heap.lt_size e0) I1.sz) (Nat.not_lt.mpr (Nat.le_succ _))
  have r2 : Vals [V.ref (hp.objs.size + 1), v] [Value.ref (hp.objs.size + 1), u] := .cons rfl (.cons r1 .nil)
  have hsp : spInit C tx f [.ref (hp.objs.size + 1), v] (upd H1 (hp.objs.size + 1) (exv C hp.objs.size none (hp.objs.size + 1)))
      (fun w H2 => w = .non ∧ ∃ t dx, H1 t = none ∧ H1 dx = none ∧ t ≠ dx ∧ t ≠ hp.objs.size + 1 ∧ dx ≠ hp.objs.size + 1 ∧ H2 = upd (upd (upd H1 t (.tup [.str tx])) dx (.xd [(f, v)])) (hp.objs.size + 1) (exv C t (some dx) (hp.objs.size + 1))) (fun _ _ _ => False) := by
    refine ⟨hp.objs.size + 1, hp.objs.size, v, rfl, upd_same, fun t dx h1 h2 h3 h4 h5 => ⟨rfl, t, dx, ?_, ?_, h3, h4, h5, ?_⟩⟩
    · rw [upd_ne h4] at h1; exact h1
    · rw [upd_ne h5] at h2; exact h2
    · funext b
      by_cases z : b = hp.objs.size + 1
      · rw [z, upd_same, upd_same]
      · rw [upd_ne z, upd_ne z]
        by_cases y : b = dx
        · rw [y, upd_same, upd_same]
        · rw [upd_ne y, upd_ne y]
          by_cases y2 : b = t
          · rw [y2, upd_same, upd_same]
          · rw [upd_ne y2, upd_ne y2, upd_ne z]
  have run := F1.go (X.A.under (.builtin "type.__call__" ⟨[.ref C, u], []⟩)) X.stack ⟨(hp.push (PySem.W.kdv_tup [u])).push (PySem.HandSPX.excO C hp.objs.size), g, dr, tk, os⟩ _ ⟨[Value.ref (hp.objs.size + 1), u], []⟩ [Value.ref (hp.objs.size + 1), u] _ _ (fun _ _ _ => False)
    (Rm.made (hr.less hj) C [u] []) (I2.env0.make C [u] []) (hb _ _ _) r2 hsp
  refine wpAny_call (PySem.HandSPX.call_own T.F (fun Y => ZX.refsTo_contains Y bm hbm) (I1.kIn _ _ hC) (PySem.W.looks_findIn I1.kIn iC) (fun self => PySem.W.bind_fn I1.kIn self tI) (by show 1 ≤ sizeLine; rw [sizeLine_eq]; decide)
    (codeAny_mono run fun r s' hq' => ?_))
  cases r with
  | error er =>
    obtain ⟨_, _, _, _, _, _, _, _, _, _, _, _, z⟩ := hq'
    exact z.elim
  | ok fl =>
    cases fl with
    | ret u' =>
      obtain ⟨w', H2, J, rv, ew, t, dx, h1, h2, h3, h4, h5, eH⟩ := I2.after hq'
      subst ew
      subst eH
      exact ⟨rv, hp.objs.size + 1, t, dx, v, H1, rfl, hn, h1, h2, h3, h4, h5, n0, J, q1⟩
    | next => exact False.elim hq'
    | brk => exact False.elim hq'
    | cont => exact False.elim hq'
/-- .. as a value -/
def tXv (C : Addr) (tx f : Str) (te : TE) : TE := fun σ H Q => te σ H fun v H1 => ∀ a t dx, H1 a = none → H1 t = none → H1 dx = none → t ≠ dx → t ≠ a → dx ≠ a → Q (.ref a) (upd (upd (upd H1 t (.tup [.str tx])) dx (.xd [(f, v)])) a (exv C t (some dx) a))
theorem pe_mkx (c : MkX (wdOf X) k x C tx f) (hr : Rm j X.A) (hj : k + 1 ≤ j) (hg : Gl X x) (he : PE X e te) (hs : starEach [e] X.env = (false, eval e X.env) :: starEach [] X.env := by rfl) (hdb : (x == ("__debug__" : Str)) = false := by decide) :
    PE X (.Call (.Name x p) [e] [] pos) (tXv C tx f te) := ⟨fun pins s σ H Q I h => thn (mkx c hr hj hg he hs hdb I h) fun u s' ⟨a, t, dx, v, H1, eu, h1, h2, h3, h4, h5, h6, n0, J, q⟩ =>
      ⟨.ref a, _, J, eu, q a t dx h1 h2 h3 h4 h5 h6⟩⟩
/-- .. to be raised -/
def tXr (C : Addr) (tx f : Str) (te : TE) : L2.St → Hp → XK → Prop := fun σ H Q => te σ H fun v H1 => ∀ t dx, H1 t = none → H1 dx = none → t ≠ dx → Q (.ref C) (some dx) (upd (upd H1 t (.tup [.str tx])) dx (.xd [(f, v)]))
theorem pmk_mkx (c : MkX (wdOf X) k x C tx f) (hr : Rm j X.A) (hj : k + 1 ≤ j) (hg : Gl X x) (he : PE X e te) (hs : starEach [e] X.env = (false, eval e X.env) :: starEach [] X.env := by rfl) (hdb : (x == ("__debug__" : Str)) = false := by decide) :
    PMk X (.Call (.Name x p) [e] [] pos) (tXr C tx f te) := by
  obtain ⟨fi, fd, ps, B, newId, initId, bmB, F1, T, iC, tI, hm, hb⟩ := c.ex
  intro pins s σ H Q I h
  refine thn (mkx c hr hj hg he hs hdb I h) fun u s' ⟨a, t, dx, v, H1, eu, h1, h2, h3, h4, h5, h6, n0, J, q⟩ => ?_
  obtain ⟨G, gs, ga, J2⟩ := Inv.forget J upd_same n0
  have oe := exv_get (J.hok a _ upd_same)
  have eH : delH (upd (upd (upd H1 t (.tup [.str tx])) dx (.xd [(f, v)])) a (exv C t (some dx) a)) a = upd (upd H1 t (.tup [.str tx])) dx (.xd [(f, v)]) := by
    funext b
    by_cases z : b = a
    · rw [z, delH_same, upd_ne (Ne.symm h6), upd_ne (Ne.symm h5), h1]
    · rw [delH_ne z, upd_ne z]
  exact ⟨a, _, _, { s' with heap := G }, _, .ref C, some dx, eu, J2, gs, ga, oe, ⟨rfl, rfl⟩, rfl, rfl, delH_same, rfl, J.bare, raises_own T.exC T.tyC, by rw [eH]; exact q t dx h2 h3 h4⟩
end

/-! ### the mirror's exceptions -/
@[simp] def mExc (nm tx f : Str) (a : ME U) : ME U := fun ρ S => (a ρ S).bind fun d S1 => .ok (.exc nm tx [f] [d]) S1
@[simp] def mRaise (nm tx f : Str) (a : ME U) : MS := fun ρ S => (a ρ S).thenS ρ fun d S1 => .ex (.exc nm tx [f] [d]) ρ S1
section
variable {ω : Om} {X : Cx} {E : WX} {e : Expr} {st : Stmt} {ma : ME U} {nm tx f : Str} {C : Addr}
theorem cor_three {g : Gd} {H : Hp} {S : Sto} {d : U} {v : V} {t dx : Addr} (k : Cor g H S) (r : Rp g d v) (h2 : H t = none) (h3 : H dx = none) (h4 : t ≠ dx) :
    let g2 := (g.put t (.tup [.str tx])).put dx (.xd [(f, v)])
    Gr g H g2 (upd (upd H t (.tup [.str tx])) dx (.xd [(f, v)])) ∧ Cor g2 (upd (upd H t (.tup [.str tx])) dx (.xd [(f, v)])) S ∧ g2.F t = some (.tup [.str tx]) ∧ XdAt g2.F [f] [v] (some dx) := by
  intro g2
  obtain ⟨x1, k1⟩ := k.newF (o := .tup [.str tx]) h2
  obtain ⟨x2, k2⟩ := k1.newF (o := .xd [(f, v)]) (p := dx) (by rw [upd_ne (Ne.symm h4)]; exact h3)
  refine ⟨x1.trans x2, k2, ?_, Or.inr ⟨dx, rfl, upd_same⟩⟩
  show upd (upd g.F t _) dx _ t = _
  rw [upd_ne h4, upd_same]
theorem x_exc (h : PE X e (tXv C tx f (rdE ω E ma))) (hC : ω.ad nm = C) (kc : ω.kc nm) : PE X e (rdE ω E (mExc nm tx f ma)) := h.to fun σ H Q h => by
  refine (rd_bind (R := Rp) (m := ma) (kk := fun ρ d S1 => .ok (U.exc nm tx [f] [d]) S1) h).mono ?_
  rintro v H1 ⟨g1, ρ, S1, d, a1, r1, w1⟩ a t dx h1 h2 h3 h4 h5 h6
  obtain ⟨x2, k2, et, ed⟩ := cor_three (tx := tx) (f := f) a1.c r1 h2 h3 h4
  have ha : upd (upd H1 t (.tup [.str tx])) dx (.xd [(f, v)]) a = none := by rw [upd_ne (Ne.symm h6), upd_ne (Ne.symm h5)]; exact h1
  obtain ⟨x3, k3⟩ := k2.newF (o := exv C t (some dx) a) ha
  refine w1 _ _ _ (x2.trans x3) k3 ?_
  unfold Rp
  have ec := a1.e.k
  refine ⟨by show g1.ca.kc nm; rw [ec]; exact kc, a, t, some dx, [v], rfl, ?_, ?_, ?_, rfl, ?_⟩
  · show upd _ a _ a = some (exv (g1.ca.ad nm) t (some dx) a)
    rw [upd_same, ec, hC]
  · show upd _ a _ t = _
    rw [upd_ne h5]; exact et
  · exact ed.mono x3.x.ff
  · exact rps_cons (x3.rp (x2.rp r1)) rps_nil
theorem xs_raise (h : PS X st (fun _ σ H => tXr C tx f (rdE ω E ma) σ H fun cls d H' => E cls d σ H')) (hC : ω.ad nm = C) (kc : ω.kc nm) : PS X st (rdS ω E (mRaise nm tx f ma)) := h.to fun D σ H ⟨g, ρ, S, a, w⟩ =>
  ⟨g, ρ, S, a, Ws.ofE (R := Rp) a w fun v H1 g1 S1 d x1 a1 r1 w1 t dx h2 h3 h4 => by
    obtain ⟨x2, k2, et, ed⟩ := cor_three (tx := tx) (f := f) a1.c r1 h2 h3 h4
    have ec := a1.e.k
    refine w1 _ _ σ _ _ x2 ⟨a1.e.mono x2, k2⟩ ⟨?_, ?_, [v], ed, rfl, rps_cons (x2.rp r1) rps_nil⟩
    · show Value.ref C = .ref (g1.ca.ad nm); rw [ec, hC]
    · show g1.ca.kc nm; rw [ec]; exact kc⟩
end

/-! ### try -/
def wEnd (D : Ends) : Option Nat → Ends
  | some i => { nx := fun σ' H' => D.nx (σ'.set i none) H', rt := D.rt, bk := fun σ' H' => D.bk (σ'.set i none) H', ct := fun σ' H' => D.ct (σ'.set i none) H' }
  | none => D
def wSt (σ : L2.St) (a : Addr) : Option Nat → L2.St
  | some i => σ.set i (some (.ref a))
  | none => σ
/-- what the clauses wish; none beyond them is come to -/
def wMs (K : PySem.W.Frag) (D : Ends) : List (Value × Option Nat × (Addr → Value → Option Addr → TS)) → WX
  | [] => fun _ _ _ _ => False
  | (c, oi, ts) :: r => fun cls d σ H => ∃ b, PySem.W.exmOne K cls c = some b ∧ (b = true → ∀ a, H a = none → ts a cls d (wEnd D oi) (wSt σ a oi) H) ∧ (b = false → wMs K D r cls d σ H)
inductive HdsM (X : Cx) : List ExceptHandler → List (Value × Option Nat × (Addr → Value → Option Addr → TS)) → Prop
  | nil {hds : List ExceptHandler} : HdsM X hds []
  | as {x n : Str} {i : Nat} {c : Value} {ts : Addr → Value → Option Addr → TS} {b₀ : Stmt} {suite : List Stmt} {np pos' : Pos} {hds : List ExceptHandler} {l : List (Value × Option Nat × (Addr → Value → Option Addr → TS))} (hi : X.N[i]? = some n) (hln : X.env.kindOf n = some .local) (hc : Names X x c)
      (hsu : ∀ (a : Addr) (oe : Obj) (cls : Value) (d : Option Addr) (pn : List (Addr × Obj)), Zc cls d oe → (∃ vs, oe.data = .fields vs) → PSs (X.suite a ((a, oe) :: pn)) (b₀ :: suite) (ts a cls d)) (r : HdsM X hds l) :
      HdsM X (.ExceptHandler (some (.Name x np)) (some n) (b₀ :: suite) pos' :: hds) ((c, some i, ts) :: l)
  | pl {x : Str} {c : Value} {ts : Addr → Value → Option Addr → TS} {b₀ : Stmt} {suite : List Stmt} {np pos' : Pos} {hds : List ExceptHandler} {l : List (Value × Option Nat × (Addr → Value → Option Addr → TS))} (hc : Names X x c)
      (hsu : ∀ (a : Addr) (oe : Obj) (cls : Value) (d : Option Addr) (pn : List (Addr × Obj)), Zc cls d oe → (∃ vs, oe.data = .fields vs) → PSs (X.suite a ((a, oe) :: pn)) (b₀ :: suite) (ts a cls d)) (r : HdsM X hds l) :
      HdsM X (.ExceptHandler (some (.Name x np)) none (b₀ :: suite) pos' :: hds) ((c, none, ts) :: l)
section
variable {X : Cx} {body : List Stmt} {h₀ : ExceptHandler} {hds : List ExceptHandler} {l : List (Value × Option Nat × (Addr → Value → Option Addr → TS))} {pos : Pos} {tb : WX → TS}
theorem ps_try_m (hs : X.stack = X.env :: X.outer) (hf : X.env.frame = some X.env.locals) (hN : X.N.Nodup)
    (hb : ∀ (W : WX) (pn : List (Addr × Obj)) (xe : Value → Shared → Prop), Takes (X.tr pn xe) W → PassesOwn (model X.prog X.w) X.A X.env xe → PSs (X.tr pn xe) body (tb W))
    (hh : HdsM X (h₀ :: hds) l) : PS X (.Try body (h₀ :: hds) [] [] pos) (fun D σ H => tb (wMs X.K D l) D σ H) := by
  refine ⟨fun pins s σ H D I h => ?_⟩
  have ok := I.ok
  have hfr : X.A.frames = some (X.env :: X.outer) := by rw [ok.frames, hs]
  refine wpAny_Try_except ?_
  refine wpAny_mono ((hb (wMs X.K D l) (X.pn ++ pins) (fun e s₁ => wpAny (model X.prog X.w) X.A (noteFrame e X.env) (fun _ s₂ => wpAny (model X.prog X.w) X.A (setFlight e none) (fun _ s₃ =>
    wpAny (model X.prog X.w) X.A (handleBy e X.env (h₀ :: hds)) (SP X pins D) X.xe s₃) X.xe s₂) X.xe s₁) (fun u s' xx => ?_) PassesOwn.looking).run [] s σ H D (I.toTry _) h) (fun f s1 hsp => ?_) (fun e s1 he => he)
  · -- the catch
    obtain ⟨a, B, sI, pins', σ', H', cls, d, rfl, J', nb, up, sky, na, os, ag, w⟩ := xx
    have J : Inv X pins σ' H' sI := J'.ofTry ok
    have sky' : Sky B (X.env :: X.outer) a (Zc cls d) X.env.locals s'.heap := by rw [← hs]; exact sky
    show wpAny (model X.prog X.w) X.A (noteFrame (.ref a) X.env) _ _ _
    refine Sky.land Zc.steady hfr hf sky' fun h3 fl3 up3 => ?_
    have J3 : Inv X pins σ' H' { s' with heap := h3 } := J.landed nb fl3.1 (up.trans up3) os ag
    obtain ⟨oe3, vs3, he3, hz3, hd3⟩ := fl3.there
    have notFr : ∀ {h : Heap} {o : Obj} {vs : Array Value}, h.FunFrames B (X.env :: X.outer) → h.get? a = some o → o.data = .fields vs → a ∉ frs (X.env :: X.outer) := fun {h o vs} ff e dd hm => by
      obtain ⟨_, o', e', hnf⟩ := ff.mem hm
      rw [e] at e'; cases e'
      exact hnf _ dd
    have nfr := notFr fl3.2.2.1 he3 hd3
    have nL : a ≠ X.env.locals := fun z => nfr (List.mem_filterMap.mpr ⟨X.env, List.mem_cons_self, by rw [hf, z]⟩)
    have nF : a ∉ X.fs := fun hm => by
      obtain ⟨e, he, q⟩ := List.mem_filterMap.mp hm
      exact nfr (List.mem_filterMap.mpr ⟨e, List.mem_cons_of_mem _ he, q⟩)
    have S3 := J3.suite he3 hd3 na nL nF
    have LT : PySem.W.Looks (model X.prog X.w) h3 (typeOf (.ref a)) cls := fun A Q E s k q => wpAny_typeOf_ref (k _ _ he3) (by rw [hz3.1]; exact q)
    have test : ∀ {x : Str} {c : Value} {np : Pos}, Names X x c → ∀ {Q : Value → Shared → Prop} {E : Value → Shared → Prop}, Q c { s' with heap := h3 } → wpAny (model X.prog X.w) (X.A.mark (some (.ref a))) (eval (.Name x np) X.env) Q E { s' with heap := h3 } := fun {x c np} hc {Q E} q => by
      obtain ⟨hg, hdbg, hm | ⟨hm, hv, hnn⟩⟩ := hc
      · exact ld_glob (X := X.suite a ((a, oe3) :: (X.pn ++ pins))) S3 hg hm q hdbg
      · exact ld_blt (X := X.suite a ((a, oe3) :: (X.pn ++ pins))) S3 hg hm hv q hnn hdbg
    have go : ∀ {hds' : List ExceptHandler} {l' : List (Value × Option Nat × (Addr → Value → Option Addr → TS))}, HdsM X hds' l' → wMs X.K D l' cls d σ' H' →
        wpAny (model X.prog X.w) X.A (handleBy (.ref a) X.env hds') (SP X pins D) X.xe { s' with heap := h3 } := by
      intro hds' l' hk
      induction hk with
      | nil => exact fun w => w.elim
      | @as x n i c ts b₀ suite np pos' hds2 l2 hi hln hc hsu r ih =>
        intro w
        obtain ⟨b, hb1, hyes, hno⟩ := w
        refine wpAny_handleBy_cons (codeAny_handlers_test ?_) (by intro q; cases q)
        have LM := PySem.W.exm_one (M := model X.prog X.w) (J3.kIn) LT hb1
        refine test hc (LM.here ?_)
        cases b with
        | true =>
          refine codeAny_handlers_suite_as ?_
          refine HandSPX.lands_againZ fl3 fun h4 fl4 up4 => ?_
          have J4 : Inv X pins σ' H' { s' with heap := h4 } := J.landed nb fl4.1 ((up.trans up3).trans up4) os ag
          obtain ⟨oe4, vs4, he4, hz4, hd4⟩ := fl4.there
          have S4 := J4.suite he4 hd4 na nL nF
          refine store_ok (X := X.suite a ((a, oe4) :: (X.pn ++ pins))) (v := .ref a) S4 hN hi (.inl hln) rfl (fun s5 S5 => ?_) (.inr hln)
          refine wpAny_mono ((hsu a oe4 cls d (X.pn ++ pins) hz4 ⟨_, hd4⟩).run [] s5 _ H' _ S5 (hyes rfl a na)) (fun f s6 hsp => ?_) (fun _ _ z => False.elim z)
          have end_ : ∀ {σ6 : L2.St} {H6 : Hp} {Q : Shared → Prop}, Inv (X.suite a ((a, oe4) :: (X.pn ++ pins))) [] σ6 H6 s6 → (∀ s7, Inv X pins (σ6.set i none) H6 s7 → Q s7) →
              wpAny (model X.prog X.w) X.A (do bindName X.env n .none; unbindBehindTheSuite X.env n pos') (fun _ s7 => Q s7) X.xe s6 := fun {σ6 H6 Q} S6 hq => gone_ok (S6.unsuite ok) hN hi hln hq
          cases f with
          | next =>
            obtain ⟨σ6, H6, S6, q6⟩ := hsp
            exact end_ S6 fun s7 J7 => ⟨_, _, J7, q6⟩
          | brk =>
            obtain ⟨σ6, H6, S6, q6⟩ := hsp
            exact end_ S6 fun s7 J7 => ⟨_, _, J7, q6⟩
          | cont =>
            obtain ⟨σ6, H6, S6, q6⟩ := hsp
            exact end_ S6 fun s7 J7 => ⟨_, _, J7, q6⟩
          | ret u =>
            obtain ⟨v6, σ6, H6, S6, r6, q6⟩ := hsp
            exact end_ S6 fun s7 J7 => ⟨_, _, _, J7, r6, q6⟩
        | false =>
          show wpAny _ X.A (handleBy (.ref a) X.env hds2) _ _ _
          exact ih (hno rfl)
      | @pl x c ts b₀ suite np pos' hds2 l2 hc hsu r ih =>
        intro w
        obtain ⟨b, hb1, hyes, hno⟩ := w
        refine wpAny_handleBy_cons (codeAny_handlers_test ?_) (by intro q; cases q)
        have LM := PySem.W.exm_one (M := model X.prog X.w) (J3.kIn) LT hb1
        refine test hc (LM.here ?_)
        cases b with
        | true =>
          refine codeAny_handlers_suite ?_
          refine HandSPX.lands_againZ fl3 fun h4 fl4 up4 => ?_
          have J4 : Inv X pins σ' H' { s' with heap := h4 } := J.landed nb fl4.1 ((up.trans up3).trans up4) os ag
          obtain ⟨oe4, vs4, he4, hz4, hd4⟩ := fl4.there
          have S4 := J4.suite he4 hd4 na nL nF
          refine wpAny_mono ((hsu a oe4 cls d (X.pn ++ pins) hz4 ⟨_, hd4⟩).run [] _ _ H' _ S4 (hyes rfl a na)) (fun f s6 hsp => ?_) (fun _ _ z => False.elim z)
          cases f with
          | next =>
            obtain ⟨σ6, H6, S6, q6⟩ := hsp
            exact ⟨_, _, S6.unsuite ok, q6⟩
          | brk =>
            obtain ⟨σ6, H6, S6, q6⟩ := hsp
            exact ⟨_, _, S6.unsuite ok, q6⟩
          | cont =>
            obtain ⟨σ6, H6, S6, q6⟩ := hsp
            exact ⟨_, _, S6.unsuite ok, q6⟩
          | ret u =>
            obtain ⟨v6, σ6, H6, S6, r6, q6⟩ := hsp
            exact ⟨_, _, _, S6.unsuite ok, r6, q6⟩
        | false =>
          show wpAny _ X.A (handleBy (.ref a) X.env hds2) _ _ _
          exact ih (hno rfl)
    exact go hh w
  · cases f with
    | next =>
      obtain ⟨σ', H', J', q⟩ := hsp
      exact wpAny_execs_nil ⟨σ', H', J'.ofTry ok, q⟩
    | brk =>
      obtain ⟨σ', H', J', q⟩ := hsp
      exact ⟨σ', H', J'.ofTry ok, q⟩
    | cont =>
      obtain ⟨σ', H', J', q⟩ := hsp
      exact ⟨σ', H', J'.ofTry ok, q⟩
    | ret u =>
      obtain ⟨v, σ', H', J', r, q⟩ := hsp
      exact ⟨v, σ', H', J'.ofTry ok, r, q⟩
end

/-- what a caught exception is turned into: a pair of a word and of its attribute f (or of c), returned, or stored in slot dst; sl: the clause's name's slot -/
structure Cs where
  nm : Str
  w : Str
  f : Option Str
  c : U
  dst : Option Nat
  sl : Option Nat
def csVal (c : Cs) (ks : List Str) (us : List U) : Option U := match c.f with
  | some f => (ks.zip us).lookup f
  | none => some c.c
def csOne (c : Cs) (ρ : Rho) (S : Sto) (ks : List Str) (us : List U) : SO := match csVal c ks us with
  | some d => (match c.sl with
    | some i => if i < ρ.length then (match c.dst with
      | none => .rt (.tup [.str c.w, d]) S
      | some j => .nx ((ρ.set j (some (.tup [.str c.w, d]))).set i none) S) else .bad
    | none => (match c.dst with
      | none => .rt (.tup [.str c.w, d]) S
      | some j => .nx (ρ.set j (some (.tup [.str c.w, d]))) S))
  | none => .bad
def csGo (ρ : Rho) (S : Sto) (nm : Str) (ks : List Str) (us : List U) : List Cs → SO
  | [] => .bad
  | c :: r => if nm = c.nm then csOne c ρ S ks us else csGo ρ S nm ks us r
def mTry (b : MS) (cs : List Cs) : MS := fun ρ S => match b ρ S with
  | .ex e ρ' S' => (match e with
    | .exc nm _ ks us => csGo ρ' S' nm ks us cs
    | _ => .bad)
  | r => r
/-- the suites' readings -/
def tsOf (C : Addr) (c : Cs) (te : Addr → Value → Option Addr → TE) : Addr → Value → Option Addr → TS := fun a cls d => match c.dst with
  | none => tRet (tTup (tCons (tC (.str c.w)) (tCons (te a cls d) tNil)))
  | some j => tAsg (tTup (tCons (tC (.str c.w)) (tCons (te a cls d) tNil))) (gName j)
/-- a clause's reading keeps to the mirror -/
inductive CsOk (ω : Om) : Cs → (Addr → Value → Option Addr → TE) → Prop
  | f {nm w f : Str} {c : U} {dst : Option Nat} {i : Nat} (h : dst ≠ some i) : CsOk ω ⟨nm, w, some f, c, dst, some i⟩ (fun a cls d => tXf a cls d (ω.ad nm) f (tVar i))
  | c {nm w : Str} {c : U} {dst : Option Nat} {v : V} (h : ∀ g, Rp g c v) : CsOk ω ⟨nm, w, none, c, dst, none⟩ (fun _ _ _ => tC v)
/-- what is known of the classes that are caught -/
def KnE (K : PySem.W.Frag) (o : Om) : Prop := ∀ nm c, o.kc nm → o.kc c → PySem.W.exmOne K (.ref (o.ad nm)) (.ref (o.ad c)) = some (decide (nm = c))
inductive ClsL (ω : Om) : List Cs → List (Value × Option Nat × (Addr → Value → Option Addr → TS)) → Prop
  | nil : ClsL ω [] []
  | cons {c : Cs} {cs : List Cs} {te : Addr → Value → Option Addr → TE} {l : List (Value × Option Nat × (Addr → Value → Option Addr → TS))} (h : CsOk ω c te) (k : ω.kc c.nm) (r : ClsL ω cs l) : ClsL ω (c :: cs) ((.ref (ω.ad c.nm), c.sl, tsOf (ω.ad c.nm) c te) :: l)
theorem lookup_rps {g : Gd} {f : Str} {d : U} : ∀ {ks : List Str} {us : List U} {vs : List V}, Rps g us vs → (ks.zip us).lookup f = some d → ∃ v, (ks.zip vs).lookup f = some v ∧ Rp g d v
  | [], us, vs, _, h => by rw [List.zip_nil_left] at h; cases h
  | k :: ks, [], vs, _, h => by rw [List.zip_nil_right] at h; cases h
  | k :: ks, u :: us, vs, r, h => by
    obtain ⟨v, ws, rfl, r1, r2⟩ := r.of_cons
    rw [List.zip_cons_cons] at h ⊢
    unfold List.lookup at h ⊢
    split at h
    · cases h; exact ⟨v, rfl, r1⟩
    · exact lookup_rps r2 h
theorem EnvR.setN {ω : Om} {g : Gd} {ρ : Rho} {σ : L2.St} (h : EnvR ω g ρ σ) (i : Nat) (x : Option V) : EnvR ω g (ρ.set i none) (σ.set i x) := by
  refine ⟨h.k, by rw [List.length_set, List.length_set]; exact h.len, fun j e q => ?_⟩
  by_cases z : i = j
  · subst z
    have l := (List.getElem?_eq_some_iff.mp q).1
    rw [List.length_set] at l
    rw [List.getElem?_set_self l] at q
    cases q
  · rw [List.getElem?_set_ne z] at q
    rw [List.getElem?_set_ne z]
    exact h.at_ j e q
section
variable {ω : Om} {X : Cx} {E : WX} {st : Stmt} {mb : MS} {cs : List Cs} {l : List (Value × Option Nat × (Addr → Value → Option Addr → TS))}
theorem cs_one {D : Ends} {c : Cs} {te : Addr → Value → Option Addr → TE} {g : Gd} {ρ : Rho} {S : Sto} {σ : L2.St} {H : Hp} {d : Option Addr} {ks : List Str} {us : List U} {vs : List V} {a : Addr} (h : CsOk ω c te) (at_ : At ω g ρ S σ H) (hd : XdAt g.F ks vs d) (r : Rps g us vs) (kl : ks.length = us.length)
    (w : Ws ω g H D E (csOne c ρ S ks us)) (cls : Value) (ec : cls = .ref (ω.ad c.nm)) : tsOf (ω.ad c.nm) c te a cls d (wEnd D c.sl) (wSt σ a c.sl) H := by
  unfold csOne at w
  cases h with
  | @f nm wd f c dst i hn =>
    cases ev : csVal ⟨nm, wd, some f, c, dst, some i⟩ ks us with
    | none => rw [ev] at w; exact w.elim
    | some u =>
      rw [ev] at w
      dsimp only at w
      obtain ⟨v, e1, r1⟩ := lookup_rps r (show (ks.zip us).lookup f = some u from ev)
      by_cases li : i < ρ.length
      · rw [if_pos li] at w
        have lv : (wSt σ a (some i))[i]? = some (some (.ref a)) := by
          show (σ.set i (some (.ref a)))[i]? = _
          rw [List.getElem?_set_self (by rw [← at_.e.len]; exact li)]
        have hx : ∃ dd, d = some dd ∧ g.F dd = some (.xd (ks.zip vs)) := by
          rcases hd with ⟨_, e⟩ | ⟨dx, e, h⟩
          · rw [e] at e1; rw [List.zip_nil_left] at e1; cases e1
          · exact ⟨dx, e, h⟩
        obtain ⟨dd, ed, hdd⟩ := hx
        cases dst with
        | none =>
          refine ⟨.ref a, lv, rfl, ec, dd, ks.zip vs, v, ed, at_.c.fh dd _ hdd, e1, by show 2 ≤ sizeLine; rw [sizeLine_eq]; decide, fun p hp => ?_⟩
          obtain ⟨x, k⟩ := at_.c.newF (o := .tup [.str wd, v]) hp
          exact w _ _ _ x k (rp_tup upd_same (rps_cons rp_str (rps_cons (x.rp r1) rps_nil)))
        | some j =>
          have nj : j ≠ i := fun z => hn (by rw [z])
          refine ⟨.ref a, lv, rfl, ec, dd, ks.zip vs, v, ed, at_.c.fh dd _ hdd, e1, by show 2 ≤ sizeLine; rw [sizeLine_eq]; decide, fun p hp => ?_⟩
          obtain ⟨x, k⟩ := at_.c.newF (o := .tup [.str wd, v]) hp
          refine w _ _ _ x ⟨?_, k⟩
          show EnvR ω _ _ (((σ.set i (some (.ref a))).set j (some (.ref p))).set i none)
          rw [List.set_comm _ _ (Ne.symm nj), List.set_set]
          exact ((at_.e.mono x).set (rp_tup upd_same (rps_cons rp_str (rps_cons (x.rp r1) rps_nil))) j).setN i none
      · rw [if_neg li] at w; exact w.elim
  | @c nm wd c dst v hv =>
    have ev : csVal ⟨nm, wd, none, c, dst, none⟩ ks us = some c := rfl
    rw [ev] at w
    dsimp only at w
    cases dst with
    | none =>
      refine ⟨by show 2 ≤ sizeLine; rw [sizeLine_eq]; decide, fun p hp => ?_⟩
      obtain ⟨x, k⟩ := at_.c.newF (o := .tup [.str wd, v]) hp
      exact w _ _ _ x k (rp_tup upd_same (rps_cons rp_str (rps_cons (hv _) rps_nil)))
    | some j =>
      refine ⟨by show 2 ≤ sizeLine; rw [sizeLine_eq]; decide, fun p hp => ?_⟩
      obtain ⟨x, k⟩ := at_.c.newF (o := .tup [.str wd, v]) hp
      exact w _ _ _ x ⟨(at_.e.mono x).set (rp_tup upd_same (rps_cons rp_str (rps_cons (hv _) rps_nil))) j, k⟩
theorem cs_all {K : PySem.W.Frag} (ke : KnE K ω) {D : Ends} {g : Gd} {ρ : Rho} {S : Sto} {σ : L2.St} {H : Hp} {d : Option Addr} {nm : Str} {ks : List Str} {us : List U} {vs : List V} {cls : Value} (at_ : At ω g ρ S σ H) (hd : XdAt g.F ks vs d) (r : Rps g us vs) (kl : ks.length = us.length)
    (e0 : ω.kc nm) (e1 : cls = .ref (ω.ad nm)) (hl : ClsL ω cs l) (w : Ws ω g H D E (csGo ρ S nm ks us cs)) : wMs K D l cls d σ H := by
  induction hl with
  | nil => exact w.elim
  | @cons c cs te l hc k r' ih =>
    refine ⟨decide (nm = c.nm), by rw [e1]; exact ke nm c.nm e0 k, fun hb a0 _ => ?_, fun hb => ?_⟩
    · have en := of_decide_eq_true hb
      unfold csGo at w
      rw [if_pos en] at w
      exact cs_one hc at_ hd r kl w cls (by rw [e1, en])
    · have en := of_decide_eq_false hb
      unfold csGo at w
      rw [if_neg en] at w
      exact ih w
theorem xs_try (ke : KnE X.K ω) (hl : ClsL ω cs l) (h : PS X st (fun D σ H => rdS ω (wMs X.K D l) mb D σ H)) : PS X st (rdS ω E (mTry mb cs)) := h.to fun D σ H ⟨g, ρ, S, a, w⟩ => ⟨g, ρ, S, a, by
  unfold mTry at w
  cases eb : mb ρ S with
  | nx ρ' S' => rw [eb] at w; exact w
  | rt d S' => rw [eb] at w; exact w
  | bad => rw [eb] at w; exact w
  | ex e ρ' S' =>
    rw [eb] at w
    cases e with
    | exc nm tx ks us =>
      dsimp only at w
      intro g' H' σ' cls d x a' xr
      obtain ⟨e1, e0, vs, e2, e3, e4⟩ := xr
      have ek := a'.e.k
      rw [ek] at e1 e0
      exact cs_all ke a' e2 e4 e3 e0 e1 hl (Ws.base w x)
    | _ => exact w.elim⟩
end
end Z

namespace Z
open PySem PySem.Spec PyProof.Rows L2
theorem hu1 {A : Around} (h : Rm 1 A) : A.units + 1 < cLine := by have := h.r.un; omega
theorem hu2 {A : Around} (h : Rm 1 A) : A.units + 65 < cLine := by have := h.r.un; omega
theorem u_glob {X : Cx} {x : Str} {v : V} {pos : Pos} (hg : Gl X x) (h : ∃ u, X.mg x = some u ∧ RelV v u) (hd : (x == ("__debug__" : Str)) = false := by decide) : PE X (.Name x pos) (tC v) := by
  obtain ⟨u, e, r⟩ := h
  exact pe_glob hg e r hd
/-! ### comprehensions, try: the mirror's rules of them -/
section
variable {ω : Om} {X : Cx} {E : WX} {c : Bool} {mi : ME IT} {gm : MG} {tt : ME Bool} {te : ME U} {sl vs : List Nat} {wi : TI} {t : TG} {elt tg iter : Expr} {ifs : List Expr} {scope : Scope} {pos : Pos}
theorem x_lcM (own : List (Str × Nat)) (hv : own.map (·.2) = vs) (hc : X.calm = true) (hN : X.N.Nodup) (hi : PI X tg iter wi) (ok : BlkOk X.N X.env.scope scope own)
    (hg : ∀ (s : Shared) (H : Hp) (C : Addr) (cl : List (Str × Addr)) (fp : List Addr), PG (X.blk s H scope (compEnvC scope cl C X.env) fp) tg t)
    (ht : ∀ (s : Shared) (H : Hp) (C : Addr) (cl : List (Str × Addr)) (fp : List Addr), PTs (X.blk s H scope (compEnvC scope cl C X.env) fp) ifs (rdT ω noX tt))
    (he : ∀ (s : Shared) (H : Hp) (C : Addr) (cl : List (Str × Addr)) (fp : List Addr), PE (X.blk s H scope (compEnvC scope cl C X.env) fp) elt (rdE ω noX te))
    (si : ∀ σ H R, rdI ω E mi σ H R → wi σ H R) (sg : SG ω gm t sl) (hs : ∀ i, i ∈ sl → i ∈ vs := by decide) (hs' : ∀ x, foldedSetIterable iter X.env x = pure x := by intro _; rfl) :
    PE X (.ListComp elt [⟨tg, iter, ifs, 0⟩] scope pos) (rdE ω E (mLc c mi gm tt te vs)) := by
  subst hv
  exact x_lc (pe_lc hc hN hi ok hg ht he hs') si sg hs
theorem xs_setLcM {i : Nat} {y : Str} {py spos : Pos} (own : List (Str × Nat)) (hv : own.map (·.2) = vs) (hc : X.calm = true) (hN : X.N.Nodup) (hy : X.N[i]? = some y) (hyl : X.env.scope.names.lookup y = some .local)
    (hsw : swapsWith (.ListComp elt [⟨tg, iter, ifs, 0⟩] scope pos) (some (.Name y py)) spos.line X.env = pure true) (hi : PI X tg iter wi) (ok : BlkOk X.N X.env.scope scope own)
    (hg : ∀ (s : Shared) (H : Hp) (C : Addr) (cl : List (Str × Addr)) (fp : List Addr), PG (X.blk s H scope (compEnvC scope cl C X.env) fp) tg t)
    (ht : ∀ (s : Shared) (H : Hp) (C : Addr) (cl : List (Str × Addr)) (fp : List Addr), PTs (X.blk s H scope (compEnvC scope cl C X.env) fp) ifs (rdT ω noX tt))
    (he : ∀ (s : Shared) (H : Hp) (C : Addr) (cl : List (Str × Addr)) (fp : List Addr), PE (X.blk s H scope (compEnvC scope cl C X.env) fp) elt (rdE ω noX te))
    (si : ∀ σ H R, rdI ω E mi σ H R → wi σ H R) (sg : SG ω gm t sl) (hs : ∀ i, i ∈ sl → i ∈ vs := by decide) (hs' : ∀ x, foldedSetIterable iter X.env x = pure x := by intro _; rfl) :
    PS X (.Assign [.Name y py] (.ListComp elt [⟨tg, iter, ifs, 0⟩] scope pos) spos) (rdS ω E (mSet i (mLc c mi gm tt te vs))) := by
  subst hv
  exact xs_setLc (ps_setLc hc hN hy hyl hsw hi ok hg ht he hs') si sg hs
theorem xs_tryM {body : List Stmt} {h₀ : ExceptHandler} {hds : List ExceptHandler} {l : List (Value × Option Nat × (Addr → Value → Option Addr → TS))} {mb : MS} {cs : List Cs} (ke : KnE X.K ω) (hl : ClsL ω cs l) (hs : X.stack = X.env :: X.outer) (hf : X.env.frame = some X.env.locals) (hN : X.N.Nodup)
    (hb : ∀ (W : WX) (pn : List (Addr × Obj)) (xe : Value → Shared → Prop), Takes (X.tr pn xe) W → PassesOwn (model X.prog X.w) X.A X.env xe → PSs (X.tr pn xe) body (rdS ω W mb))
    (hh : HdsM X (h₀ :: hds) l) : PS X (.Try body (h₀ :: hds) [] [] pos) (rdS ω E (mTry mb cs)) :=
  xs_try ke hl (ps_try_m (tb := fun W => rdS ω W mb) hs hf hN hb hh)
end
theorem hrT {j : Nat} {X : Cx} {W : WX} (_ : Takes X W) (h : Rm j X.A) : Rm j X.A := h
/-! ### {k: v} -/
section
variable {g g0 : Gd} {H H0 : Hp} {S : Sto} {p : Addr} {c : Cl}
theorem CelAt.push {o : Cl} {a : Addr} (h : CelAt g H o a) : CelAt (g.push p) H o a := by
  have mono : ∀ {us : List U} {vs : List V}, Rps g us vs → Rps (g.push p) us vs := fun {us vs} r => Rps.mono (g := g) (g' := g.push p) (Same.refl _) rfl (fun n a h => by rw [List.getElem?_append_left (List.getElem?_eq_some_iff.mp h).1]; exact h) us vs r
  have monoF : ∀ {κ : Type} {us : List (κ × U)} {vs : List (κ × V)}, RpF g us vs → RpF (g.push p) us vs := fun {κ us vs} r => RpF.mono (g := g) (g' := g.push p) (Same.refl _) rfl (fun n a h => by rw [List.getElem?_append_left (List.getElem?_eq_some_iff.mp h).1]; exact h) r
  cases o with
  | lst us => obtain ⟨vs, e, r⟩ := h; exact ⟨vs, e, mono r⟩
  | dK us => obtain ⟨vs, e, r⟩ := h; exact ⟨vs, e, monoF r⟩
  | dT us => obtain ⟨vs, e, r⟩ := h; exact ⟨vs, e, monoF r⟩
  | ins cc us => obtain ⟨ki, dx, vs, e, r⟩ := h; exact ⟨ki, dx, vs, e, monoF r⟩
  | fK us => obtain ⟨vs, e, r⟩ := h; exact ⟨vs, e, monoF r⟩
  | fT us => obtain ⟨vs, e, r⟩ := h; exact ⟨vs, e, monoF r⟩
/-- a thing that was made apart stands in the store from now on -/
theorem end_cel (x : Gr g0 H0 g H) (k : Cor g H S) (hp : H0 p = none) (np : p ∉ g.al) (fp : g.F p = none) (hc : CelAt g H c p) (fz : c.fz = false := by rfl) : Gr g0 H0 (g.push p) H ∧ Cor (g.push p) H (S ++ [c]) := by
  obtain ⟨t, et, ft⟩ := x.al
  refine ⟨⟨x.ca, ⟨t ++ [p], by show g.al ++ [p] = _; rw [et, List.append_assoc], fun a m => by
      rcases List.mem_append.mp m with m | m
      · exact ft a m
      · simp at m; rw [m]; exact hp⟩, x.x⟩, k.fh, by simp [k.len], fun n a c' h1 h2 => ?_, ?_⟩
  · by_cases l : n < g.al.length
    · have h1' : g.al[n]? = some a := by rw [List.getElem?_append_left l] at h1; exact h1
      have h2' : S[n]? = some c' := by rw [List.getElem?_append_left (by rw [← k.len]; exact l)] at h2; exact h2
      obtain ⟨q1, q2⟩ := k.at_ n a c' h1' h2'
      exact ⟨q1, q2.push⟩
    · have e2 : n = g.al.length := by
        have := (List.getElem?_eq_some_iff.mp h1).1
        simp at this; omega
      subst e2
      simp at h1
      rw [k.len] at h2
      simp at h2
      subst h1 h2
      exact ⟨Fx.of fp fz, hc.push⟩
  · refine List.nodup_append.mpr ⟨k.nd, by simp, fun a m b m2 => ?_⟩
    simp at m2
    subst m2
    exact fun e => np (e ▸ m)
end
theorem Wp.bindB {α β α' β' : Type} {g g0 : Gd} {H H0 : Hp} {R : Gd → α → β → Prop} {R' : Gd → α' → β' → Prop} {Q' : β' → Hp → Prop} {E : XK} {o : Out α} {k : α → Sto → Out α'} (w : Wp g0 H0 R' Q' E (o.bind k)) (x : Gr g0 H0 g H) :
    Wp g H R (fun b H1 => ∃ g1 S1 a, Gr g H g1 H1 ∧ Cor g1 H1 S1 ∧ R g1 a b ∧ Wp g0 H0 R' Q' E (k a S1)) E o := by
  cases o with
  | ok a S => exact fun g' H' b y c r => ⟨g', S, a, y, c, r, w⟩
  | ex e S => exact fun g' H' cls d y c r => w g' H' cls d (x.trans y) c r
  | bad => exact w
@[simp] def mDisp1 (a b : ME U) : ME U := fun ρ S => (a ρ S).bind fun x S1 => (b ρ S1).bind fun y S2 => match kOf x with
  | some k => .ok (.cel S2.length) (S2 ++ [.dK [(k, y)]])
  | none => .bad
theorem x_disp1 {ω : Om} {X : Cx} {E : WX} {e : Expr} {ma mb : ME U} (h : PE X e (tDisp [(rdE ω E ma, rdE ω E mb)])) : PE X e (rdE ω E (mDisp1 ma mb)) := h.to fun σ H Q ⟨g, ρ, S, a, w⟩ p hp => by
  have np : p ∉ g.al := fun m => (a.c.there m).1 hp
  have fp : g.F p = none := fnone a.c.fh hp
  have x0 : Gr g H g (upd H p (.dK [])) := ⟨rfl, ⟨[], by simp, by simp⟩, (Ext.cellNew a.c.fh hp).any⟩
  have c0 : Cor g (upd H p (.dK [])) S := a.c.hid np fp
  have keep : ∀ {g1 g4 : Gd} {H1 H4 : Hp}, Gr g1 H1 g4 H4 → p ∉ g1.al → g1.F p = none → H1 p = some (.dK []) → p ∉ g4.al ∧ g4.F p = none ∧ H4 p = some (.dK []) := fun {g1 g4 H1 H4} z n1 f1 e1 => by
    refine ⟨fun m => ?_, z.x.out f1 (some_ne e1) (fun u l e => by rw [z.x.hh p _ n1 e1] at e; cases e; exact l), z.x.hh p _ n1 e1⟩
    obtain ⟨t4, e4, f4⟩ := z.al
    rw [e4] at m
    rcases List.mem_append.mp m with m | m
    · exact n1 m
    · rw [f4 p m] at e1; cases e1
  have h0 : rdE ω E (mDisp1 ma mb) σ (upd H p (.dK [])) Q := ⟨g, ρ, S, ⟨a.e, c0⟩, w.base x0⟩
  unfold mDisp1 at w
  refine ⟨g, ρ, S, ⟨a.e, c0⟩, (Wp.bindB (R := Rp) w x0).mono ?_⟩
  rintro x H1 ⟨g1, S1, u, x1, c1, r1, w1⟩
  obtain ⟨n1, f1, e1⟩ := keep x1 np fp upd_same
  refine ⟨g1, ρ, S1, ⟨(a.e.mono x0).mono x1, c1⟩, (Wp.bindB (R := Rp) w1 (x0.trans x1)).mono ?_⟩
  rintro y H2 ⟨g2, S2, d, x2, c2, r2, w2⟩
  obtain ⟨n2, f2, e2⟩ := keep x2 n1 f1 e1
  cases ek : kOf u with
  | none => rw [ek] at w2; exact w2.elim
  | some k =>
    rw [ek] at w2
    have ev := kOf_v (x2.rp r1) ek
    subst ev
    refine ⟨e2, [(k, y)], rfl, by show 1 ≤ 15; decide, ?_⟩
    have eo : mergeK [] [(k, y)] = [(k, y)] := by unfold mergeK; simp [putK]
    rw [eo]
    have xs : Gr g H g2 H2 := (x0.trans x1).trans x2
    have ct : CelAt g2 (upd H2 p (.dK [(k, y)])) (.dK [(k, d)]) p := ⟨_, upd_same, .cons ⟨rfl, r2⟩ .nil⟩
    obtain ⟨xe, ce⟩ := end_cel (xs.hid hp f2) (c2.hid n2 f2) hp n2 f2 ct
    refine w2 (g2.push p) _ _ xe ce ?_
    rw [← c2.len]
    exact rp_cel (by simp)
/-! ### the end of a law -/
/-- the script, where the written part of the program's start has it -/
def ksOf (K : PySem.W.Frag) : Addr → List Int → Prop := fun a ns => ∀ H : Hp, SqL K H a (ns.map V.int)
theorem Fn.weak {W : Wd} {k : Nat} {f : Addr} {fd : FuncData} {ps : List Str} {sp sp' : Sp} (h : Fn W k f fd ps sp) (i : ∀ vs H Q E, sp' vs H Q E → sp vs H Q E) : Fn W k f fd ps sp' :=
  ⟨fun vs H Q E w => h.n vs H Q E (i _ _ _ _ w), fun A out s H as us vs Q E hr e b v w => h.go A out s H as us vs Q E hr e b v (i _ _ _ _ w)⟩
theorem law_end {ω : Om} {W : Wd} {k : Nat} {fa : Addr} {fd : FuncData} {m : MF} (F : Fn W k fa fd ["script"] (spM ω m)) (hω : ω.ks = ksOf W.K)
    (h : ∀ ns : List Int, ns.length ≤ 63 → ∃ S, m [.scr ns] [] = .ok (.bl true) S) : Fn W k fa fd ["script"] (spTrue W.K) := by
  refine Fn.weak F ?_
  rintro vs H Q E ⟨a, ns, e, ⟨sq, le⟩, only, q⟩
  obtain ⟨S, hS⟩ := h ns le
  have r : Rp ⟨ω, [], H⟩ (.scr ns) (.ref a) := by
    unfold Rp
    refine ⟨a, rfl, ?_⟩
    rcases sq with (hl | ⟨o, hf⟩) | hk
    · rcases only a with n | ⟨o, xs, n⟩
      · rw [n] at hl; cases hl
      · rw [n] at hl; cases hl
    · exact Or.inl ⟨o, hf⟩
    · refine Or.inr ?_
      rw [hω]
      exact fun H' => Or.inr hk
  refine ⟨⟨ω, [], H⟩, [], [.scr ns], rfl, ⟨Same.refl _, rfl, fun n a c h => by simp at h, List.nodup_nil⟩, by rw [e]; exact rps_cons r rps_nil, ?_⟩
  rw [hS]
  intro g' H' b x c rb
  rw [rb.of_bl]
  exact q H'
end Z

namespace Z
open PySem PySem.Spec PyProof.Rows L2
theorem gok_app {n j : Nat} : GOk n j (fun us zs => us ++ zs) (fun vs ws => vs ++ ws) := fun g us zs vs ws r1 r2 _ _ => r1.app r2
section
variable {ω : Om} {X : Cx} {E : WX} {k j n i : Nat} {x : Str} {ks : List Str} {gM : List U → List U → List U} {gV : List V → List V → List V} {m : MF} {e : Expr} {es : List Expr} {kws : List Keyword} {mr mk : ME (List U)} {p pos : Pos}
theorem x_callF (c : Cal (wdOf X) k x n ks gV (spM ω m)) (hr : Rm j X.A) (hj : k ≤ j) (hl : ks.length = i) (hg : Gl X x) (hx : ∀ σ, PassesAt (L2.CX X.prog X.w) X σ (fun cls d H => E cls d σ H))
    (ha : PA X (e :: es) (rdA ω E mr)) (hkw : PK X kws (rdA ω E mk)) (gk : GOk n i gM gV) (hks : (backToKw pos (keywordEach kws X.env)).filterMap (·.1) = ks := by rfl)
    (hall : (backToKw pos (keywordEach kws X.env)).all (·.1.isSome) = true := by rfl) (hdb : (x == ("__debug__" : Str)) = false := by decide)
    (hst : starEach (e :: es) X.env = (false, eval e X.env) :: starEach es X.env := by rfl)
    (hpl : ((backTo pos (starEach (e :: es) X.env)).any (·.1) || (backToKw pos (keywordEach kws X.env)).any (·.1.isNone)) = false := by rfl) :
    PE X (.Call (.Name x p) (e :: es) kws pos) (rdE ω E (mCallN n i m gM mr mk)) := by
  subst hl
  exact x_call (c_fn (E := fun σ cls d H => E cls d σ H) c hr hj hg hx ha hkw hks hall hdb hst hpl) gk
theorem x_callF0 (c : Cal (wdOf X) k x n ks gV (spM ω m)) (hr : Rm j X.A) (hj : k ≤ j) (hl : ks.length = i) (hg : Gl X x) (hx : ∀ σ, PassesAt (L2.CX X.prog X.w) X σ (fun cls d H => E cls d σ H))
    (hkw : PK X kws (rdA ω E mk)) (gk : GOk n i gM gV) (hks : (backToKw pos (keywordEach kws X.env)).filterMap (·.1) = ks := by rfl)
    (hall : (backToKw pos (keywordEach kws X.env)).all (·.1.isSome) = true := by rfl) (hdb : (x == ("__debug__" : Str)) = false := by decide)
    (hpl : ((backTo pos (starEach [] X.env)).any (·.1) || (backToKw pos (keywordEach kws X.env)).any (·.1.isNone)) = false := by rfl) :
    PE X (.Call (.Name x p) [] kws pos) (rdE ω E (mCallN n i m gM mNil mk)) := by
  subst hl
  refine x_call ((c_fn0 (E := fun σ cls d H => E cls d σ H) c hr hj hg hx hkw hks hall hdb hpl).to fun σ H Q h => ?_) gk
  obtain ⟨g, ρ, S, a, w⟩ := h
  exact w.ok a.c rps_nil
end
def cutU (us : List U) (lo hi : Option Int) : List U := (us.drop (HT.sIx us.length 0 lo)).take (HT.sIx us.length us.length hi - HT.sIx us.length 0 lo)
theorem Rps.cutV {g : Gd} {us : List U} {vs : List V} (r : Rps g us vs) (lo hi : Option Int) : Rps g (cutU us lo hi) (cutV vs lo hi) := by
  unfold cutU L2.cutV
  rw [r.len]
  exact (r.drop _).take _
def slM (c : Bool) (x : U) (lo hi : Option Int) (S : Sto) : Out U := match x with
  | .str z => if z.length ≤ 10000000 then .ok (.str (cutS z lo hi)) S else .bad
  | x => match lsOf S x with
    | some us => newLst c (cutU us lo hi) S
    | none => .bad
def uSl (K : PySem.W.Frag) : V → Option Int → Option Int → Hp → VK → Prop := fun x lo hi H Q => rSlL K x lo hi H Q ∨ rSlS x lo hi H Q
theorem u_sl {X : Cx} : SlR X (uSl X.K) := sl_list.or sl_str
theorem s_sl {K : PySem.W.Frag} {c : Bool} {g : Gd} {H : Hp} {S : Sto} {u : U} {v : V} {lo hi : Option Int} {Q : VK} {E : XK} (k : Cor g H S) (r : Rp g u v) (w : Wp g H Rp Q E (slM c u lo hi S)) : uSl K v lo hi H Q := by
  unfold slM at w
  split at w
  · rename_i z
    by_cases h : z.length ≤ 10000000
    · rw [if_pos h] at w
      right
      rw [r.of_str]
      exact ⟨z, rfl, by rw [sizeLine_eq]; omega, w.ok k rp_str⟩
    · rw [if_neg h] at w; exact w.elim
  · split at w
    · rename_i us h
      obtain ⟨a, vs, rfl, ha, hr⟩ := ls_of k r h
      exact Or.inl ⟨a, vs, rfl, SqL.of ha, (new_lst k (hr.cutV lo hi) w).2⟩
    · exact w.elim
@[simp] def mSl01 (c : Bool) (a h : ME U) : ME U := fun ρ S => (a ρ S).bind fun x S1 => (h ρ S1).bind fun y S2 => match y with
  | .int j => slM c x none (some j) S2
  | _ => .bad
@[simp] def mSl10 (c : Bool) (a l : ME U) : ME U := fun ρ S => (a ρ S).bind fun x S1 => (l ρ S1).bind fun y S2 => match y with
  | .int i => slM c x (some i) none S2
  | _ => .bad
@[simp] def mSl11 (c : Bool) (a l h : ME U) : ME U := fun ρ S => (a ρ S).bind fun x S1 => (l ρ S1).bind fun y S2 => match y with
  | .int i => (h ρ S2).bind fun z S3 => match z with
    | .int j => slM c x (some i) (some j) S3
    | _ => .bad
  | _ => .bad
section
variable {ω : Om} {X : Cx} {E : WX} {e : Expr} {c : Bool} {ma ml mh : ME U}
theorem x_sl01 (h : PE X e (tSl (uSl X.K) (rdE ω E ma) tNoPart (tPart (rdE ω E mh)))) : PE X e (rdE ω E (mSl01 c ma mh)) := h.to fun σ H Q h => by
  refine (rd_bind (R := Rp) (m := ma) (kk := fun ρ x S1 => (mh ρ S1).bind fun y S2 => match y with
    | .int j => slM c x none (some j) S2
    | _ => .bad) h).mono ?_
  rintro x H1 ⟨g1, ρ, S1, u, a1, r1, w1⟩
  refine ⟨g1, ρ, S1, a1, (Wp.bind (R := Rp) w1).mono ?_⟩
  rintro y H2 ⟨g2, S2, d, x2, c2, r2, w2⟩
  cases d with
  | int j => exact ⟨j, r2.of_int, s_sl c2 (x2.rp r1) w2⟩
  | _ => exact w2.elim
theorem x_sl10 (h : PE X e (tSl (uSl X.K) (rdE ω E ma) (tPart (rdE ω E ml)) tNoPart)) : PE X e (rdE ω E (mSl10 c ma ml)) := h.to fun σ H Q h => by
  refine (rd_bind (R := Rp) (m := ma) (kk := fun ρ x S1 => (ml ρ S1).bind fun y S2 => match y with
    | .int j => slM c x (some j) none S2
    | _ => .bad) h).mono ?_
  rintro x H1 ⟨g1, ρ, S1, u, a1, r1, w1⟩
  refine ⟨g1, ρ, S1, a1, (Wp.bind (R := Rp) w1).mono ?_⟩
  rintro y H2 ⟨g2, S2, d, x2, c2, r2, w2⟩
  cases d with
  | int j => exact ⟨j, r2.of_int, s_sl c2 (x2.rp r1) w2⟩
  | _ => exact w2.elim
theorem x_sl11 (h : PE X e (tSl (uSl X.K) (rdE ω E ma) (tPart (rdE ω E ml)) (tPart (rdE ω E mh)))) : PE X e (rdE ω E (mSl11 c ma ml mh)) := h.to fun σ H Q h => by
  refine (rd_bind (R := Rp) (m := ma) (kk := fun ρ x S1 => (ml ρ S1).bind fun y S2 => match y with
    | .int i => (mh ρ S2).bind fun z S3 => match z with
      | .int j => slM c x (some i) (some j) S3
      | _ => .bad
    | _ => .bad) h).mono ?_
  rintro x H1 ⟨g1, ρ, S1, u, a1, r1, w1⟩
  refine ⟨g1, ρ, S1, a1, (Wp.bind (R := Rp) w1).mono ?_⟩
  rintro y H2 ⟨g2, S2, d, x2, c2, r2, w2⟩
  cases d with
  | int i =>
    refine ⟨i, r2.of_int, g2, ρ, S2, ⟨a1.e.mono x2, c2⟩, (Wp.bind (R := Rp) w2).mono ?_⟩
    rintro z H3 ⟨g3, S3, d3, x3, c3, r3, w3⟩
    cases d3 with
    | int j => exact ⟨j, r3.of_int, s_sl c3 (x3.rp (x2.rp r1)) w3⟩
    | _ => exact w3.elim
  | _ => exact w2.elim
end
end Z

namespace Z
open PySem PySem.Spec PyProof.Rows L2
@[simp] def mTM (o : U → List U → Sto → Out U) (a : ME U) (r : ME (List U)) : ME U := fun ρ S => (a ρ S).bind fun x S1 => match x with
  | .str _ => (r ρ S1).bind (o x)
  | _ => .bad
section
variable {ω : Om} {X : Cx} {E : WX} {e : Expr} {ma : ME U} {mr : ME (List U)}
theorem x_tm {o : U → List U → Sto → Out U} {r : V → List V → Hp → VK → Prop} (h : PE X e (tBM X.K "str" r (rdE ω E ma) (rdA ω E mr))) (s : SMt o r) : PE X e (rdE ω E (mTM o ma mr)) := h.to fun σ H Q h => by
  refine (rd_bind (R := Rp) (m := ma) (kk := fun ρ x S1 => match x with
    | .str _ => (mr ρ S1).bind (o x)
    | _ => .bad) h).mono ?_
  rintro x H1 ⟨g1, ρ, S1, d, a1, r1, w1⟩
  cases d with
  | str z =>
    have e := r1.of_str
    subst e
    refine ⟨?_, g1, ρ, S1, a1, (Wp.bind (R := Rps) w1).mono ?_⟩
    · show "str" = "str"; rfl
    · rintro xs H2 ⟨g2, S2, ds, x2, c2, r2, w2⟩
      exact s g2 H2 S2 _ ds _ xs Q _ c2 rp_str r2 w2
  | _ => exact w1.elim
end
def strsOf : List U → Option (List Str)
  | [] => some []
  | .str b :: us => (strsOf us).map (b :: ·)
  | _ :: _ => none
theorem strs_of {g : Gd} : ∀ {us : List U} {bs : List Str} {vs : List V}, strsOf us = some bs → Rps g us vs → vs = bs.map V.str
  | [], _, _, h, r => by cases h; exact r.of_nil
  | .str b :: us, bs, vs, h, r => by
    obtain ⟨v, ws, rfl, r1, r2⟩ := r.of_cons
    obtain ⟨bs', e, rfl⟩ := Option.map_eq_some_iff.mp h
    rw [r1.of_str, strs_of e r2]; rfl
  | .non :: _, _, _, h, _ => by cases h
  | .bl _ :: _, _, _, h, _ => by cases h
  | .int _ :: _, _, _, h, _ => by cases h
  | .lst _ :: _, _, _, h, _ => by cases h
  | .tup _ :: _, _, _, h, _ => by cases h
  | .dct _ _ :: _, _, _, h, _ => by cases h
  | .dtt _ _ :: _, _, _, h, _ => by cases h
  | .exc _ _ _ _ :: _, _, _, h, _ => by cases h
  | .cel _ :: _, _, _, h, _ => by cases h
  | .scr _ :: _, _, _, h, _ => by cases h
@[simp] theorem strsOf_map (ns : List Str) : strsOf (ns.map U.str) = some ns := by
  induction ns with
  | nil => rfl
  | cons n ns ih => show (strsOf (ns.map U.str)).map (n :: ·) = _; rw [ih]; rfl
theorem rps_strs {g : Gd} : ∀ ys : List Str, Rps g (ys.map U.str) (ys.map V.str)
  | [] => rps_nil
  | _ :: ys => rps_cons rp_str (rps_strs ys)
def joinM (x : U) (us : List U) (S : Sto) : Out U := match x, us with
  | .str a, [y] => match (sqOf S y).bind strsOf with
    | some ys => if (ys.map (·.length)).sum + ys.length * a.length ≤ 10000000 then .ok (.str (Txt.join a ys)) S else .bad
    | none => .bad
  | _, _ => .bad
def splitM (c : Bool) (x : U) (us : List U) (S : Sto) : Out U := match x, us with
  | .str a, [.str b] => if (b.length == 0) = false ∧ a.length ≤ 10000000 then newLst c ((Txt.split a b).map U.str) S else .bad
  | _, _ => .bad
def startsM (x : U) (us : List U) (S : Sto) : Out U := match x, us with
  | .str a, [.str b] => .ok (.bl (Txt.startswith a b)) S
  | _, _ => .bad
def findM (x : U) (us : List U) (S : Sto) : Out U := match x, us with
  | .str a, [.str b] => .ok (.int (Txt.find a b)) S
  | _, _ => .bad
theorem s_join {K : PySem.W.Frag} : SMt joinM (fun x xs H Q => ∃ a p, ∃ ys : List Str, x = .str a ∧ xs = [.ref p] ∧ (SqL K H p (ys.map V.str) ∨ SqT K H p (ys.map V.str)) ∧
    (ys.map (·.length)).sum + ys.length * a.length ≤ 16777216 ∧ Q (.str (Txt.join a ys)) H) := fun g H S d ds x xs Q E k r rs w => by
  unfold joinM at w
  split at w
  · rename_i a y
    obtain ⟨v, ws, rfl, r1, r2⟩ := rs.of_cons
    rw [r2.of_nil, r.of_str]
    cases e1 : sqOf S y with
    | none => rw [e1] at w; exact w.elim
    | some us =>
      rw [e1] at w
      cases e2 : strsOf us with
      | none => rw [Option.bind_some, e2] at w; exact w.elim
      | some ys =>
        rw [Option.bind_some, e2] at w
        dsimp only at w
        obtain ⟨p, vs, rfl, hs, hr⟩ := sq_of (K := K) k r1 e1
        have ev := strs_of e2 hr
        subst ev
        by_cases l : (ys.map (·.length)).sum + ys.length * a.length ≤ 10000000
        · rw [if_pos l] at w
          exact ⟨a, p, ys, rfl, rfl, hs, by omega, w.ok k rp_str⟩
        · rw [if_neg l] at w; exact w.elim
  · exact w.elim
theorem s_split {c : Bool} : SMt (splitM c) (fun x xs H Q => ∃ a b, x = .str a ∧ xs = [.str b] ∧ (b.length == 0) = false ∧ a.length + 2 ≤ sizeLine ∧ rNewStrs (Txt.split a b) H Q) := fun g H S d ds x xs Q E k r rs w => by
  unfold splitM at w
  split at w
  · rename_i a b
    obtain ⟨v, ws, rfl, r1, r2⟩ := rs.of_cons
    rw [r2.of_nil, r.of_str, r1.of_str]
    by_cases l : (b.length == 0) = false ∧ a.length ≤ 10000000
    · rw [if_pos l] at w
      exact ⟨a, b, rfl, rfl, l.1, by rw [sizeLine_eq]; omega, (new_lst k (rps_strs _) w).2⟩
    · rw [if_neg l] at w; exact w.elim
  · exact w.elim
theorem s_starts : SMt startsM (fun x xs H Q => ∃ a b, x = .str a ∧ xs = [.str b] ∧ Q (.bl (Txt.startswith a b)) H) := fun g H S d ds x xs Q E k r rs w => by
  unfold startsM at w
  split at w
  · rename_i a b
    obtain ⟨v, ws, rfl, r1, r2⟩ := rs.of_cons
    rw [r2.of_nil, r.of_str, r1.of_str]
    exact ⟨a, b, rfl, rfl, w.ok k rp_bl⟩
  · exact w.elim
theorem s_find : SMt findM (fun x xs H Q => ∃ a b, x = .str a ∧ xs = [.str b] ∧ Q (.int (Txt.find a b)) H) := fun g H S d ds x xs Q E k r rs w => by
  unfold findM at w
  split at w
  · rename_i a b
    obtain ⟨v, ws, rfl, r1, r2⟩ := rs.of_cons
    rw [r2.of_nil, r.of_str, r1.of_str]
    exact ⟨a, b, rfl, rfl, w.ok k rp_int⟩
  · exact w.elim
end Z

namespace Z
open PySem PySem.Spec PyProof.Rows L2
def inSM (neg : Bool) (x y : U) (S : Sto) : Out U := match x, y with
  | .str w, .str z => match w.cps.toList with
    | [c] => .ok (.bl (if neg = true then !decide (c ∈ z.cps.toList) else decide (c ∈ z.cps.toList))) S
    | _ => .bad
  | _, _ => .bad
theorem one_sign {w : Str} {c : Nat} (h : w.cps.toList = [c]) : w = ⟨#[c]⟩ := by
  obtain ⟨a⟩ := w
  have : a = #[c] := by rw [← Array.toArray_toList (xs := a), h]
  rw [this]
theorem s_inS : SOp (inSM false) rInS := fun g H S d e x y Q E k rx ry w => by
  unfold inSM at w
  split at w
  · rename_i a z
    rw [rx.of_str, ry.of_str]
    split at w
    · rename_i c h
      exact ⟨c, z, congrArg V.str (one_sign h), rfl, w.ok k rp_bl⟩
    · exact w.elim
  · exact w.elim
theorem s_notInS : SOp (inSM true) rNotInS := fun g H S d e x y Q E k rx ry w => by
  unfold inSM at w
  split at w
  · rename_i a z
    rw [rx.of_str, ry.of_str]
    split at w
    · rename_i c h
      exact ⟨c, z, congrArg V.str (one_sign h), rfl, w.ok k rp_bl⟩
    · exact w.elim
  · exact w.elim
def isbM (neg : Bool) (x y : U) (S : Sto) : Out U := match x, y with
  | .bl a, .bl b => .ok (.bl (if neg = true then !decide (a = b) else decide (a = b))) S
  | .int _, .bl _ => .ok (.bl neg) S
  | _, _ => .bad
def rIsBI (neg : Bool) : R2 := fun x y H Q => (∃ a b : Bool, x = .bl a ∧ y = .bl b ∧ Q (.bl (if neg = true then !decide (a = b) else decide (a = b))) H) ∨ ∃ i b, x = .int i ∧ y = .bl b ∧ Q (.bl neg) H
theorem op_isBI {X : Cx} : OpR X (compareOp .Is) (rIsBI false) := by
  intro pins s σ H x y v u Q I rx ry h
  rcases h with ⟨a, b, e1, e2, q⟩ | ⟨i, b, rfl, rfl, q⟩
  · exact op_isBl pins s σ H x y v u Q I rx ry ⟨a, b, e1, e2, by simpa using q⟩
  · obtain ⟨t, rfl⟩ := rx
    cases (show u = Value.bool b from ry)
    exact wpAny_is_other rfl (fun z => by cases z) ⟨.bl false, H, I, rfl, q⟩
theorem op_notBI {X : Cx} : OpR X (compareOp .IsNot) (rIsBI true) := by
  intro pins s σ H x y v u Q I rx ry h
  rcases h with ⟨a, b, e1, e2, q⟩ | ⟨i, b, rfl, rfl, q⟩
  · exact op_notBl pins s σ H x y v u Q I rx ry ⟨a, b, e1, e2, by simpa using q⟩
  · obtain ⟨t, rfl⟩ := rx
    cases (show u = Value.bool b from ry)
    exact wpAny_isNot_other rfl (fun z => by cases z) ⟨.bl true, H, I, rfl, q⟩
theorem s_isb {neg : Bool} : SOp (isbM neg) (rIsBI neg) := fun g H S d e x y Q E k rx ry w => by
  unfold isbM at w
  split at w
  · rename_i a b
    exact Or.inl ⟨a, b, rx.of_bl, ry.of_bl, w.ok k rp_bl⟩
  · rename_i i b
    exact Or.inr ⟨i, b, rx.of_int, ry.of_bl, w.ok k rp_bl⟩
  · exact w.elim
/-- the items at the places is -/
def pick {α : Type} (is : List Nat) (l : List α) : List α := is.filterMap fun i => l[i]?
theorem rps_pick {g : Gd} {us : List U} {vs : List V} (r : Rps g us vs) : ∀ is : List Nat, Rps g (pick is us) (pick is vs)
  | [] => rps_nil
  | i :: is => by
    have ih := rps_pick r is
    unfold pick at ih ⊢
    rw [List.filterMap_cons, List.filterMap_cons]
    cases e : us[i]? with
    | none =>
      have e2 : vs[i]? = none := by
        rw [List.getElem?_eq_none_iff] at e ⊢
        rw [r.len]; exact e
      rw [e2]; exact ih
    | some d =>
      obtain ⟨v, e2, rv⟩ := r.get e
      rw [e2]; exact rps_cons rv ih
theorem vals_get : ∀ {vs : List V} {us : List Value}, Vals vs us → ∀ i : Nat, (vs[i]? = none ∧ us[i]? = none) ∨ ∃ v u, vs[i]? = some v ∧ us[i]? = some u ∧ RelV v u
  | _, _, .nil, i => Or.inl ⟨by simp, by simp⟩
  | _, _, .cons r t, 0 => Or.inr ⟨_, _, rfl, rfl, r⟩
  | _, _, .cons r t, i + 1 => by simpa using vals_get t i
theorem vals_pick {vs : List V} {us : List Value} (r : Vals vs us) : ∀ is : List Nat, Vals (pick is vs) (pick is us)
  | [] => .nil
  | i :: is => by
    have ih := vals_pick r is
    unfold pick at ih ⊢
    rw [List.filterMap_cons, List.filterMap_cons]
    rcases vals_get r i with ⟨e1, e2⟩ | ⟨v, u, e1, e2, rv⟩
    · rw [e1, e2]; exact ih
    · rw [e1, e2]; exact .cons rv ih
theorem gok_pick {n j : Nat} {is : List Nat} : GOk n j (fun us zs => pick is (us ++ zs)) (fun vs ws => pick is (vs ++ ws)) := fun g us zs vs ws r1 r2 _ _ => rps_pick (r1.app r2) is
end Z

namespace Z
open PySem PySem.Spec PyProof.Rows L2
def lenDM (x : U) (S : Sto) : Out U := match x with
  | .cel n => match S[n]? with
    | some (.dK kvs) => .ok (.int kvs.length) S
    | _ => .bad
  | _ => .bad
theorem s_lenD {ω : Om} : SCBw ω (on1 lenDM) (fun xs H Q => ∃ a kvs, xs = [V.ref a] ∧ H a = some (.dK kvs) ∧ Q (.int kvs.length) H) := s_on1 fun g H S d x Q E o k r w => by
  unfold lenDM at w
  split at w
  · rename_i n
    obtain ⟨a, ha, rfl⟩ := r.of_cel
    split at w
    · rename_i kvs e
      obtain ⟨vs, e2, hr⟩ := k.get ha e
      refine ⟨a, vs, rfl, e2, ?_⟩
      have el : vs.length = kvs.length := by
        have : ∀ {xs : List (Key × U)} {ys : List (Key × V)}, RpF g xs ys → ys.length = xs.length := fun {xs ys} h => by
          induction h with
          | nil => rfl
          | cons _ _ ih => rw [List.length_cons, List.length_cons, ih]
        exact this hr
      rw [el]
      exact w.ok k rp_int
    · exact w.elim
  · exact w.elim
end Z

namespace L2
open PySem PySem.Spec PyProof.Rows
def rSortedTI (K : PySem.W.Frag) : List V → Hp → VK → Prop := fun vs H Q => ∃ (a : Addr) (ns : List Int), vs = [V.ref a] ∧ SqT K H a (ns.map V.int) ∧
  ∀ (ns' : List Int) (p : Addr), ns'.Perm ns → ns'.Pairwise (· ≤ ·) → H p = none → Q (.ref p) (upd H p (.lst (ns'.map V.int)))
def rSortedDI : List V → Hp → VK → Prop := fun xs H Q => ∃ (a : Addr) (kvs : List (Key × V)) (ks : List Int), xs = [.ref a] ∧ Rd H a (.dK kvs) ∧ kvs.map (·.1) = ks.map Sum.inl ∧ ks.length ≤ sizeLine ∧
    ∀ (ys : List Int) (p : Addr), ys.Perm ks → ys.Pairwise (· ≤ ·) → H p = none → Q (.ref p) (upd H p (.lst (ys.map V.int)))
section
variable {X : Cx}
theorem cr_sortedTI : CallR X (.builtin "sorted") (rSortedTI X.K) := by
  intro pins s σ H xs us Q I r h
  obtain ⟨a, ns, rfl, hs, q⟩ := h
  obtain ⟨u, rfl, rx⟩ := vals1 r
  cases rx
  obtain ⟨its, rv, ⟨o, ho, hc, n, hd⟩, hz⟩ := I.tuple hs
  have hi := rv.ints
  have hl := rv.length
  refine Calls.call_function_entry kind_sorted plain_sorted entry_sorted (args_sorted1 _) ?_
  unfold Builtin.«sorted»
  refine wpAny_bind (m := checkCount "sorted" 1 1 _) (wpAny_pure ?_)
  refine wpAny_bind (wpAny_collect_seq a (.inr rfl) ho hc hd (fun h' hk => ?_) (by rw [List.size_toArray]; omega))
  rw [show its.toArray.toList = its by simp]
  have I1 : Inv X pins σ H { s with heap := h' } := I.kept (t' := s.toks) hk
  have hz2 : its.length ≤ sizeLine := by omega
  refine wpAny_bind (wpAny_newList ?_ hz2)
  have hoL : (h'.push (seqObj "list" its.toArray 0)).get? h'.objs.size = some (seqObj "list" its.toArray 0) := Heap.get?_push_size _ rfl
  show wpAny _ _ _ _ _ { s with heap := h'.push (seqObj "list" its.toArray 0) }
  refine wpAny_bind (wpAny_holding (wpAny_call_entry slot_list_sort ⟨_, hoL, rfl⟩ entry_list_sort
    (SrtO.list_sort_ord (s := { s with heap := h'.push (seqObj "list" its.toArray 0) }) SrtO.swo_int hoL hz2 (fun h2 => SrtO.ints_sortable hi h2) fun out h1 h2 => ⟨_, rfl, ?_⟩) (args_list_sort _)))
  obtain ⟨k1, k2, k3⟩ := SrtO.ints_out hi h1 h2
  obtain ⟨ep, he'⟩ := sortedHeap_at (vs := its) (out := out.toArray) hoL
  have hlen : ((out.map SrtO.iv).map V.int).length ≤ sizeLine := by
    rw [List.length_map, k2.length_eq]
    rw [List.length_map] at hl
    omega
  refine wpAny_pure ⟨_, rfl, .ref h'.objs.size, upd H h'.objs.size (.lst ((out.map SrtO.iv).map V.int)), I1.laid (t' := s.toks) (fun b u e => ?_) (Nat.le_refl _)
    (show ObjOk X.prog X.w _ _ _ (.lst ((out.map SrtO.iv).map V.int)) from ⟨hlen, out, ep, vals_of_ints k1, he'⟩), rfl, q _ _ k2 k3 (I1.hok.fresh (Nat.le_refl _))⟩
  have hb : b < h'.objs.size := Heap.lt_size e
  rw [sortedHeap_old (Nat.ne_of_lt hb) (by rw [size_push']; exact Nat.lt_succ_of_lt hb)]
  exact Heap.get?_push_of_some _ e
theorem cr_sortedDI (hcalm : X.calm = true) : CallR X (.builtin "sorted") rSortedDI := by
  intro pins s σ H xs us Q I r q
  obtain ⟨a, kvs, ks, ex, hd, hks, h64, q⟩ := q
  subst ex
  obtain ⟨u, eu, rx⟩ := vals1 r
  subst eu
  cases rx
  obtain ⟨z, lo, vs, rel, dd⟩ := dk_rd I.hok hd
  obtain ⟨ep, hat⟩ := dd.dictAt
  have hkeys : vs.map (·.1) = ks.map Sum.inl := rel.keys.symm.trans hks
  have hl : vs.length = ks.length := by
    have e := congrArg List.length hkeys
    rw [List.length_map, List.length_map] at e
    exact e
  have h16 : vs.length ≤ sizeLine := by rw [hl]; exact h64
  refine Calls.call_function_entry kind_sorted plain_sorted entry_sorted (args_sorted1 _) ?_
  unfold Builtin.«sorted»
  refine wpAny_bind (m := checkCount "sorted" 1 1 _) (wpAny_pure ?_)
  refine wpAny_bind (PySem.W.kdu_collect (A := X.A.in1) (PySem.W.kdl_dict (knd := mixKind X.prog X.w) (kvs := vs) (ep := ep) lo) (I.ok.hd hcalm) hat h16 fun h' tk acc hk hacc => ?_)
  have hal : acc.toList.length = ks.length := by rw [Array.length_toList, hacc.1, hl]
  have hS : IntsAre acc.toList ks := ints_each hal fun j v e => by
    obtain ⟨k, x, e1, e2⟩ := hacc.2 j v (by rw [← Array.getElem?_toList]; exact e)
    have e3 : (vs.map (·.1))[j]? = some k := by rw [List.getElem?_map, e1]; rfl
    rw [hkeys, List.getElem?_map] at e3
    cases e4 : ks[j]? with
    | none => rw [e4] at e3; cases e3
    | some y =>
      rw [e4] at e3
      have e5 : Sum.inl y = k := Option.some.inj e3
      subst e5
      rcases keyIs_shape (show keyIs (Sum.inl y) v = true from e2) with ⟨i, t, ek, ev⟩ | ⟨z, t, ek, ev⟩
      · cases ek
        exact ⟨y, t, rfl, ev⟩
      · cases ek
  have I1 : Inv X pins σ H { s with heap := h', toks := tk } := I.kept hk
  have hz2 : acc.toList.length ≤ sizeLine := by rw [hal]; exact h64
  refine wpAny_bind (wpAny_newList ?_ hz2)
  have hoL : (h'.push (seqObj "list" acc.toList.toArray 0)).get? h'.objs.size = some (seqObj "list" acc.toList.toArray 0) := Heap.get?_push_size _ rfl
  show wpAny _ _ _ _ _ { s with heap := h'.push (seqObj "list" acc.toList.toArray 0), toks := tk }
  refine wpAny_bind (wpAny_holding (wpAny_call_entry slot_list_sort ⟨_, hoL, rfl⟩ entry_list_sort
    (SrtO.list_sort_ord (s := { s with heap := h'.push (seqObj "list" acc.toList.toArray 0), toks := tk }) SrtO.swo_int hoL hz2 (fun h2 => SrtO.ints_sortable hS h2) fun out h1 h2 => ⟨_, rfl, ?_⟩) (args_list_sort _)))
  obtain ⟨k1, k2, k3⟩ := SrtO.ints_out hS h1 h2
  obtain ⟨e', he'⟩ := sortedHeap_at (vs := acc.toList) (out := out.toArray) hoL
  have hlen : ((out.map SrtO.iv).map V.int).length ≤ sizeLine := by
    rw [List.length_map, k2.length_eq]
    exact h64
  refine wpAny_pure ⟨_, rfl, .ref h'.objs.size, upd H h'.objs.size (.lst ((out.map SrtO.iv).map V.int)), I1.laid (t' := tk) (fun b u e => ?_) (Nat.le_refl _)
    (show ObjOk X.prog X.w _ _ _ (.lst ((out.map SrtO.iv).map V.int)) from ⟨hlen, out, e', vals_of_ints k1, he'⟩), rfl, q _ _ k2 k3 (I1.hok.fresh (Nat.le_refl _))⟩
  have hb : b < h'.objs.size := Heap.lt_size e
  rw [sortedHeap_old (Nat.ne_of_lt hb) (by rw [size_push']; exact Nat.lt_succ_of_lt hb)]
  exact Heap.get?_push_of_some _ e
end
end L2
namespace Z
open PySem PySem.Spec PyProof.Rows L2
/-- the numbers that a list, a tuple, a dict's keys are -/
def intKeys : List Key → Option (List Int)
  | [] => some []
  | .inl i :: r => (intKeys r).map (i :: ·)
  | _ :: _ => none
theorem intKeys_eq : ∀ {ks : List Key} {ns : List Int}, intKeys ks = some ns → ks = ns.map Sum.inl
  | [], _, h => by cases h; rfl
  | .inl i :: r, _, h => by
    obtain ⟨ms, e, rfl⟩ := Option.map_eq_some_iff.mp h
    rw [intKeys_eq e]; rfl
  | .inr _ :: _, _, h => by cases h
def numsOf (S : Sto) (x : U) : Option (List Int) := match sqOf S x with
  | some us => intsOf us
  | none => match dcOf S x with
    | some (.k kvs) => if kvs.length ≤ 10000000 then intKeys (kvs.map (·.1)) else none
    | _ => none
def sortNM (c : Bool) (x : U) (S : Sto) : Out U := match numsOf S x with
  | some ns => newLst c ((isort ns).map U.int) S
  | none => .bad
def rSortedN (K : PySem.W.Frag) : List V → Hp → VK → Prop := fun xs H Q => (rSortedI K xs H Q ∨ rSortedTI K xs H Q) ∨ rSortedDI xs H Q
section
variable {X : Cx} {ω : Om} {K : PySem.W.Frag}
theorem u_sortedN (hc : X.calm = true) : CallR X (.builtin "sorted") (rSortedN X.K) := (cr_sortedI.or cr_sortedTI).or (cr_sortedDI hc)
theorem s_sortN {c : Bool} : SCBw ω (on1 (sortNM c)) (rSortedN K) := s_on1 fun g H S d x Q E o k r w => by
  unfold sortNM at w
  cases e : numsOf S d with
  | none => rw [e] at w; exact w.elim
  | some ns =>
    rw [e] at w
    have fin : ∀ (ns' : List Int) (p : Addr), ns'.Perm ns → ns'.Pairwise (· ≤ ·) → H p = none → Q (.ref p) (upd H p (.lst (ns'.map V.int))) := fun ns' p h1 h2 hp => by
      have e3 : ns' = isort ns := sort_one (h1.trans (isort_perm ns).symm) h2 (isort_pw ns)
      rw [e3]
      exact (new_lst k (rps_int (isort ns)) w).2 p hp
    unfold numsOf at e
    cases e1 : sqOf S d with
    | some us =>
      rw [e1] at e
      obtain ⟨a, vs, rfl, ha, hr⟩ := sq_of (K := K) k r e1
      rw [ints_of e hr] at ha
      rcases ha with ha | ha
      · exact Or.inl (Or.inl ⟨a, ns, rfl, ha, fin⟩)
      · exact Or.inl (Or.inr ⟨a, ns, rfl, ha, fin⟩)
    | none =>
      rw [e1] at e
      dsimp only at e
      cases e2 : dcOf S d with
      | none => rw [e2] at e; cases e
      | some dc =>
        rw [e2] at e
        cases dc with
        | t kvs => cases e
        | k kvs =>
          dsimp only at e
          by_cases l : kvs.length ≤ 10000000
          · rw [if_pos l] at e
            obtain ⟨a, rfl, vs, ha, hr⟩ := dc_at k r e2
            have hk : vs.map (·.1) = kvs.map (·.1) := by
              have : ∀ {xs : List (Key × U)} {ys : List (Key × V)}, RpF g xs ys → ys.map (·.1) = xs.map (·.1) := by
                intro xs ys h
                induction h with
                | nil => rfl
                | cons r t ih => rw [List.map_cons, List.map_cons, ih, r.1]
              exact this hr
            have ek := intKeys_eq e
            refine Or.inr ⟨a, vs, ns, rfl, ha, hk.trans ek, ?_, fin⟩
            have : ns.length = kvs.length := by
              have := congrArg List.length ek
              simpa using this.symm
            rw [this]; exact Nat.le_trans l ten
          · rw [if_neg l] at e; cases e
end
end Z

namespace L2
open PySem PySem.Spec PyProof.Rows
def rInDa (neg : Bool) (K : PySem.W.Frag) : V → V → Hp → VK → Prop := fun x y H Q => ∃ d c ds, Dp K H x d ∧ Dp K H y c ∧ (c = .list ds ∨ c = .tuple ds) ∧ PyData.plainAll ds = true ∧ d.plain = true ∧ d.depth ≤ 64 ∧
  Q (.bl (if neg = true then !ds.any fun z => PyData.eqv z d else ds.any fun z => PyData.eqv z d)) H
def rCntDa (K : PySem.W.Frag) : V → List V → Hp → VK → Prop := fun x xs H Q => ∃ y d ds, xs = [y] ∧ Dp K H x (.list ds) ∧ Dp K H y d ∧ PyData.plainAll ds = true ∧ d.plain = true ∧ d.depth ≤ 64 ∧ Q (.int (ds.countP fun z => PyData.eqv z d : Nat)) H
def rRemDa (K : PySem.W.Frag) : V → List V → Hp → VK → Prop := fun x xs H Q => ∃ l vs y d ds j, x = .ref l ∧ xs = [y] ∧ H l = some (.lst vs) ∧ Dp K H x (.list ds) ∧ Dp K H y d ∧ PyData.plainAll ds = true ∧ d.plain = true ∧ d.depth ≤ 64 ∧
  SeqAt.dataPlace ds d = some j ∧ Q .non (upd H l (.lst (vs.eraseIdx j)))
theorem vals_erase : ∀ {vs : List V} {us : List Value} (j : Nat), Vals vs us → Vals (vs.eraseIdx j) (us.eraseIdx j)
  | _, _, 0, .nil => .nil
  | _, _, _ + 1, .nil => .nil
  | _, _, 0, .cons r t => t
  | _, _, j + 1, .cons r t => .cons r (vals_erase j t)
section
variable {X : Cx}
theorem op_inDa (hu : X.A.units + 65 < cLine) : OpR X (compareOp .In) (rInDa false X.K) := by
  intro pins s σ H x y v u Q I rx ry h
  obtain ⟨d, c, ds, hd, he, hc, pd, pe, dl, q⟩ := h
  obtain ⟨as, r1⟩ := Dp.reads I d x v hd rx
  obtain ⟨bs, r2⟩ := Dp.reads I c y u he ry
  rcases hc with rfl | rfl
  · exact SeqAt.in_list_data r2 r1 pd pe (by omega) ⟨.bl _, H, I, rfl, q⟩
  · exact SeqAt.in_tuple_data r2 r1 pd pe (by omega) ⟨.bl _, H, I, rfl, q⟩
theorem op_notInDa (hu : X.A.units + 65 < cLine) : OpR X (compareOp .NotIn) (rInDa true X.K) := by
  intro pins s σ H x y v u Q I rx ry h
  obtain ⟨d, c, ds, hd, he, hc, pd, pe, dl, q⟩ := h
  obtain ⟨as, r1⟩ := Dp.reads I d x v hd rx
  obtain ⟨bs, r2⟩ := Dp.reads I c y u he ry
  rcases hc with rfl | rfl
  · exact SeqAt.notIn_list_data r2 r1 pd pe (by omega) ⟨.bl _, H, I, rfl, q⟩
  · exact SeqAt.notIn_tuple_data r2 r1 pd pe (by omega) ⟨.bl _, H, I, rfl, q⟩
theorem mt_countDa (hu : X.A.units + 65 < cLine) : MtR X "list.count" (rCntDa X.K) := by
  intro pins s σ H x xs v us Q I rx rxs h
  obtain ⟨y, d, ds, rfl, hx, hy, pd, pe, dl, q⟩ := h
  obtain ⟨u, rfl, ru⟩ := rxs.one
  obtain ⟨as, r1⟩ := Dp.reads I d y u hy ru
  obtain ⟨bs, r2⟩ := Dp.reads I (.list ds) x v hx rx
  cases r2 with
  | list h1 h2 h3 h4 => exact SeqAt.count_list_data ⟨_, h1, h2, _, h3⟩ h4 r1 pd pe (by omega) ⟨.int _, H, I.tok _, ⟨s.toks, rfl⟩, q⟩
theorem mt_removeDa (hu : X.A.units + 65 < cLine) : MtM X "list.remove" (rRemDa X.K) := by
  intro pins s σ H x xs v us Q I rx rxs h
  obtain ⟨l, vs, y, d, ds, j, rfl, rfl, hH, hx, hy, pd, pe, dl, hp, q⟩ := h
  obtain ⟨u, rfl, ru⟩ := rxs.one
  obtain ⟨as, r1⟩ := Dp.reads I d y u hy ru
  obtain ⟨bs, r2⟩ := Dp.reads I (.list ds) (.ref l) v hx rx
  cases rx
  obtain ⟨z, its, n, r, hl, e⟩ := I.lstM hH
  cases r2 with
  | list h1 h2 h3 h4 =>
    have e2 := h1.symm.trans e
    cases e2
    cases h3
    have ez : its.toArray.toList = its := by simp
    refine SeqAt.remove_list_data (vs := its.toArray) ⟨_, e, rfl, _, rfl⟩ h4 r1 pd pe (by omega) hp (by rw [List.size_toArray]; omega) ?_
    refine ⟨.non, _, I.lset (its' := its.eraseIdx j) (t' := s.toks) hH e ?_ (vals_erase j r) ?_, rfl, q⟩
    · show its.toArray.eraseIdxIfInBounds j = (its.eraseIdx j).toArray
      rw [List.eraseIdxIfInBounds_toArray]
    · have := List.length_eraseIdx_le vs j
      omega
end
end L2
namespace Z
open PySem PySem.Spec PyProof.Rows L2
theorem pys_map : ∀ ds : List D, pys ds = ds.map py
  | [] => by unfold pys; rfl
  | d :: ds => by unfold pys; rw [pys_map ds]; rfl
theorem pys_any (ds : List D) (d : D) : ((pys ds).any fun z => PyData.eqv z (py d)) = ds.any fun z => eqD z d := by rw [pys_map, List.any_map]; rfl
theorem pys_count (ds : List D) (d : D) : ((pys ds).countP fun z => PyData.eqv z (py d)) = ds.countP fun z => eqD z d := by rw [pys_map, List.countP_map]; rfl
theorem pys_place (ds : List D) (d : D) : SeqAt.dataPlace (pys ds) (py d) = ds.findIdx? fun z => eqD z d := by
  unfold SeqAt.dataPlace
  rw [pys_map, List.findIdx?_map]; rfl
theorem okE_plL {ds : List D} (h : okE (.lst ds) = true) : PyData.plainAll (pys ds) = true := by
  obtain ⟨_, h2, _⟩ := okE_of h
  unfold sm at h2
  exact PyData.plainAll_of_canLay0 _ (pys_ok ds h2)
theorem okE_plT {ds : List D} (h : okE (.tup ds) = true) : PyData.plainAll (pys ds) = true := by
  obtain ⟨_, h2, _⟩ := okE_of h
  unfold sm at h2
  exact PyData.plainAll_of_canLay0 _ (pys_ok ds h2)
theorem okE_pl {d : D} (h : okE d = true) : (py d).plain = true ∧ (py d).depth ≤ 64 := by
  obtain ⟨_, h2, h3⟩ := okE_of h
  exact ⟨PyData.plain_of_canLay0 _ (py_ok d h2), Nat.le_trans (py_dep d) h3⟩
def inDaM (neg : Bool) (x y : U) (S : Sto) : Out U := match res S 9 y, res S 9 x with
  | some (.lst ds), some d => if okE (.lst ds) = true ∧ okE d = true then .ok (.bl (if neg = true then !ds.any fun z => eqD z d else ds.any fun z => eqD z d)) S else .bad
  | some (.tup ds), some d => if okE (.tup ds) = true ∧ okE d = true then .ok (.bl (if neg = true then !ds.any fun z => eqD z d else ds.any fun z => eqD z d)) S else .bad
  | _, _ => .bad
theorem s_inDa {neg : Bool} {K : PySem.W.Frag} : SOp (inDaM neg) (rInDa neg K) := fun g H S d e x y Q E k r1 r2 w => by
  unfold inDaM at w
  split at w
  · rename_i ds d' h1 h2
    split at w
    · rename_i h
      obtain ⟨p1, p2, p3⟩ := okE_of h.1
      obtain ⟨q1, q2, q3⟩ := okE_of h.2
      have hy := rep_dp (K := K) (.lst ds) y p1 (rep_res k _ _ _ _ r2 h1).1
      refine ⟨py d', _, pys ds, rep_dp d' x q1 (rep_res k _ _ _ _ r1 h2).1, hy, Or.inl (by unfold py; rfl), okE_plL h.1, (okE_pl h.2).1, (okE_pl h.2).2, ?_⟩
      rw [pys_any]
      exact w.ok k rp_bl
    · exact w.elim
  · rename_i ds d' h1 h2
    split at w
    · rename_i h
      obtain ⟨p1, p2, p3⟩ := okE_of h.1
      obtain ⟨q1, q2, q3⟩ := okE_of h.2
      have hy := rep_dp (K := K) (.tup ds) y p1 (rep_res k _ _ _ _ r2 h1).1
      refine ⟨py d', _, pys ds, rep_dp d' x q1 (rep_res k _ _ _ _ r1 h2).1, hy, Or.inr (by unfold py; rfl), okE_plT h.1, (okE_pl h.2).1, (okE_pl h.2).2, ?_⟩
      rw [pys_any]
      exact w.ok k rp_bl
    · exact w.elim
  · exact w.elim
def cntM (x : U) (us : List U) (S : Sto) : Out U := match us with
  | [y] => (match res S 9 x, res S 9 y with
    | some (.lst ds), some d => if okE (.lst ds) = true ∧ okE d = true then .ok (.int (ds.countP fun z => eqD z d : Nat)) S else .bad
    | _, _ => .bad)
  | _ => .bad
theorem s_cnt {K : PySem.W.Frag} : SMt cntM (rCntDa K) := fun g H S d ds x xs Q E k r rs w => by
  unfold cntM at w
  split at w
  · rename_i y
    obtain ⟨v, ws, rfl, r1, r2⟩ := rs.of_cons
    rw [r2.of_nil]
    split at w
    · rename_i ds d' h1 h2
      split at w
      · rename_i h
        obtain ⟨p1, p2, p3⟩ := okE_of h.1
        obtain ⟨q1, q2, q3⟩ := okE_of h.2
        have hx := rep_dp (K := K) (.lst ds) x p1 (rep_res k _ _ _ _ r h1).1
        unfold py at hx
        refine ⟨v, py d', pys ds, rfl, hx, rep_dp d' v q1 (rep_res k _ _ _ _ r1 h2).1, okE_plL h.1, (okE_pl h.2).1, (okE_pl h.2).2, ?_⟩
        rw [pys_count]
        exact w.ok k rp_int
      · exact w.elim
    · exact w.elim
  · exact w.elim
def remM (x : U) (us : List U) (S : Sto) : Out U := match us with
  | [y] => (match celL S x, res S 9 x, res S 9 y with
    | some (n, ws), some (.lst ds), some d => if okE (.lst ds) = true ∧ okE d = true then (match ds.findIdx? fun z => eqD z d with
      | some j => .ok .non (S.set n (.lst (ws.eraseIdx j)))
      | none => .bad) else .bad
    | _, _, _ => .bad)
  | _ => .bad
theorem rps_erase {g : Gd} : ∀ {us : List U} {vs : List V} (j : Nat), Rps g us vs → Rps g (us.eraseIdx j) (vs.eraseIdx j)
  | [], _, _, h => by rw [h.of_nil]; exact rps_nil
  | d :: ds, _, 0, h => by
    obtain ⟨v, ws, rfl, h1, h2⟩ := h.of_cons
    exact h2
  | d :: ds, _, j + 1, h => by
    obtain ⟨v, ws, rfl, h1, h2⟩ := h.of_cons
    exact rps_cons h1 (rps_erase j h2)
theorem s_rem {K : PySem.W.Frag} : SMt remM (rRemDa K) := fun g H S d ds x xs Q E k r rs w => by
  unfold remM at w
  split at w
  · rename_i y
    obtain ⟨v, ws, rfl, r1, r2⟩ := rs.of_cons
    rw [r2.of_nil]
    split at w
    · rename_i n ws' ds d' h0 h1 h2
      obtain ⟨a, vs, rfl, ha, e, hr⟩ := celL_of k r h0
      split at w
      · rename_i h
        obtain ⟨p1, p2, p3⟩ := okE_of h.1
        obtain ⟨q1, q2, q3⟩ := okE_of h.2
        have hx := rep_dp (K := K) (.lst ds) _ p1 (rep_res k _ _ _ _ r h1).1
        unfold py at hx
        split at w
        · rename_i j hj
          refine ⟨a, vs, v, py d', pys ds, j, rfl, rfl, e, hx, rep_dp d' v q1 (rep_res k _ _ _ _ r1 h2).1, okE_plL h.1, (okE_pl h.2).1, (okE_pl h.2).2, by rw [pys_place]; exact hj, ?_⟩
          obtain ⟨x, k2⟩ := k.setC (o := .lst (vs.eraseIdx j)) (c := .lst (ws'.eraseIdx j)) ha ⟨vs.eraseIdx j, upd_same, rps_erase j hr⟩ (celL_S h0)
          exact w _ _ _ x k2 rp_non
        · exact w.elim
      · exact w.elim
    · exact w.elim
  · exact w.elim
theorem rm65 {X : Cx} (hr : Rm 1 X.A) : X.A.units + 65 < cLine := by have := hr.r.un; omega
theorem rel_int {i : Int} {t : Tok} : RelV (.int i) (Value.int i t) := ⟨t, rfl⟩
theorem rel_str {i : Str} {t : Tok} : RelV (.str i) (Value.str i t) := ⟨t, rfl⟩
theorem gok_pickD {n j : Nat} {is : List Nat} {dU : List U} {dV : List V} (h : ∀ g, Rps g dU dV) : GOk n j (fun us zs => pick is (us ++ zs ++ dU)) (fun vs ws => pick is (vs ++ ws ++ dV)) := fun g us zs vs ws r1 r2 _ _ => rps_pick ((r1.app r2).app (h g)) is
end Z
namespace L2
open PySem PySem.Spec PyProof.Rows
def repS (z : Str) (n : Nat) : Str := ⟨(List.replicate n z.cps).foldl (· ++ ·) #[]⟩
theorem fold_size {α : Type} (a : Array α) : ∀ (n : Nat) (acc : Array α), ((List.replicate n a).foldl (· ++ ·) acc).size = acc.size + n * a.size
  | 0, acc => by simp
  | n + 1, acc => by
    rw [List.replicate_succ, List.foldl_cons, fold_size a n, Array.size_append, Nat.succ_mul]; omega
theorem fold_list {α : Type} (a : Array α) : ∀ (n : Nat) (acc : Array α), ((List.replicate n a).foldl (· ++ ·) acc).toList = acc.toList ++ (List.replicate n a.toList).flatten
  | 0, acc => by simp
  | n + 1, acc => by
    rw [List.replicate_succ, List.foldl_cons, fold_list a n, Array.toList_append, List.replicate_succ, List.flatten_cons, List.append_assoc]
theorem repS_len (z : Str) (n : Nat) : (repS z n).length = n * z.length := by
  have := fold_size z.cps n #[]
  rw [show (#[] : Array Nat).size = 0 from rfl, Nat.zero_add] at this
  exact this
theorem repS_list (z : Str) (n : Nat) : (repS z n).cps.toList = (List.replicate n z.cps.toList).flatten := by
  have := fold_list z.cps n #[]
  rw [show (#[] : Array Nat).toList = [] from rfl, List.nil_append] at this
  exact this
def rMulS : V → V → Hp → VK → Prop := fun x y H Q => ∃ (z : Str) (k : Int), x = .str z ∧ y = .int k ∧ (1 ≤ k ∧ k ≤ 1000) ∧ (1 ≤ z.length ∧ z.length ≤ 1000) ∧ Q (.str (repS z k.toNat)) H
theorem op_mulS {X : Cx} : OpR X (binaryOp .Mult) rMulS := by
  intro pins s σ H x y v u Q I rx ry h
  obtain ⟨z, k, rfl, rfl, ⟨h1, h2⟩, ⟨h3, h4⟩, q⟩ := h
  obtain ⟨t, rfl⟩ := rx
  obtain ⟨t', rfl⟩ := ry
  have hm : z.length * k.toNat ≤ 1000 * 1000 := Nat.mul_le_mul h4 (by omega)
  refine P.mul_str (by rw [decide_eq_false (by omega), decide_eq_false (by omega)]; rfl) (fun _ _ e => ?_) (fun _ _ => ?_) ?_
  · have : (2 ^ 63 - 1) / 1000 ≤ ((2 : Int) ^ 63 - 1) / k := by
      refine Int.le_ediv_of_mul_le (by omega) ?_
      have : (2 ^ 63 - 1 : Int) / 1000 * k ≤ (2 ^ 63 - 1 : Int) / 1000 * 1000 := Int.mul_le_mul_of_nonneg_left h2 (by decide)
      exact Int.le_trans this (by decide)
    have h5 : (1000 : Int) < (2 ^ 63 - 1) / 1000 := by decide
    omega
  · unfold Builtin.Str.tooLong
    rw [decide_eq_false]
    rw [sizeLine_eq]
    omega
  · rw [if_neg (by omega)]
    by_cases e : (k == 1 || z.length == 0) = true
    · rw [if_pos e]
      have k1 : k = 1 := by
        rw [Bool.or_eq_true, beq_iff_eq, beq_iff_eq] at e
        rcases e with e | e
        · exact e
        · omega
      refine ⟨.str (repS z k.toNat), H, I, ⟨t, ?_⟩, q⟩
      have e2 : repS z k.toNat = z := by
        rw [k1]
        show (⟨#[] ++ z.cps⟩ : Str) = z
        rw [Array.empty_append]
      rw [e2]
    · rw [if_neg e]
      exact ⟨by
        have := repS_len z k.toNat
        show (repS z k.toNat).length ≤ sizeLine
        rw [this, sizeLine_eq, Nat.mul_comm]; omega, ⟨.str (repS z k.toNat), H, I.tok _, ⟨_, rfl⟩, q⟩⟩
end L2
namespace Z
open PySem PySem.Spec PyProof.Rows L2
def mulSM (x y : U) (S : Sto) : Out U := match x, y with
  | .str z, .int k => if (1 ≤ k ∧ k ≤ 1000) ∧ 1 ≤ z.length ∧ z.length ≤ 1000 then .ok (.str (repS z k.toNat)) S else .bad
  | _, _ => .bad
theorem s_mulS : SOp mulSM rMulS := fun g H S d e x y Q E k r1 r2 w => by
  unfold mulSM at w
  split at w
  · rename_i z kk
    rw [r1.of_str, r2.of_int]
    split at w
    · rename_i h
      exact ⟨z, kk, rfl, rfl, h.1, h.2, w.ok k rp_str⟩
    · exact w.elim
  · exact w.elim
end Z

namespace PySem.SeqAt
open AutoSeq1 (wpAny_loadPart')
open MeetsSeq PySem.W
theorem sub_str_dict : isSubtype (.type "str") (.type "dict") = pure false := by rw [isSubtype_type]; kernel_rfl
theorem sub_dict_str : isSubtype (.type "dict") (.type "str") = pure false := by rw [isSubtype_type]; kernel_rfl
theorem str_eq_declines_dict (b : Str) (u : Tok) (l : Addr) (es : Array DictEntry) (n : Nat) (dd : Option Addr) (sl : Array (Option Value)) :
    Meets (Builtin.«str.__eq__» ⟨[.str b u, .ref l], []⟩) (fun _ R s => s.heap.get? l = some { cls := .type "dict", dict := dd, data := .dict es n, slots := sl } ∧ R (.ok (.ret .notImplemented)) s) :=
  .of_wp fun prog w A R s h => by obtain ⟨hp, g, d, tk, os⟩ := s; obtain ⟨hl, h⟩ := h; wp_walk using wpAny_loadPart' hl, wpAny_load hl; exact ⟨_, rfl, h⟩
theorem str_eq_declines_fields (b : Str) (u : Tok) (l : Addr) (c : Value) (vs : Array Value) (dd : Option Addr) (sl : Array (Option Value)) :
    Meets (Builtin.«str.__eq__» ⟨[.str b u, .ref l], []⟩) (fun _ R s => s.heap.get? l = some { cls := c, dict := dd, data := .fields vs, slots := sl } ∧ R (.ok (.ret .notImplemented)) s) :=
  .of_wp fun prog w A R s h => by obtain ⟨hp, g, d, tk, os⟩ := s; obtain ⟨hl, h⟩ := h; wp_walk using wpAny_loadPart' hl, wpAny_load hl; exact ⟨_, rfl, h⟩
theorem dict_eq_declines_str (l : Addr) (es : Array DictEntry) (n : Nat) (dd : Option Addr) (sl : Array (Option Value)) (b : Str) (u : Tok) :
    Meets (Builtin.«dict.__eq__» ⟨[.ref l, .str b u], []⟩) (fun _ R s => s.heap.get? l = some { cls := .type "dict", dict := dd, data := .dict es n, slots := sl } ∧ R (.ok (.ret .notImplemented)) s) :=
  .of_wp fun prog w A R s h => by obtain ⟨hp, g, d, tk, os⟩ := s; obtain ⟨hl, h⟩ := h; have f1 := sub_str_dict; wp_walk using wpAny_loadPart' hl, wpAny_load hl; exact ⟨_, rfl, h⟩
section
variable {A : Around} {s : Shared}
theorem RcAt.dict_str {l : Addr} {es : Array DictEntry} {n : Nat} {dd : Option Addr} {sl : Array (Option Value)} (b : Str) (u : Tok) (ho : s.heap.get? l = some { cls := .type "dict", dict := dd, data := .dict es n, slots := sl }) (hu : A.units < cLine) : RcAt A s (.ref l) (.str b u) false := fun prog w E Q h =>
  rc_eq_decline_or (k := false) ⟨_, ho, rfl⟩ (typeIs_str s b u) (by decide) sub_str_dict F.slot_dict_eq F.slot_str_eq_refl
    (fun _ hq => call_meets F.slot_dict_eq ⟨_, ho, rfl⟩ F.entry_dict_eq (F.args_dict_eq_2 _ _) (dict_eq_declines_str l es n dd sl b u) ⟨ho, hq⟩)
    (fun _ hq => call_meets F.slot_str_eq_refl (typeIs_str s b u) F.entry_str_eq (F.args_str_eq_2 _ _) (str_eq_declines_dict b u l es n dd sl) ⟨ho, hq⟩)
    (fun _ hq => wpAny_of_eq (rfl : isSame (.ref l) (.str b u) = pure false) hq) (.inr hu) h
theorem RcAt.str_dict {l : Addr} {es : Array DictEntry} {n : Nat} {dd : Option Addr} {sl : Array (Option Value)} (b : Str) (u : Tok) (ho : s.heap.get? l = some { cls := .type "dict", dict := dd, data := .dict es n, slots := sl }) (hu : A.units < cLine) : RcAt A s (.str b u) (.ref l) false := fun prog w E Q h =>
  rc_eq_decline_or (k := false) (typeIs_str s b u) ⟨_, ho, rfl⟩ (by decide) sub_dict_str F.slot_str_eq F.slot_dict_eq_refl
    (fun _ hq => call_meets F.slot_str_eq (typeIs_str s b u) F.entry_str_eq (F.args_str_eq_2 _ _) (str_eq_declines_dict b u l es n dd sl) ⟨ho, hq⟩)
    (fun _ hq => call_meets F.slot_dict_eq_refl ⟨_, ho, rfl⟩ F.entry_dict_eq (F.args_dict_eq_2 _ _) (dict_eq_declines_str l es n dd sl b u) ⟨ho, hq⟩)
    (fun _ hq => wpAny_of_eq (rfl : isSame (.str b u) (.ref l) = pure false) hq) (.inr hu) h
end
end PySem.SeqAt
namespace PySem
open Builtin
open PySem.W (Looks Frag findIn subIn looks_findIn looks_subIn clsIn looks_clsIn)
namespace ZE
theorem sub_str_ref (C : Addr) : isSubtype (.type "str") (.ref C) = pure false := by
  unfold isSubtype
  rw [show mroOf (.type "str") = pure [.type "str", .type "object"] by kernel_rfl]
  rfl
section
variable {prog : Program} {w : World} {M : Model} {A : Around} {E : Value → Shared → Prop} {s : Shared} {K : Frag} {C x : Addr} {o : Obj} {b : Str} {u : Tok}
theorem special_K {name : Str} {r : Option Value} {Q : Option Value → Shared → Prop} (LT : Looks M s.heap (typeOf (.ref x)) (.ref C)) (X : K.In s.heap) (hf : findIn K (.ref C) name = some r) (hq : Q r s) : wpAny M A (specialOf (.ref x) name) Q E s := by
  unfold specialOf
  exact wpAny_bind (LT.here ((looks_findIn X hf).here hq))
theorem objEq_str {Q : Fin → Shared → Prop} (hq : Q (.done (.ret .notImplemented)) s) : wpAny M A (Builtin.«object.__eq__» ⟨[.ref x, .str b u], []⟩) Q E s := by
  unfold Builtin.«object.__eq__»
  repeat (first | (with_reducible refine wpAny_of_eq (rfl : isSame (.ref x) (.str b u) = pure false) ?_) | wp_step)
  exact hq
theorem try_K {Q : Option Value → Shared → Prop} (LT : ∀ M, Looks M s.heap (typeOf (.ref x)) (.ref C)) (X : K.In s.heap) (hf : findIn K (.ref C) "__eq__" = some (some (.builtin "object.__eq__"))) (hO : subIn K (.ref C) (.type "object") = some true) (hq : Q none s) :
    wpAny (model prog w) A (tryCompare (.ref x) "__eq__" (.str b u)) Q E s := by
  simp only [tryCompare, callSpecialIfBound?, bindSpecialIfBound?]
  refine wpAny_bind (wpAny_holding (wpAny_bind (wpAny_bind (special_K (LT _) X hf ?_))))
  simp only [F.cmp_object.eq.bind]
  refine wpAny_bind (wpAny_askSetting (wpAny_ite ?_))
  have fin : ∀ {Q' : Option Value → Shared → Prop} {A' : Around} {E' : Value → Shared → Prop}, Q' (some .notImplemented) s → wpAny (model prog w) A' (call (.builtin "object.__eq__") ([.ref x] ++ [.str b u]) >>= fun v => pure (some v)) Q' E' s := fun q =>
    wpAny_bind (wpAny_call (codeAny_call_builtin F.cmp_object.eq.plain F.cmpEntry_eq (W.check_slot F.cmpKind_eq F.cmpSplit_eq ((LT _).andThen (looks_subIn X hO)) (F.cmpArgs_eq _ _) (objEq_str (wpAny_pure q)))))
  split
  · exact wpAny_bind (wpAny_pure (wpAny_pure (fin (wpAny_pure hq))))
  · exact wpAny_tryCatch (wpAny_bind (wpAny_pure (wpAny_pure (fin (wpAny_pure hq)))))
theorem RcAt_exc_str {vs : Array Value} (hl : s.heap.get? x = some { cls := .ref C, dict := o.dict, data := .fields vs, slots := o.slots }) (X : K.In s.heap) (hf : findIn K (.ref C) "__eq__" = some (some (.builtin "object.__eq__"))) (hO : subIn K (.ref C) (.type "object") = some true) (hu : A.units < cLine) :
    SeqAt.RcAt A s (.ref x) (.str b u) false := fun prog w E Q h => by
  have LT : ∀ M, Looks M s.heap (typeOf (.ref x)) (.ref C) := fun M => (Looks.ld hl).andThen .now
  simp only [richCompare, cmpInfo_Eq, oneThing_ref]
  try with_reducible refine wpAny_holding ?_
  refine wpAny_bind (wpAny_cRoomFor hu ?_)
  refine wpAny_bind ((LT _).here (wpAny_bind (wpAny_typeOf (typeIs_str s b u) ?_)))
  have hne : (Value.ref C != Value.type "str") = true := rfl
  simp only [hne, if_true]
  refine wpAny_bind (wpAny_of_eq (sub_str_ref C) ?_)
  simp only [Bool.false_eq_true, if_false, Bool.not_false, if_true]
  refine wpAny_bind (try_K LT X hf hO ?_)
  refine wpAny_bind (m := tryCompare (.str b u) _ (.ref x)) (wpAny_tryCompare_declines (typeIs_str s b u) F.slot_str_eq_refl (call_meets F.slot_str_eq_refl (typeIs_str s b u) F.entry_str_eq (F.args_str_eq_2 _ _) (SeqAt.str_eq_declines_fields b u x (.ref C) vs o.dict o.slots) ⟨hl, rfl, ?_⟩))
  exact wpAny_bind (wpAny_rule (wpAny_bind (wpAny_of_eq (rfl : isSame (.ref x) (.str b u) = pure false) (wpAny_pure h))))
theorem RcAt_str_exc {vs : Array Value} (hl : s.heap.get? x = some { cls := .ref C, dict := o.dict, data := .fields vs, slots := o.slots }) (X : K.In s.heap) (hf : findIn K (.ref C) "__eq__" = some (some (.builtin "object.__eq__"))) (hO : subIn K (.ref C) (.type "object") = some true) (hS : subIn K (.ref C) (.type "str") = some false) (hu : A.units < cLine) :
    SeqAt.RcAt A s (.str b u) (.ref x) false := fun prog w E Q h => by
  have LT : ∀ M, Looks M s.heap (typeOf (.ref x)) (.ref C) := fun M => (Looks.ld hl).andThen .now
  simp only [richCompare, cmpInfo_Eq, (typeIs_str s b u).oneThing_none]
  try with_reducible refine wpAny_holding ?_
  refine wpAny_bind (wpAny_cRoomFor hu ?_)
  refine wpAny_bind (wpAny_typeOf (typeIs_str s b u) (wpAny_bind ((LT _).here ?_)))
  have hne : (Value.type "str" != Value.ref C) = true := rfl
  simp only [hne, if_true]
  refine wpAny_bind ((looks_subIn X hS).here ?_)
  simp only [Bool.false_eq_true, if_false, Bool.not_false, if_true]
  refine wpAny_bind (m := tryCompare (.str b u) _ (.ref x)) (wpAny_tryCompare_declines (typeIs_str s b u) F.slot_str_eq (call_meets F.slot_str_eq (typeIs_str s b u) F.entry_str_eq (F.args_str_eq_2 _ _) (SeqAt.str_eq_declines_fields b u x (.ref C) vs o.dict o.slots) ⟨hl, rfl, ?_⟩))
  refine wpAny_bind (try_K LT X hf hO ?_)
  exact wpAny_bind (wpAny_rule (wpAny_bind (wpAny_of_eq (rfl : isSame (.str b u) (.ref x) = pure false) (wpAny_pure h))))
end
end ZE
end PySem
namespace Z
open PySem PySem.Spec PyProof.Rows L2
/-- what == asks of an exception's class -/
structure EqX (K : PySem.W.Frag) (C : Addr) : Prop where
  e : PySem.W.findIn K (.ref C) "__eq__" = some (some (.builtin "object.__eq__"))
  o : PySem.W.subIn K (.ref C) (.type "object") = some true
  s : PySem.W.subIn K (.ref C) (.type "str") = some false
def EqA (K : PySem.W.Frag) (o : Om) : Prop := ∀ nm, o.kc nm → EqX K (o.ad nm)
/-- a value of a known kind: the text that it is, if it is one -/
inductive KdS (K : PySem.W.Frag) (H : Hp) : V → Option Str → Prop
  | str (z : Str) : KdS K H (.str z) (some z)
  | non : KdS K H .non none
  | int (i : Int) : KdS K H (.int i) none
  | bl (b : Bool) : KdS K H (.bl b) none
  | lst {a : Addr} {xs : List V} (h : SqL K H a xs) : KdS K H (.ref a) none
  | tup {a : Addr} {xs : List V} (h : SqT K H a xs) : KdS K H (.ref a) none
  | dK {a : Addr} {kvs : List (Key × V)} (h : H a = some (.dK kvs)) : KdS K H (.ref a) none
  | dT {a : Addr} {kvs : List (List Key × V)} (h : H a = some (.dT kvs)) : KdS K H (.ref a) none
  | exc {a C t : Addr} {d : Option Addr} (h : H a = some (exv C t d a)) (q : EqX K C) : KdS K H (.ref a) none
def rEqS (K : PySem.W.Frag) : V → V → Hp → VK → Prop := fun x y H Q => ∃ z o, y = .str z ∧ KdS K H x o ∧ Q (.bl (decide (o = some z))) H
def rInSt (neg : Bool) (K : PySem.W.Frag) : V → V → Hp → VK → Prop := fun x y H Q => ∃ (a : Addr) (zs : List Str) (o : Option Str), y = .ref a ∧ (SqL K H a (zs.map V.str) ∨ SqT K H a (zs.map V.str)) ∧ KdS K H x o ∧
  Q (.bl (if neg = true then !zs.any fun z => decide (o = some z) else zs.any fun z => decide (o = some z))) H
section
variable {X : Cx} {pins : List (Addr × Obj)} {σ : L2.St} {H : Hp} {s : Shared} {v : Value} {x : V} {o : Option Str}
theorem dec_beq {a b : Str} : (a == b) = decide (some a = some b) := by
  rw [Bool.eq_iff_iff, beq_iff_eq, decide_eq_true_eq]
  exact ⟨fun h => by rw [h], fun h => Option.some.inj h⟩
theorem dec_beq' {a b : Str} : (b == a) = decide (some a = some b) := by
  rw [Bool.eq_iff_iff, beq_iff_eq, decide_eq_true_eq]
  exact ⟨fun h => by rw [h], fun h => (Option.some.inj h).symm⟩
theorem dict_obj {vs : List (Key × Value)} {a : Addr} (h : s.heap.DictOf (mixKind X.prog X.w) a vs) : ∃ es ep, s.heap.get? a = some { cls := .type "dict", dict := none, data := .dict es ep, slots := #[] } := by
  obtain ⟨o, es, ep, h1, ⟨c, d, sl⟩, h2, _⟩ := h
  obtain ⟨oc, od, odt, osl⟩ := o
  simp only at c d sl h2
  subst c d sl h2
  exact ⟨es, ep, h1⟩
theorem kds_rc (I : Inv X pins σ H s) (k : KdS X.K H x o) (r : RelV x v) (A : Around) (hu : A.units < cLine) (z : Str) (t : Tok) :
    SeqAt.RcAt A s v (.str z t) (decide (o = some z)) ∧ SeqAt.RcAt A s (.str z t) v (decide (o = some z)) := by
  cases k with
  | str w =>
    obtain ⟨u, rfl⟩ := r
    exact ⟨by rw [← dec_beq]; exact SeqAt.RcAt.str_str w u z t, by rw [← dec_beq']; exact SeqAt.RcAt.str_str z t w u⟩
  | non => cases r; exact ⟨SeqAt.RcAt.none_str z t, SeqAt.RcAt.str_none z t⟩
  | int i => obtain ⟨u, rfl⟩ := r; exact ⟨SeqAt.RcAt.int_str i u z t, SeqAt.RcAt.str_int z t i u⟩
  | bl b => cases r; exact ⟨SeqAt.RcAt.bool_str b z t, SeqAt.RcAt.str_bool z t b⟩
  | lst h =>
    cases r
    obtain ⟨its, rv, pl, hz⟩ := I.list h
    exact ⟨SeqAt.RcAt.list_str z t pl.isList hu, SeqAt.RcAt.str_list z t pl.isList hu⟩
  | tup h =>
    cases r
    obtain ⟨its, rv, pl, hz⟩ := I.tuple h
    exact ⟨SeqAt.RcAt.tuple_str z t pl hu, SeqAt.RcAt.str_tuple z t pl hu⟩
  | dK h =>
    cases r
    obtain ⟨_, _, vs, _, hd⟩ := (show ObjOk X.prog X.w H s.heap _ (.dK _) from I.hok _ _ h)
    obtain ⟨es, ep, ho⟩ := dict_obj hd
    exact ⟨SeqAt.RcAt.dict_str z t ho hu, SeqAt.RcAt.str_dict z t ho hu⟩
  | dT h =>
    cases r
    obtain ⟨_, _, xs, _, o, es, ep, h1, ⟨c, d, sl⟩, h2, _⟩ := (show ObjOk X.prog X.w H s.heap _ (.dT _) from I.hok _ _ h)
    obtain ⟨oc, od, odt, osl⟩ := o
    simp only at c d sl h2
    subst c d sl h2
    exact ⟨SeqAt.RcAt.dict_str z t h1 hu, SeqAt.RcAt.str_dict z t h1 hu⟩
  | @exc a C tt d h q =>
    cases r
    have ho := exv_get (I.hok _ _ h)
    exact ⟨ZE.RcAt_exc_str (o := { cls := .none, dict := d }) ho I.kIn q.e q.o hu, ZE.RcAt_str_exc (o := { cls := .none, dict := d }) ho I.kIn q.e q.o q.s hu⟩
theorem eqAt_ref {A : Around} {a : Addr} {z : Str} {t : Tok} (h : SeqAt.RcAt A s (.str z t) (.ref a) false) : SeqAt.EqAt A s (.str z t) (.ref a) false := fun prog w E Q q => by
  unfold eqBool
  refine wpAny_holding ?_
  refine wpAny_ite_split (fun hab => absurd (eq_of_beq hab) nofun) (fun _ => ?_)
  exact wpAny_bind (h prog w E _ (wpAny_truthy_bool q))
theorem kds_eq (I : Inv X pins σ H s) (k : KdS X.K H x o) (r : RelV x v) (A : Around) (hu : A.units < cLine) (z : Str) (t : Tok) : SeqAt.EqAt A s (.str z t) v (decide (o = some z)) := by
  have rc := (kds_rc I k r A hu z t).2
  cases k with
  | str w =>
    obtain ⟨u, rfl⟩ := r
    rw [← dec_beq']; exact SeqAt.EqAt.str_str z t w u
  | non => cases r; exact SeqAt.EqAt.str_none z t
  | int i => obtain ⟨u, rfl⟩ := r; exact SeqAt.EqAt.str_int z t i u
  | bl b => cases r; exact SeqAt.EqAt.str_bool z t b
  | lst h => cases r; exact eqAt_ref rc
  | tup h => cases r; exact eqAt_ref rc
  | dK h => cases r; exact eqAt_ref rc
  | dT h => cases r; exact eqAt_ref rc
  | exc h q => cases r; exact eqAt_ref rc
theorem op_eqS (hu : X.A.units < cLine) : OpR X (compareOp .Eq) (rEqS X.K) := by
  intro pins s σ H x y v u Q I rx ry h
  obtain ⟨z, o, rfl, k, q⟩ := h
  obtain ⟨t, rfl⟩ := ry
  exact (kds_rc I k rx X.A hu z t).1 X.prog X.w _ _ ⟨.bl _, H, I, rfl, q⟩
/-- what the items of a list of texts give -/
def eSt (o : Option Str) : Value → Bool
  | .str z _ => decide (o = some z)
  | _ => false
theorem strs_any : ∀ {zs : List Str} {us : List Value}, Vals (zs.map V.str) us → us.any (eSt o) = zs.any fun z => decide (o = some z)
  | [], _, .nil => rfl
  | z :: zs, _, .cons r t => by
    obtain ⟨tk, rfl⟩ := r
    rw [List.any_cons, List.any_cons, strs_any t]; rfl
theorem strs_mem : ∀ {zs : List Str} {us : List Value}, Vals (zs.map V.str) us → ∀ u ∈ us, ∃ z t, u = Value.str z t
  | [], _, .nil, u, m => by cases m
  | z :: zs, _, .cons r t, u, m => by
    obtain ⟨tk, rfl⟩ := r
    rcases List.mem_cons.mp m with e | m
    · exact ⟨z, tk, e⟩
    · exact strs_mem t u m
theorem op_inSt (hu : X.A.units + 1 < cLine) : OpR X (compareOp .In) (rInSt false X.K) := by
  intro pins s σ H x y v u Q I rx ry h
  obtain ⟨a, zs, o, rfl, hq, k, q⟩ := h
  cases ry
  have he : ∀ {its : List Value}, Vals (zs.map V.str) its → ∀ w ∈ its.toArray, SeqAt.EqAt X.A.in1 s w v (eSt o w) := fun r w m => by
    obtain ⟨z, t, rfl⟩ := strs_mem r w (by simpa using m)
    exact kds_eq I k rx X.A.in1 hu z t
  rcases hq with hq | hq
  · obtain ⟨its, r, pl, hz⟩ := I.list hq
    refine SeqAt.in_listAt (eSt o) pl.isList (he r) ⟨.bl _, H, I, rfl, ?_⟩
    rw [show its.toArray.any (eSt o) = its.any (eSt o) by simp, strs_any r]
    exact q
  · obtain ⟨its, r, pl, hz⟩ := I.tuple hq
    refine SeqAt.in_tupleAt (eSt o) pl (he r) ⟨.bl _, H, I, rfl, ?_⟩
    rw [show its.toArray.any (eSt o) = its.any (eSt o) by simp, strs_any r]
    exact q
theorem op_notInSt (hu : X.A.units + 1 < cLine) : OpR X (compareOp .NotIn) (rInSt true X.K) := by
  intro pins s σ H x y v u Q I rx ry h
  obtain ⟨a, zs, o, rfl, hq, k, q⟩ := h
  cases ry
  have he : ∀ {its : List Value}, Vals (zs.map V.str) its → ∀ w ∈ its.toArray, SeqAt.EqAt X.A.in1 s w v (eSt o w) := fun r w m => by
    obtain ⟨z, t, rfl⟩ := strs_mem r w (by simpa using m)
    exact kds_eq I k rx X.A.in1 hu z t
  rcases hq with hq | hq
  · obtain ⟨its, r, pl, hz⟩ := I.list hq
    refine SeqAt.notIn_listAt (eSt o) pl.isList (he r) ⟨.bl _, H, I, rfl, ?_⟩
    rw [show its.toArray.any (eSt o) = its.any (eSt o) by simp, strs_any r]
    exact q
  · obtain ⟨its, r, pl, hz⟩ := I.tuple hq
    refine SeqAt.notIn_tupleAt (eSt o) pl (he r) ⟨.bl _, H, I, rfl, ?_⟩
    rw [show its.toArray.any (eSt o) = its.any (eSt o) by simp, strs_any r]
    exact q
end
/-- the text that a value is, where its kind is known -/
def kS (S : Sto) : U → Option (Option Str)
  | .str z => some (some z)
  | .scr _ => none
  | .cel n => match S[n]? with
    | some (.lst _) => some none
    | some (.dK _) => some none
    | some (.dT _) => some none
    | _ => none
  | _ => some none
theorem kS_ok {K : PySem.W.Frag} {g : Gd} {H : Hp} {S : Sto} {u : U} {x : V} {o : Option Str} (ea : EqA K g.ca) (k : Cor g H S) (r : Rp g u x) (h : kS S u = some o) : KdS K H x o := by
  cases u with
  | non => cases h; rw [r.of_non]; exact .non
  | bl b => cases h; rw [r.of_bl]; exact .bl b
  | int i => cases h; rw [r.of_int]; exact .int i
  | str z => cases h; rw [r.of_str]; exact .str z
  | lst us => cases h; obtain ⟨a, vs, rfl, ha, hr⟩ := r.of_lst; exact .lst (SqL.of (k.fh a _ ha))
  | tup us => cases h; obtain ⟨a, vs, rfl, ha, hr⟩ := r.of_tup; exact .tup (SqT.of (k.fh a _ ha))
  | dct ks us => cases h; obtain ⟨a, vs, rfl, ha, hl, hr⟩ := r.of_dct; exact .dK (k.fh a _ ha)
  | dtt ks us => cases h; obtain ⟨a, vs, rfl, ha, hl, hr⟩ := r.of_dtt; exact .dT (k.fh a _ ha)
  | exc nm tx ks us =>
    cases h
    obtain ⟨kc, a, t, dd, vs, rfl, ha, ht, hd, _, _⟩ := r.of_exc
    exact .exc (k.fh a _ ha) (ea nm kc)
  | scr ns => cases h
  | cel n =>
    obtain ⟨a, ha, rfl⟩ := r.of_cel
    cases q : S[n]? with
    | none => simp [kS, q] at h
    | some c => cases c with
      | lst us => simp [kS, q] at h; subst h; obtain ⟨vs, e2, hr⟩ := k.get ha q; exact .lst (SqL.of e2)
      | dK us => simp [kS, q] at h; subst h; obtain ⟨vs, e2, hr⟩ := k.get ha q; exact .dK e2
      | dT us => simp [kS, q] at h; subst h; obtain ⟨vs, e2, hr⟩ := k.get ha q; exact .dT e2
      | _ => simp [kS, q] at h
def eqSM (x y : U) (S : Sto) : Out U := match y, kS S x with
  | .str z, some o => .ok (.bl (decide (o = some z))) S
  | _, _ => .bad
def inStM (neg : Bool) (x y : U) (S : Sto) : Out U := match (sqOf S y).bind strsOf, kS S x with
  | some zs, some o => .ok (.bl (if neg = true then !zs.any fun z => decide (o = some z) else zs.any fun z => decide (o = some z))) S
  | _, _ => .bad
/-- an operation keeps to its mirror where the classes are known -/
def SOpw (ω : Om) (o : U → U → Sto → Out U) (r : R2) : Prop := ∀ (g : Gd) (H : Hp) (S : Sto) (d e : U) (x y : V) (Q : VK) (E : XK), g.ca = ω → Cor g H S → Rp g d x → Rp g e y → Wp g H Rp Q E (o d e S) → r x y H Q
section
variable {ω : Om} {X : Cx} {E : WX} {K : PySem.W.Frag} {e : Expr} {ma mb : ME U}
theorem s_eqS (ea : EqA K ω) : SOpw ω eqSM (rEqS K) := fun g H S d e x y Q E hk k r1 r2 w => by
  subst hk
  unfold eqSM at w
  split at w
  · rename_i z o h
    rw [r2.of_str]
    exact ⟨z, o, rfl, kS_ok ea k r1 h, w.ok k rp_bl⟩
  · exact w.elim
theorem s_inSt {neg : Bool} (ea : EqA K ω) : SOpw ω (inStM neg) (rInSt neg K) := fun g H S d e x y Q E hk k r1 r2 w => by
  subst hk
  unfold inStM at w
  cases e1 : sqOf S e with
  | none => rw [e1] at w; exact w.elim
  | some us =>
    rw [e1, Option.bind_some] at w
    cases e2 : strsOf us with
    | none => rw [e2] at w; exact w.elim
    | some zs =>
      rw [e2] at w
      cases e3 : kS S d with
      | none => rw [e3] at w; exact w.elim
      | some o =>
        rw [e3] at w
        obtain ⟨a, vs, rfl, ha, hr⟩ := sq_of (K := K) k r2 e1
        rw [strs_of e2 hr] at ha
        exact ⟨a, zs, o, rfl, ha, kS_ok ea k r1 e3, w.ok k rp_bl⟩
theorem rd_opw {o : U → U → Sto → Out U} {r : R2} {σ : L2.St} {H : Hp} {Q : VK} (s : SOpw ω o r) (h : rdE ω E (mOp o ma mb) σ H Q) : tOp r (rdE ω E ma) (rdE ω E mb) σ H Q := by
  refine (rd_bind (R := Rp) (m := ma) (kk := fun ρ x S1 => (mb ρ S1).bind fun y S2 => o x y S2) h).mono ?_
  rintro x H1 ⟨g1, ρ, S1, d, a1, r1, w1⟩
  refine ⟨g1, ρ, S1, a1, (Wp.bind (R := Rp) w1).mono ?_⟩
  rintro y H2 ⟨g2, S2, e, x2, c2, r2, w2⟩
  exact s g2 H2 S2 d e x y Q _ (x2.ca.trans a1.e.k) c2 (x2.rp r1) r2 w2
theorem x_opw {o : U → U → Sto → Out U} {r : R2} (h : PE X e (tOp r (rdE ω E ma) (rdE ω E mb))) (s : SOpw ω o r) : PE X e (rdE ω E (mOp o ma mb)) := h.to fun σ H Q h => rd_opw s h
theorem xt_opw {o : U → U → Sto → Out U} {r : R2} (h : PT X e (tTest (tOp r (rdE ω E ma) (rdE ω E mb)))) (s : SOpw ω o r) : PT X e (rdT ω E (mTB (mOp o ma mb))) := h.to fun σ H Q h => rd_opw s (rd_test h)
theorem rm0 {X : Cx} (hr : Rm 1 X.A) : X.A.units < cLine := by have := hr.r.un; omega
theorem rm1 {X : Cx} (hr : Rm 1 X.A) : X.A.units + 1 < cLine := by have := hr.r.un; omega
end
end Z

namespace Z
open PySem PySem.Spec PyProof.Rows L2
/-- a tuple of whole numbers that the module has made -/
def RowC (K : PySem.W.Frag) (a : Addr) (ns : List Int) : Prop := ∃ (o : Obj) (its : Array Value) (n : Nat), K.lookup a = some o ∧ o.cls = .type "tuple" ∧ o.data = .seq its n ∧ its.size ≤ sizeLine ∧ Vals (ns.map V.int) its.toList
def TabC (K : PySem.W.Frag) (w : World) (d : Addr) (T : List (Str × List Int)) : Prop := ∀ p ∈ T, ∃ a, KDct K w d p.1 (.ref a) ∧ RowC K a p.2
def TabG (W : Wd) (x : Str) (T : List (Str × List Int)) : Prop := ∃ d, W.mg x = some (.ref d) ∧ TabC W.K W.w d T
theorem vals_i2 {i j : Int} {s t : Tok} : Vals ([i, j].map V.int) [.int i s, .int j t] := .cons ⟨s, rfl⟩ (.cons ⟨t, rfl⟩ .nil)
def tTab (K : PySem.W.Frag) (T : List (Str × List Int)) (ti : TE) : TE := fun σ H Q => ti σ H fun y H1 => ∃ p ∈ T, y = .str p.1 ∧ ∀ a, SqT K H1 a (p.2.map V.int) → Q (.ref a) H1
/-- targets = TABLE[key] -/
def mTab (T : List (Str × List Int)) (ma : ME U) (gms : List MG) : MS := fun ρ S => (ma ρ S).thenS ρ fun d S1 => match d with
  | .str z => match T.find? fun p : Str × List Int => decide (p.1 = z) with
    | some p => SOof (gTs gms (p.2.map U.int) ρ) S1
    | none => .bad
  | _ => .bad
section
variable {W : Wd} {ω : Om} {X : Cx} {E : WX} {ma : ME U} {i : Expr} {st : Stmt} {pos : Pos} {x : Str} {d : Addr} {T : List (Str × List Int)}
theorem pe_tab {o : Expr} (D : TabC X.K X.w d T) (ho : PE X o (tC (.ref d))) (hi : PE X i (rdE ω E ma)) (hs : PlainIx i) : PE X (.Subscript o i pos) (tTab X.K T (rdE ω E ma)) := by
  refine (pe_ix ix_kdict ho hi hs).to fun σ H Q h => ?_
  show rdE ω E ma σ H fun y H2 => rIxD X.K X.w (.ref d) y H2 Q
  refine h.mono ?_
  rintro y H1 ⟨p, hp, rfl, q⟩
  obtain ⟨a, hk, hr⟩ := D p hp
  exact ⟨d, p.1, .ref a, rfl, rfl, hk, q a (Or.inr hr)⟩
theorem xs_tab {gms : List MG} {t : TGs} {sl : List Nat} {n : Nat} (h : PS X st (tAsg (tTab X.K T (rdE ω E ma)) (gTup X.K n t))) (q1 : SGs ω gms t sl) (hn : n = gms.length) : PS X st (rdS ω E (mTab T ma gms)) :=
  h.to fun D σ H ⟨g, ρ, S, a, w⟩ => ⟨g, ρ, S, a, Ws.ofE (R := Rp) a w fun b H1 g1 S1 x y a1 r w1 => by
    cases x with
    | str z =>
      dsimp only at w1
      cases e : T.find? fun p : Str × List Int => decide (p.1 = z) with
      | none => rw [e] at w1; exact w1.elim
      | some p =>
        rw [e] at w1
        dsimp only at w1
        have hp := List.mem_of_find?_eq_some e
        have hz : p.1 = z := of_decide_eq_true (List.find?_some (p := fun p : Str × List Int => decide (p.1 = z)) e)
        refine ⟨p, hp, by rw [r.of_str, hz], fun c hc => ?_⟩
        cases e1 : gTs gms (p.2.map U.int) ρ with
        | none => rw [e1] at w1; exact w1.elim
        | some ρ1 =>
          rw [e1] at w1
          refine ⟨c, p.2.map V.int, rfl, hc, ?_, ?_⟩
          · rw [List.length_map, hn]
            have := gTs_len e1
            rwa [List.length_map] at this
          · exact q1 g1 ρ ρ1 (p.2.map U.int) (p.2.map V.int) σ H1 _ a1.e a1.c.fh (rps_int p.2) e1 fun σ' a2 _ _ => w1 _ _ _ a1.c.rfl_ ⟨a2, a1.c⟩
    | _ => exact w1.elim⟩
theorem xs_tabG {gms : List MG} {t : TGs} {sl : List Nat} {n : Nat} {tg : Expr} {p1 p2 p3 : Pos} (hgl : Gl X x) (hT : ∃ d, X.mg x = some (.ref d) ∧ TabC X.K X.w d T) (hi : PE X i (rdE ω E ma)) (hs : PlainIx i) (hg : PG X tg (gTup X.K n t)) (q1 : SGs ω gms t sl) (hn : n = gms.length := by rfl)
    (h2 : swapsWithSole [tg] (.Subscript (.Name x p1) i p2) p3.line X.env = pure false := by rfl) (h3 : swappedStores [tg] (.Subscript (.Name x p1) i p2) X.env = pure none := by rfl) (h4 : (assignEach [tg] X.env).map (·.2) = [assign tg X.env] := by rfl) (hd : (x == ("__debug__" : Str)) = false := by decide) :
    PS X (.Assign [tg] (.Subscript (.Name x p1) i p2) p3) (rdS ω E (mTab T ma gms)) := by
  obtain ⟨d, e, D⟩ := hT
  exact xs_tab (ps_asg (pe_tab D (pe_glob hgl e rfl hd) hi hs) hg h2 h3 h4) q1 hn
/-! a dict of written keys and values -/
theorem tPairs_C {σ : St} {H : Hp} : ∀ (kvs : List (Key × V)) (R : List (V × V) → Hp → Prop), R (kvs.map fun kv => (kV kv.1, kv.2)) H → tPairs (kvs.map fun kv => (tC (kV kv.1), tC kv.2)) σ H R
  | [], _, h => h
  | kv :: r, R, h => tPairs_C r (fun ps H3 => R ((kV kv.1, kv.2) :: ps) H3) h
theorem pe_negC {a : Expr} {j : Int} (h : PE X a (tC (.int j))) : PE X (.UnaryOp .USub a pos) (tC (.int (-j))) := (pe_un un_neg h).to fun σ H Q q => ⟨j, rfl, q⟩
def mDispC (us : List (Key × U)) : ME U := fun _ S => .ok (.cel S.length) (S ++ [.dK us])
@[simp] theorem mDispC_ok (us : List (Key × U)) (ρ : Rho) (S : Sto) : mDispC us ρ S = .ok (.cel S.length) (S ++ [.dK us]) := rfl
theorem x_dispC {e : Expr} {trs : List (TE × TE)} (kvs : List (Key × V)) {us : List (Key × U)} (h : PE X e (tDisp trs)) (hr : ∀ g : Gd, RpF g us kvs) (ht : trs = kvs.map fun kv => (tC (kV kv.1), tC kv.2) := by rfl) (hl : kvs.length ≤ 15 := by decide) (hm : mergeK [] kvs = kvs := by first | (simp [mergeK, putK]; done) | (simp [mergeK, putK]; decide +kernel)) :
    PE X e (rdE ω E (mDispC us)) := h.to fun σ H Q ⟨g, ρ, S, a, w⟩ p hp => by
  subst ht
  have np : p ∉ g.al := fun m => (a.c.there m).1 hp
  have fp : g.F p = none := fnone a.c.fh hp
  have x0 : Gr g H g (upd H p (.dK [])) := ⟨rfl, ⟨[], by simp, by simp⟩, (Ext.cellNew a.c.fh hp).any⟩
  have c0 : Cor g (upd H p (.dK [])) S := a.c.hid np fp
  refine tPairs_C kvs _ ⟨upd_same, kvs, rfl, hl, ?_⟩
  rw [hm]
  have ct : CelAt g (upd (upd H p (.dK [])) p (.dK kvs)) (.dK us) p := ⟨_, upd_same, hr g⟩
  obtain ⟨xe, ce⟩ := end_cel (x0.hid hp fp) (c0.hid np fp) hp np fp ct
  refine w (g.push p) _ _ xe ce ?_
  rw [← a.c.len]
  exact rp_cel (by simp)
end
end Z

namespace L2
open PySem PySem.Spec PyProof.Rows
def rSortedTPO (K : PySem.W.Frag) : List V → Hp → VK → Prop := fun vs H Q => ∃ (a : Addr) (xs : List V) (k : V → Int × Int), vs = [V.ref a] ∧ SqT K H a xs ∧ (∀ x ∈ xs, ∃ t, x = V.ref t ∧ H t = some (.tup [.int (k x).1, .int (k x).2])) ∧
  ∀ ys p, SrtO.Srtd (ltP k) ys → SrtO.Stb (ltP k) ys xs → H p = none → Q (.ref p) (upd H p (.lst ys))
section
variable {X : Cx}
theorem cr_sortedTPO : CallR X (.builtin "sorted") (rSortedTPO X.K) := by
  intro pins s σ H vs us Q I r h
  obtain ⟨a, xs, k, rfl, hs, hx, q⟩ := h
  obtain ⟨u, rfl, rx⟩ := vals1 r
  cases rx
  obtain ⟨its, rv, ⟨o, ho, hc, n, hd⟩, hz⟩ := I.tuple hs
  have hl := rv.length
  obtain ⟨e1, e2⟩ := refs_back rv fun x m => by
    obtain ⟨t, e, _⟩ := hx x m
    exact ⟨t, e⟩
  have hp : ∀ v ∈ its, Srt.IsPair s.heap v (k (backV v)).1 (k (backV v)).2 := fun v hv => by
    obtain ⟨t, rfl⟩ := e2 v hv
    have hm : V.ref t ∈ xs := by rw [e1]; exact List.mem_map.mpr ⟨_, hv, rfl⟩
    obtain ⟨t', e, ht⟩ := hx _ hm
    cases e
    obtain ⟨_, its2, r2, o, ho, hc, n, hd⟩ := I.hok _ _ ht
    obtain ⟨u1, u2, rfl, ri, rj⟩ := vals2 r2
    obtain ⟨t1, rfl⟩ := ri
    obtain ⟨t2, rfl⟩ := rj
    exact ⟨t, o, t1, t2, n, rfl, ho, hc, hd⟩
  refine Calls.call_function_entry kind_sorted plain_sorted entry_sorted (args_sorted1 _) ?_
  unfold Builtin.«sorted»
  refine wpAny_bind (m := checkCount "sorted" 1 1 _) (wpAny_pure ?_)
  refine wpAny_bind (wpAny_collect_seq a (.inr rfl) ho hc hd (fun h' hk => ?_) (by rw [List.size_toArray]; omega))
  rw [show its.toArray.toList = its by simp]
  have I1 : Inv X pins σ H { s with heap := h' } := I.kept (t' := s.toks) hk
  have hz2 : its.length ≤ sizeLine := by omega
  refine wpAny_bind (wpAny_newList ?_ hz2)
  have hoL : (h'.push (seqObj "list" its.toArray 0)).get? h'.objs.size = some (seqObj "list" its.toArray 0) := Heap.get?_push_size _ rfl
  show wpAny _ _ _ _ _ { s with heap := h'.push (seqObj "list" its.toArray 0) }
  refine wpAny_bind (wpAny_holding (wpAny_call_entry slot_list_sort ⟨_, hoL, rfl⟩ entry_list_sort
    (SrtO.list_sort_ord (s := { s with heap := h'.push (seqObj "list" its.toArray 0) }) (SrtO.swo_lex fun u => k (backV u)) hoL hz2 (fun h2 => ?_) fun out h1 h2 => ⟨_, rfl, ?_⟩) (args_list_sort _)))
  · refine SrtO.pairs_sortableO (s := { s with heap := h'.push (seqObj "list" its.toArray 0) }) (by omega) (fun v hm => (hp v hm).keeps fun b o e _ => Heap.get?_push_of_some _ (hk b o e)) fun o e => ?_
    have e' : some o = some (seqObj "list" its.toArray 0) := e.symm.trans hoL
    cases e'
    intro c
    exact absurd (Value.type.inj c) (by decide)
  · have h3 : ∀ u ∈ out, ∃ a, u = Value.ref a := fun u hu => e2 u (h2.perm.mem_iff.mp hu)
    have hb : SrtO.Stb (ltP k) (out.map backV) xs := by
      rw [e1]
      exact SrtO.Stb.map (ltP_swo k) backV h2
    obtain ⟨ep, he'⟩ := sortedHeap_at (vs := its) (out := out.toArray) hoL
    refine wpAny_pure ⟨_, rfl, .ref h'.objs.size, upd H h'.objs.size (.lst (out.map backV)), I1.laid (t' := s.toks) (fun b u e => ?_) (Nat.le_refl _) ⟨?_, out, ep, vals_back h3, he'⟩, rfl, q _ _ (SrtO.srtd_map h1) hb (I1.hok.fresh (Nat.le_refl _))⟩
    · have hb : b < h'.objs.size := Heap.lt_size e
      rw [sortedHeap_old (Nat.ne_of_lt hb) (by rw [size_push']; exact Nat.lt_succ_of_lt hb)]
      exact Heap.get?_push_of_some _ e
    · rw [hb.len]
      exact hz
end
end L2
namespace Z
open PySem PySem.Spec PyProof.Rows L2
/-! pairs of whole numbers -/
abbrev pU (p : Int × Int) : U := .tup [.int p.1, .int p.2]
def prOf : U → Option (Int × Int)
  | .tup [.int i, .int j] => some (i, j)
  | _ => none
def prsOf : List U → Option (List (Int × Int))
  | [] => some []
  | x :: xs => match prOf x, prsOf xs with
    | some p, some ps => some (p :: ps)
    | _, _ => none
theorem prOf_eq {x : U} {p : Int × Int} (h : prOf x = some p) : x = pU p := by
  unfold prOf at h
  split at h
  · cases h; rfl
  · cases h
theorem prsOf_eq : ∀ {xs : List U} {ps : List (Int × Int)}, prsOf xs = some ps → xs = ps.map pU
  | [], _, h => by cases h; rfl
  | x :: xs, _, h => by
    unfold prsOf at h
    split at h
    · rename_i p ps h1 h2
      cases h
      rw [prOf_eq h1, prsOf_eq h2]; rfl
    · cases h
theorem prsOf_map : ∀ ps : List (Int × Int), prsOf (ps.map pU) = some ps
  | [] => rfl
  | p :: ps => by
    rw [List.map_cons]
    unfold prsOf
    rw [prsOf_map ps]; rfl
/-- p is not above q -/
def leP (p q : Int × Int) : Bool := !SrtO.lexB q p
theorem leP_iff {p q : Int × Int} : leP p q = true ↔ p.1 < q.1 ∨ (p.1 = q.1 ∧ p.2 ≤ q.2) := by
  unfold leP
  rw [Bool.not_eq_true', SrtO.lexB_no]
  omega
def psort (ps : List (Int × Int)) : List (Int × Int) := ps.mergeSort leP
theorem psort_perm (ps : List (Int × Int)) : (psort ps).Perm ps := List.mergeSort_perm ps _
theorem psort_pw (ps : List (Int × Int)) : (psort ps).Pairwise fun p q => leP p q = true :=
  List.pairwise_mergeSort (fun a b c h1 h2 => by rw [leP_iff] at *; omega) (fun a b => by rw [Bool.or_eq_true_iff, leP_iff, leP_iff]; omega) ps
theorem psort_one {a b : List (Int × Int)} (p : a.Perm b) (h1 : a.Pairwise fun p q => leP p q = true) (h2 : b.Pairwise fun p q => leP p q = true) : a = b :=
  p.eq_of_pairwise (fun x y _ _ h1 h2 => by
    rw [leP_iff] at h1 h2
    obtain ⟨x1, x2⟩ := x
    obtain ⟨y1, y2⟩ := y
    simp only [Prod.mk.injEq]
    simp only at h1 h2
    omega) h1 h2
def sortAM (c : Bool) (x : U) (S : Sto) : Out U := match numsOf S x with
  | some ns => newLst c ((isort ns).map U.int) S
  | none => match (sqOf S x).bind prsOf with
    | some ps => newLst c ((psort ps).map pU) S
    | none => .bad
def rSortedA (K : PySem.W.Frag) : List V → Hp → VK → Prop := fun xs H Q => rSortedN K xs H Q ∨ (rSortedPO K xs H Q ∨ rSortedTPO K xs H Q)
/-- the pair at a reference -/
def kfH (H : Hp) (v : V) : Int × Int := match v with
  | .ref t => match H t with
    | some (.tup [.int i, .int j]) => (i, j)
    | _ => (0, 0)
  | _ => (0, 0)
theorem rps_keys {g : Gd} {f : V → Int × Int} : ∀ {ys : List V}, (∀ y ∈ ys, Rp g (pU (f y)) y) → Rps g ((ys.map f).map pU) ys
  | [], _ => rps_nil
  | y :: ys, h => rps_cons (h y List.mem_cons_self) (rps_keys fun z m => h z (List.mem_cons_of_mem _ m))
theorem pairs_at {g : Gd} {H : Hp} {S : Sto} (k : Cor g H S) : ∀ {ps : List (Int × Int)} {vs : List V}, Rps g (ps.map pU) vs → vs.map (kfH H) = ps ∧ ∀ y ∈ vs, Rp g (pU (kfH H y)) y ∧ ∃ t, y = V.ref t ∧ H t = some (.tup [.int (kfH H y).1, .int (kfH H y).2])
  | [], vs, r => by rw [r.of_nil]; exact ⟨rfl, fun y m => by cases m⟩
  | p :: ps, vs, r => by
    obtain ⟨v, ws, rfl, r1, r2⟩ := r.of_cons
    obtain ⟨i1, i2⟩ := pairs_at k r2
    obtain ⟨t, us, rfl, ht, hr⟩ := r1.of_tup
    obtain ⟨a, as, rfl, ra, ras⟩ := hr.of_cons
    obtain ⟨b, bs, rfl, rb, rbs⟩ := ras.of_cons
    rw [rbs.of_nil, ra.of_int, rb.of_int] at ht
    have hH := k.fh t _ ht
    have e : kfH H (.ref t) = p := by
      unfold kfH
      dsimp only
      rw [hH]
    refine ⟨by rw [List.map_cons, e, i1], fun y m => ?_⟩
    rcases List.mem_cons.mp m with rfl | m
    · rw [e]; exact ⟨r1, t, rfl, hH⟩
    · exact i2 y m
section
variable {X : Cx} {ω : Om} {K : PySem.W.Frag}
theorem u_sortedA (hc : X.calm = true) : CallR X (.builtin "sorted") (rSortedA X.K) := (u_sortedN hc).or (cr_sortedPO.or cr_sortedTPO)
theorem s_sortA {c : Bool} : SCBw ω (on1 (sortAM c)) (rSortedA K) := s_on1 fun g H S d x Q E o k r w => by
  unfold sortAM at w
  cases e : numsOf S d with
  | some ns =>
    rw [e] at w
    refine Or.inl (s_sortN (ω := ω) (c := c) g H S [d] [x] Q E o k (rps_cons r rps_nil) ?_)
    show Wp g H Rp Q E (sortNM c d S)
    unfold sortNM
    rw [e]; exact w
  | none =>
    rw [e] at w
    dsimp only at w
    cases e1 : sqOf S d with
    | none => rw [e1] at w; exact w.elim
    | some us =>
      rw [e1, Option.bind_some] at w
      cases e2 : prsOf us with
      | none => rw [e2] at w; exact w.elim
      | some ps =>
        rw [e2] at w
        dsimp only at w
        obtain ⟨a, vs, rfl, ha, hr⟩ := sq_of (K := K) k r e1
        rw [prsOf_eq e2] at hr
        obtain ⟨k1, k2⟩ := pairs_at k hr
        have fin : ∀ (ys : List V) (p : Addr), SrtO.Srtd (ltP (kfH H)) ys → SrtO.Stb (ltP (kfH H)) ys vs → H p = none → Q (.ref p) (upd H p (.lst ys)) := fun ys p h1 h2 hp => by
          have hperm := h2.perm
          have e3 : ys.map (kfH H) = psort ps := by
            refine psort_one ?_ ?_ (psort_pw ps)
            · refine (hperm.map _).trans ?_
              rw [k1]
              exact (psort_perm ps).symm
            · refine List.pairwise_map.mpr (h1.imp fun {x y} h => ?_)
              unfold leP
              have h' : SrtO.lexB (kfH H y) (kfH H x) = false := h
              rw [h']; rfl
          have hr2 : Rps g ((psort ps).map pU) ys := by
            rw [← e3]
            exact rps_keys fun y m => (k2 y (hperm.mem_iff.mp m)).1
          exact (new_lst k hr2 w).2 p hp
        rcases ha with ha | ha
        · exact Or.inr (Or.inl ⟨a, vs, kfH H, rfl, ha, fun y m => (k2 y m).2, fin⟩)
        · exact Or.inr (Or.inr ⟨a, vs, kfH H, rfl, ha, fun y m => (k2 y m).2, fin⟩)
/-! a list turned round -/
def revSM (c : Bool) (x : U) (S : Sto) : Out U := match lsOf S x with
  | some us => newLst c us.reverse S
  | none => .bad
theorem s_revS {c : Bool} : SUn (revSM c) (fun x H Q => ∃ a xs, x = .ref a ∧ SqL K H a xs ∧ ∀ p, H p = none → Q (.ref p) (upd H p (.lst xs.reverse))) := fun g H S d x Q E k r w => by
  unfold revSM at w
  cases e : lsOf S d with
  | none => rw [e] at w; exact w.elim
  | some us =>
    rw [e] at w
    obtain ⟨a, vs, rfl, ha, hr⟩ := ls_of k r e
    exact ⟨a, vs, rfl, SqL.of ha, (new_lst k hr.rev w).2⟩
theorem x_revL {E : WX} {e : Expr} {ma : ME U} {c : Bool} (h : PE X e (tRevL X.K (rdE ω E ma))) : PE X e (rdE ω E (mUn (revSM c) ma)) := x_un h s_revS
end
end Z

namespace PySem.SeqAt
open AutoSeq1 (wpAny_loadPart')
open MeetsSeq PySem.W
theorem sub_list_dict : isSubtype (.type "list") (.type "dict") = pure false := by rw [isSubtype_type]; kernel_rfl
theorem sub_dict_list : isSubtype (.type "dict") (.type "list") = pure false := by rw [isSubtype_type]; kernel_rfl
section
variable (l b : Addr) (items : Array Value) (n m : Nat) (dd dd2 : Option Addr) (sl sl2 : Array (Option Value)) (es : Array DictEntry) (c : Value) (vs : Array Value)
theorem list_eq_declines_dict : Meets (Builtin.«list.__eq__» ⟨[.ref l, .ref b], []⟩) (fun _ R s => s.heap.get? l = some { cls := .type "list", dict := dd, data := .seq items n, slots := sl } ∧ s.heap.get? b = some { cls := .type "dict", dict := dd2, data := .dict es m, slots := sl2 } ∧ R (.ok (.ret .notImplemented)) s) :=
  .of_wp fun prog w A R s h => by obtain ⟨hp, g, d, tk, os⟩ := s; obtain ⟨hl, hb, h⟩ := h; have f1 := sub_dict_list; wp_walk using wpAny_loadPart' hl, wpAny_loadPart' hb; exact ⟨_, rfl, h⟩
theorem dict_eq_declines_list : Meets (Builtin.«dict.__eq__» ⟨[.ref b, .ref l], []⟩) (fun _ R s => s.heap.get? l = some { cls := .type "list", dict := dd, data := .seq items n, slots := sl } ∧ s.heap.get? b = some { cls := .type "dict", dict := dd2, data := .dict es m, slots := sl2 } ∧ R (.ok (.ret .notImplemented)) s) :=
  .of_wp fun prog w A R s h => by obtain ⟨hp, g, d, tk, os⟩ := s; obtain ⟨hl, hb, h⟩ := h; have f1 := sub_list_dict; wp_walk using wpAny_loadPart' hl, wpAny_loadPart' hb, wpAny_load hl, wpAny_load hb; exact ⟨_, rfl, h⟩
theorem list_ne_declines_dict : Meets (Builtin.«list.__ne__» ⟨[.ref l, .ref b], []⟩) (fun _ R s => s.heap.get? l = some { cls := .type "list", dict := dd, data := .seq items n, slots := sl } ∧ s.heap.get? b = some { cls := .type "dict", dict := dd2, data := .dict es m, slots := sl2 } ∧ R (.ok (.ret .notImplemented)) s) :=
  .of_wp fun prog w A R s h => by obtain ⟨hp, g, d, tk, os⟩ := s; obtain ⟨hl, hb, h⟩ := h; have f1 := sub_dict_list; wp_walk using wpAny_loadPart' hl, wpAny_loadPart' hb; exact ⟨_, rfl, h⟩
theorem dict_ne_declines_list : Meets (Builtin.«dict.__ne__» ⟨[.ref b, .ref l], []⟩) (fun _ R s => s.heap.get? l = some { cls := .type "list", dict := dd, data := .seq items n, slots := sl } ∧ s.heap.get? b = some { cls := .type "dict", dict := dd2, data := .dict es m, slots := sl2 } ∧ R (.ok (.ret .notImplemented)) s) :=
  .of_wp fun prog w A R s h => by obtain ⟨hp, g, d, tk, os⟩ := s; obtain ⟨hl, hb, h⟩ := h; have f1 := sub_list_dict; wp_walk using wpAny_loadPart' hl, wpAny_loadPart' hb, wpAny_load hl, wpAny_load hb; exact ⟨_, rfl, h⟩
theorem list_eq_declines_x (x : Addr) : Meets (Builtin.«list.__eq__» ⟨[.ref l, .ref x], []⟩) (fun _ R s => s.heap.get? l = some { cls := .type "list", dict := dd, data := .seq items n, slots := sl } ∧ (∀ M, PySem.W.Looks M s.heap (isInstance (.ref x) (.type "list")) false) ∧ R (.ok (.ret .notImplemented)) s) :=
  .of_wp fun prog w A R s h => by obtain ⟨hp, g, d, tk, os⟩ := s; obtain ⟨hl, hI, h⟩ := h; wp_walk using wpAny_loadPart' hl, (hI _).here; exact ⟨_, rfl, h⟩
theorem list_ne_declines_x (x : Addr) : Meets (Builtin.«list.__ne__» ⟨[.ref l, .ref x], []⟩) (fun _ R s => s.heap.get? l = some { cls := .type "list", dict := dd, data := .seq items n, slots := sl } ∧ (∀ M, PySem.W.Looks M s.heap (isInstance (.ref x) (.type "list")) false) ∧ R (.ok (.ret .notImplemented)) s) :=
  .of_wp fun prog w A R s h => by obtain ⟨hp, g, d, tk, os⟩ := s; obtain ⟨hl, hI, h⟩ := h; wp_walk using wpAny_loadPart' hl, (hI _).here; exact ⟨_, rfl, h⟩
end
section
variable {A : Around} {s : Shared} {l b : Addr} {items : Array Value} {es : Array DictEntry} {n : Nat} {dd : Option Addr} {sl : Array (Option Value)}
theorem ne_dict_list (hb : s.heap.get? b = some { cls := .type "dict", dict := dd, data := .dict es n, slots := sl }) (hl : s.heap.IsList l items) : b ≠ l := fun e => by
  subst e
  obtain ⟨o, ho, hc, _⟩ := hl
  rw [ho] at hb
  cases hb
  exact absurd hc (by simp)
theorem RcAt.dict_list (hb : s.heap.get? b = some { cls := .type "dict", dict := dd, data := .dict es n, slots := sl }) (hl : s.heap.IsList l items) (hu : A.units < cLine) : RcAt A s (.ref b) (.ref l) false := fun prog w E Q h => by
  have hne := ne_dict_list hb hl
  obtain ⟨⟨cls2, dd2, data2, sl2⟩, ho2, hc2, n2, hd2⟩ := id hl
  simp only at hc2 hd2
  subst hc2 hd2
  exact (rc_eq_decline_or (k := false) ⟨_, hb, rfl⟩ ⟨_, ho2, rfl⟩ (by decide) sub_list_dict F.slot_dict_eq F.slot_list_eq_refl
    (fun _ hq => call_meets F.slot_dict_eq ⟨_, hb, rfl⟩ F.entry_dict_eq (F.args_dict_eq_2 _ _) (dict_eq_declines_list l b items n2 n dd2 dd sl2 sl es) ⟨ho2, hb, hq⟩)
    (fun _ hq => call_meets F.slot_list_eq_refl ⟨_, ho2, rfl⟩ F.entry_list_eq (F.args_list_eq_2 _ _) (list_eq_declines_dict l b items n2 n dd2 dd sl2 sl es) ⟨ho2, hb, hq⟩)
    (fun _ hq => wpAny_isSame_ref_other hne hb ho2 (by simp) hq) (.inr hu) h)
theorem RcNeAt.dict_list (hb : s.heap.get? b = some { cls := .type "dict", dict := dd, data := .dict es n, slots := sl }) (hl : s.heap.IsList l items) (hu : A.units < cLine) : RcNeAt A s (.ref b) (.ref l) true := fun prog w E Q h => by
  have hne := ne_dict_list hb hl
  obtain ⟨⟨cls2, dd2, data2, sl2⟩, ho2, hc2, n2, hd2⟩ := id hl
  simp only at hc2 hd2
  subst hc2 hd2
  exact (rc_ne_decline_or (k := false) ⟨_, hb, rfl⟩ ⟨_, ho2, rfl⟩ (by decide) sub_list_dict F.slot_dict_ne F.slot_list_ne_refl
    (fun _ hq => call_meets F.slot_dict_ne ⟨_, hb, rfl⟩ F.entry_dict_ne (F.args_dict_ne_2 _ _) (dict_ne_declines_list l b items n2 n dd2 dd sl2 sl es) ⟨ho2, hb, hq⟩)
    (fun _ hq => call_meets F.slot_list_ne_refl ⟨_, ho2, rfl⟩ F.entry_list_ne (F.args_list_ne_2 _ _) (list_ne_declines_dict l b items n2 n dd2 dd sl2 sl es) ⟨ho2, hb, hq⟩)
    (fun _ hq => wpAny_isSame_ref_other hne hb ho2 (by simp) hq) (.inr hu) h)
end
end PySem.SeqAt
namespace PySem
open Builtin
open PySem.W (Looks Frag findIn subIn looks_findIn looks_subIn clsIn looks_clsIn)
namespace ZE
theorem sub_list_ref (C : Addr) : isSubtype (.type "list") (.ref C) = pure false := by
  unfold isSubtype
  rw [show mroOf (.type "list") = pure [.type "list", .type "object"] by kernel_rfl]
  rfl
section
variable {prog : Program} {w : World} {M : Model} {A : Around} {E : Value → Shared → Prop} {s : Shared} {K : Frag} {C x l : Addr} {items : Array Value} {ox : Obj}
theorem objEq_list (hne : x ≠ l) (hx : s.heap.get? x = some ox) (hc : ox.cls = .ref C) (hl : s.heap.IsList l items) {Q : Fin → Shared → Prop} (hq : Q (.done (.ret .notImplemented)) s) : wpAny M A (Builtin.«object.__eq__» ⟨[.ref x, .ref l], []⟩) Q E s := by
  obtain ⟨ol, hol, _⟩ := hl
  unfold Builtin.«object.__eq__»
  repeat (first | (with_reducible refine wpAny_bind (m := isSame (.ref x) (.ref l)) (wpAny_isSame_ref_other hne hx hol (by rw [hc]; simp) ?_)) | wp_step)
  exact hq
/-- a special method that declines -/
theorem callSp_K {name : Str} {id : String} (LT : ∀ M, Looks M s.heap (typeOf (.ref x)) (.ref C)) (X : K.In s.heap) (hf : findIn K (.ref C) name = some (some (.builtin id))) (hb : bindSpecial (.builtin id) (.ref x) = pure (.builtin id, [.ref x])) {n : Nat} (hA : A.units = n)
    (hc : ∀ {A' : Around} {E' : Value → Shared → Prop} {Q' : Value → Shared → Prop}, A'.units = n → Q' .notImplemented s → wpAny (model prog w) A' (call (.builtin id) ([.ref x] ++ [.ref l])) Q' E' s) {Q : Option Value → Shared → Prop} (hq : Q (some .notImplemented) s) :
    wpAny (model prog w) A (callSpecialIfBound? (.ref x) name [.ref l]) Q E s := by
  simp only [callSpecialIfBound?, bindSpecialIfBound?]
  refine wpAny_holding (wpAny_bind (wpAny_bind (special_K (LT _) X hf ?_)))
  simp only [hb]
  refine wpAny_bind (wpAny_askSetting (wpAny_ite ?_))
  split
  · exact wpAny_bind (wpAny_pure (wpAny_pure (wpAny_bind (hc hA (wpAny_pure hq)))))
  · exact wpAny_tryCatch (wpAny_bind (wpAny_pure (wpAny_pure (wpAny_bind (hc hA (wpAny_pure hq))))))
theorem callEq_K (LT : ∀ M, Looks M s.heap (typeOf (.ref x)) (.ref C)) (X : K.In s.heap) (hf : findIn K (.ref C) "__eq__" = some (some (.builtin "object.__eq__"))) (hO : subIn K (.ref C) (.type "object") = some true) (hne : x ≠ l) (hx : s.heap.get? x = some ox) (hcx : ox.cls = .ref C) (hl : s.heap.IsList l items)
    {Q : Option Value → Shared → Prop} (hq : Q (some .notImplemented) s) : wpAny (model prog w) A (callSpecialIfBound? (.ref x) (Str.ofString "__eq__") [.ref l]) Q E s :=
  callSp_K LT X hf (F.cmp_object.eq.bind _) (n := A.units) rfl (fun {A' E' Q'} _ q => wpAny_call (codeAny_call_builtin F.cmp_object.eq.plain F.cmpEntry_eq (W.check_slot F.cmpKind_eq F.cmpSplit_eq ((LT _).andThen (looks_subIn X hO)) (F.cmpArgs_eq _ _) (objEq_list hne hx hcx hl q)))) hq
theorem objNe_list (LT : ∀ M, Looks M s.heap (typeOf (.ref x)) (.ref C)) (X : K.In s.heap) (hf : findIn K (.ref C) "__eq__" = some (some (.builtin "object.__eq__"))) (hO : subIn K (.ref C) (.type "object") = some true) (hne : x ≠ l) (hx : s.heap.get? x = some ox) (hcx : ox.cls = .ref C) (hl : s.heap.IsList l items)
    (hu : A.units < cLine) {Q : Fin → Shared → Prop} (hq : Q (.done (.ret .notImplemented)) s) : wpAny (model prog w) A (Builtin.«object.__ne__» ⟨[.ref x, .ref l], []⟩) Q E s := by
  unfold Builtin.«object.__ne__»
  repeat (first
    | with_reducible refine wpAny_cRoomFor hu ?_
    | (refine wpAny_bind (m := callSpecialIfBound? (.ref x) (Str.ofString "__eq__") [.ref l]) (callEq_K LT X hf hO hne hx hcx hl ?_))
    | wp_step)
  exact hq
theorem ne_exc_list (hx : s.heap.get? x = some ox) (hcx : ox.cls = .ref C) (hl : s.heap.IsList l items) : x ≠ l := fun e => by
  subst e
  obtain ⟨o, ho, hc, _⟩ := hl
  rw [ho] at hx
  cases hx
  rw [hc] at hcx
  exact absurd hcx (by simp)
theorem RcAt_exc_list (hx : s.heap.get? x = some ox) (hcx : ox.cls = .ref C) (X : K.In s.heap) (hf : findIn K (.ref C) "__eq__" = some (some (.builtin "object.__eq__"))) (hO : subIn K (.ref C) (.type "object") = some true) (hL : subIn K (.ref C) (.type "list") = some false) (hl : s.heap.IsList l items) (hu : A.units < cLine) :
    SeqAt.RcAt A s (.ref x) (.ref l) false := fun prog w E Q h => by
  have hne := ne_exc_list hx hcx hl
  have LT : ∀ M, Looks M s.heap (typeOf (.ref x)) (.ref C) := fun M => by
    obtain ⟨c, d, dt, sl⟩ := ox
    simp only at hcx
    subst hcx
    exact (Looks.ld hx).andThen .now
  have hT : s.TypeIs (.ref l) "list" := hl.typeIs
  obtain ⟨⟨cls, dd, data, sl⟩, ho, hc, n, hd⟩ := id hl
  simp only at hc hd
  subst hc hd
  simp only [richCompare, cmpInfo_Eq, oneThing_ref]
  try with_reducible refine wpAny_holding ?_
  refine wpAny_bind (wpAny_cRoomFor hu ?_)
  refine wpAny_bind ((LT _).here (wpAny_bind (wpAny_typeOf hT ?_)))
  have hn : (Value.ref C != Value.type "list") = true := rfl
  simp only [hn, if_true]
  refine wpAny_bind (wpAny_of_eq (sub_list_ref C) ?_)
  simp only [Bool.false_eq_true, if_false, Bool.not_false, if_true]
  refine wpAny_bind (m := tryCompare (.ref x) _ (.ref l)) ?_
  · unfold tryCompare
    refine wpAny_bind (callEq_K LT X hf hO hne hx hcx hl ?_)
    refine wpAny_pure ?_
    refine wpAny_bind (m := tryCompare (.ref l) _ (.ref x)) (wpAny_tryCompare_declines hT F.slot_list_eq_refl (call_meets F.slot_list_eq_refl hT F.entry_list_eq (F.args_list_eq_2 _ _) (SeqAt.list_eq_declines_x l items n dd sl x) ⟨ho, fun M => (LT M).andThen (looks_subIn X hL), rfl, ?_⟩))
    exact wpAny_bind (wpAny_rule (wpAny_bind (wpAny_isSame_ref_other hne hx ho (by rw [hcx]; simp) (wpAny_pure h))))
theorem RcNeAt_exc_list (hx : s.heap.get? x = some ox) (hcx : ox.cls = .ref C) (X : K.In s.heap) (hf : findIn K (.ref C) "__eq__" = some (some (.builtin "object.__eq__"))) (hg : findIn K (.ref C) "__ne__" = some (some (.builtin "object.__ne__"))) (hO : subIn K (.ref C) (.type "object") = some true) (hL : subIn K (.ref C) (.type "list") = some false) (hl : s.heap.IsList l items) (hu : A.units + 1 < cLine) :
    SeqAt.RcNeAt A s (.ref x) (.ref l) true := fun prog w E Q h => by
  have hne := ne_exc_list hx hcx hl
  have LT : ∀ M, Looks M s.heap (typeOf (.ref x)) (.ref C) := fun M => by
    obtain ⟨c, d, dt, sl⟩ := ox
    simp only at hcx
    subst hcx
    exact (Looks.ld hx).andThen .now
  have hT : s.TypeIs (.ref l) "list" := hl.typeIs
  obtain ⟨⟨cls, dd, data, sl⟩, ho, hc, n, hd⟩ := id hl
  simp only at hc hd
  subst hc hd
  simp only [richCompare, cmpInfo_NotEq, oneThing_ref]
  try with_reducible refine wpAny_holding ?_
  refine wpAny_bind (wpAny_cRoomFor (by omega) ?_)
  refine wpAny_bind ((LT _).here (wpAny_bind (wpAny_typeOf hT ?_)))
  have hn : (Value.ref C != Value.type "list") = true := rfl
  simp only [hn, if_true]
  refine wpAny_bind (wpAny_of_eq (sub_list_ref C) ?_)
  simp only [Bool.false_eq_true, if_false, Bool.not_false, if_true]
  refine wpAny_bind (m := tryCompare (.ref x) _ (.ref l)) ?_
  · unfold tryCompare
    refine wpAny_bind (callSp_K (l := l) LT X hg (F.cmp_object.ne.bind _) (n := A.units) rfl (fun {A' E' Q'} hA q => wpAny_call (codeAny_call_builtin F.cmp_object.ne.plain F.cmpEntry_ne (W.check_slot F.cmpKind_ne F.cmpSplit_ne ((LT _).andThen (looks_subIn X hO)) (F.cmpArgs_ne _ _) (objNe_list LT X hf hO hne hx hcx hl (by show A'.units + 1 < cLine; omega) q)))) ?_)
    refine wpAny_pure ?_
    refine wpAny_bind (m := tryCompare (.ref l) _ (.ref x)) (wpAny_tryCompare_declines hT F.slot_list_ne_refl (call_meets F.slot_list_ne_refl hT F.entry_list_ne (F.args_list_ne_2 _ _) (SeqAt.list_ne_declines_x l items n dd sl x) ⟨ho, fun M => (LT M).andThen (looks_subIn X hL), rfl, ?_⟩))
    exact wpAny_bind (wpAny_rule (wpAny_bind (wpAny_isSame_ref_other hne hx ho (by rw [hcx]; simp) (wpAny_pure h))))
end
end ZE
end PySem
namespace Z
open PySem PySem.Spec PyProof.Rows L2
structure EqN (K : PySem.W.Frag) (C : Addr) : Prop where
  e : PySem.W.findIn K (.ref C) "__eq__" = some (some (.builtin "object.__eq__"))
  n : PySem.W.findIn K (.ref C) "__ne__" = some (some (.builtin "object.__ne__"))
  o : PySem.W.subIn K (.ref C) (.type "object") = some true
  l : PySem.W.subIn K (.ref C) (.type "list") = some false
def EqNA (K : PySem.W.Frag) (o : Om) : Prop := ∀ nm, o.kc nm → EqN K (o.ad nm)
/-- a value of a known kind: whether it is an empty list -/
inductive KdL (K : PySem.W.Frag) (H : Hp) : V → Bool → Prop
  | str (z : Str) : KdL K H (.str z) false
  | non : KdL K H .non false
  | int (i : Int) : KdL K H (.int i) false
  | bl (b : Bool) : KdL K H (.bl b) false
  | lst {a : Addr} {xs : List V} (h : SqL K H a xs) : KdL K H (.ref a) xs.isEmpty
  | tup {a : Addr} {xs : List V} (h : SqT K H a xs) : KdL K H (.ref a) false
  | dK {a : Addr} {kvs : List (Key × V)} (h : H a = some (.dK kvs)) : KdL K H (.ref a) false
  | dT {a : Addr} {kvs : List (List Key × V)} (h : H a = some (.dT kvs)) : KdL K H (.ref a) false
  | exc {a C t : Addr} {d : Option Addr} (h : H a = some (exv C t d a)) (q : EqN K C) : KdL K H (.ref a) false
def rEqL (K : PySem.W.Frag) : V → V → Hp → VK → Prop := fun x y H Q => ∃ a b, y = .ref a ∧ SqL K H a [] ∧ KdL K H x b ∧ Q (.bl b) H
def rNeL (K : PySem.W.Frag) : V → V → Hp → VK → Prop := fun x y H Q => ∃ a b, y = .ref a ∧ SqL K H a [] ∧ KdL K H x b ∧ Q (.bl (!b)) H
section
variable {X : Cx} {pins : List (Addr × Obj)} {σ : L2.St} {H : Hp} {s : Shared} {v : Value} {x : V} {b : Bool} {l : Addr}
theorem kdl_rc (I : Inv X pins σ H s) (k : KdL X.K H x b) (r : RelV x v) (hl : SqL X.K H l []) (hu : X.A.units + 1 < cLine) :
    SeqAt.RcAt X.A s v (.ref l) b ∧ SeqAt.RcNeAt X.A s v (.ref l) (!b) := by
  obtain ⟨its, rl, pl, _⟩ := I.list hl
  have e0 : its = [] := by cases rl; rfl
  subst e0
  have il := pl.isList
  have hu0 : X.A.units < cLine := by omega
  cases k with
  | str w => obtain ⟨u, rfl⟩ := r; exact ⟨SeqAt.RcAt.str_list w u il hu0, SeqAt.RcNeAt.str_list w u il hu0⟩
  | non => cases r; exact ⟨SeqAt.RcAt.none_list il hu0, SeqAt.RcNeAt.none_list il hu0⟩
  | int i => obtain ⟨u, rfl⟩ := r; exact ⟨SeqAt.RcAt.int_list i u il hu0, SeqAt.RcNeAt.int_list i u il hu0⟩
  | bl b => cases r; exact ⟨SeqAt.RcAt.bool_list b il hu0, SeqAt.RcNeAt.bool_list b il hu0⟩
  | lst h =>
    cases r
    obtain ⟨ws, rv, pw, _⟩ := I.list h
    have iw := pw.isList
    cases ws with
    | nil =>
      cases rv
      exact ⟨SeqAt.RcAt.lists (e := fun _ => true) iw il rfl hu0 (fun j h1 _ => absurd h1 (by simp)), SeqAt.RcNeAt.lists (e := fun _ => true) iw il rfl hu0 (fun j h1 _ => absurd h1 (by simp))⟩
    | cons y ys =>
      cases rv
      exact ⟨SeqAt.RcAt.lists_lengths iw il (by simp) hu0, SeqAt.RcNeAt.lists_lengths iw il (by simp) hu0⟩
  | tup h =>
    cases r
    obtain ⟨ws, rv, pw, _⟩ := I.tuple h
    exact ⟨SeqAt.RcAt.tuple_list pw il hu0, SeqAt.RcNeAt.tuple_list pw il hu0⟩
  | dK h =>
    cases r
    obtain ⟨_, _, vs, _, hd⟩ := (show ObjOk X.prog X.w H s.heap _ (.dK _) from I.hok _ _ h)
    obtain ⟨es, ep, ho⟩ := dict_obj hd
    exact ⟨SeqAt.RcAt.dict_list ho il hu0, SeqAt.RcNeAt.dict_list ho il hu0⟩
  | dT h =>
    cases r
    obtain ⟨_, _, xs, _, o, es, ep, h1, ⟨c, d, sl⟩, h2, _⟩ := (show ObjOk X.prog X.w H s.heap _ (.dT _) from I.hok _ _ h)
    obtain ⟨oc, od, odt, osl⟩ := o
    simp only at c d sl h2
    subst c d sl h2
    exact ⟨SeqAt.RcAt.dict_list h1 il hu0, SeqAt.RcNeAt.dict_list h1 il hu0⟩
  | exc h q =>
    cases r
    have ho := exv_get (I.hok _ _ h)
    exact ⟨ZE.RcAt_exc_list ho rfl I.kIn q.e q.o q.l il hu0, ZE.RcNeAt_exc_list ho rfl I.kIn q.e q.n q.o q.l il hu⟩
theorem op_eqL (hu : X.A.units + 1 < cLine) : OpR X (compareOp .Eq) (rEqL X.K) := by
  intro pins s σ H x y v u Q I rx ry h
  obtain ⟨a, b, rfl, hl, k, q⟩ := h
  cases ry
  exact (kdl_rc I k rx hl hu).1 X.prog X.w _ _ ⟨.bl _, H, I, rfl, q⟩
theorem op_neL (hu : X.A.units + 1 < cLine) : OpR X (compareOp .NotEq) (rNeL X.K) := by
  intro pins s σ H x y v u Q I rx ry h
  obtain ⟨a, b, rfl, hl, k, q⟩ := h
  cases ry
  exact (kdl_rc I k rx hl hu).2 X.prog X.w _ _ ⟨.bl _, H, I, rfl, q⟩
end
/-- whether a value is an empty list, where its kind is known -/
def kL (S : Sto) : U → Option Bool
  | .lst us => some us.isEmpty
  | .scr _ => none
  | .cel n => match S[n]? with
    | some (.lst us) => some us.isEmpty
    | some (.dK _) => some false
    | some (.dT _) => some false
    | _ => none
  | _ => some false
theorem rps_empty {g : Gd} {us : List U} {vs : List V} (r : Rps g us vs) : us.isEmpty = vs.isEmpty := by
  have := r.len
  cases us <;> cases vs <;> simp at this <;> rfl
theorem kL_ok {K : PySem.W.Frag} {g : Gd} {H : Hp} {S : Sto} {u : U} {x : V} {b : Bool} (ea : EqNA K g.ca) (k : Cor g H S) (r : Rp g u x) (h : kL S u = some b) : KdL K H x b := by
  cases u with
  | non => cases h; rw [r.of_non]; exact .non
  | bl b => cases h; rw [r.of_bl]; exact .bl b
  | int i => cases h; rw [r.of_int]; exact .int i
  | str z => cases h; rw [r.of_str]; exact .str z
  | lst us => cases h; obtain ⟨a, vs, rfl, ha, hr⟩ := r.of_lst; rw [rps_empty hr]; exact .lst (SqL.of (k.fh a _ ha))
  | tup us => cases h; obtain ⟨a, vs, rfl, ha, hr⟩ := r.of_tup; exact .tup (SqT.of (k.fh a _ ha))
  | dct ks us => cases h; obtain ⟨a, vs, rfl, ha, hl, hr⟩ := r.of_dct; exact .dK (k.fh a _ ha)
  | dtt ks us => cases h; obtain ⟨a, vs, rfl, ha, hl, hr⟩ := r.of_dtt; exact .dT (k.fh a _ ha)
  | exc nm tx ks us =>
    cases h
    obtain ⟨kc, a, t, dd, vs, rfl, ha, ht, hd, _, _⟩ := r.of_exc
    exact .exc (k.fh a _ ha) (ea nm kc)
  | scr ns => cases h
  | cel n =>
    obtain ⟨a, ha, rfl⟩ := r.of_cel
    cases q : S[n]? with
    | none => simp [kL, q] at h
    | some c => cases c with
      | lst us => simp [kL, q] at h; subst h; obtain ⟨vs, e2, hr⟩ := k.get ha q; rw [rps_empty hr]; exact .lst (SqL.of e2)
      | dK us => simp [kL, q] at h; subst h; obtain ⟨vs, e2, hr⟩ := k.get ha q; exact .dK e2
      | dT us => simp [kL, q] at h; subst h; obtain ⟨vs, e2, hr⟩ := k.get ha q; exact .dT e2
      | _ => simp [kL, q] at h
/-- x == [], x != [] -/
def eqEM (neg : Bool) (x y : U) (S : Sto) : Out U := match y, kL S x with
  | .lst [], some b => .ok (.bl (if neg = true then !b else b)) S
  | _, _ => .bad
section
variable {ω : Om} {K : PySem.W.Frag}
theorem eqE_w {g : Gd} {H : Hp} {S : Sto} {d e : U} {x y : V} {Q : VK} {E : XK} {neg : Bool} (ea : EqNA K g.ca) (k : Cor g H S) (r1 : Rp g d x) (r2 : Rp g e y) (w : Wp g H Rp Q E (eqEM neg d e S)) : ∃ a b, y = .ref a ∧ SqL K H a [] ∧ KdL K H x b ∧ Q (.bl (if neg = true then !b else b)) H := by
  unfold eqEM at w
  split at w
  · rename_i b h
    obtain ⟨a, vs, rfl, ha, hr⟩ := r2.of_lst
    rw [hr.of_nil] at ha
    exact ⟨a, b, rfl, SqL.of (k.fh a _ ha), kL_ok ea k r1 h, w.ok k rp_bl⟩
  · exact w.elim
theorem s_eqE (ea : EqNA K ω) : SOpw ω (eqEM false) (rEqL K) := fun g H S d e x y Q E hk k r1 r2 w => by
  subst hk
  exact eqE_w ea k r1 r2 w
theorem s_neE (ea : EqNA K ω) : SOpw ω (eqEM true) (rNeL K) := fun g H S d e x y Q E hk k r1 r2 w => by
  subst hk
  exact eqE_w ea k r1 r2 w
end
end Z

namespace Z
open PySem PySem.Spec PyProof.Rows L2
def fmtM (x : U) (S : Sto) : Out U := match x with
  | .str y => if y.length ≤ 10000000 then .ok (.str y) S else .bad
  | .int i => if i.natAbs.log2 < 1920 then .ok (.str (toString i)) S else .bad
  | _ => .bad
def mJs : List (ME U) → Str → ME U
  | [], acc => fun _ S => .ok (.str acc) S
  | t :: ts, acc => fun ρ S => (t ρ S).bind fun x S1 => match x with
    | .str y => if (acc ++ y).length ≤ 10000000 then mJs ts (acc ++ y) ρ S1 else .bad
    | _ => .bad
section
variable {ω : Om} {X : Cx} {E : WX} {ma : ME U} {e : Expr}
theorem s_fmt : SUn fmtM (fun x H Q => (∃ y : Str, x = .str y ∧ y.length ≤ sizeLine ∧ Q (.str y) H) ∨ ∃ i : Int, x = .int i ∧ i.natAbs.log2 < 1920 ∧ Q (.str (toString i)) H) := fun g H S d x Q E k r w => by
  unfold fmtM at w
  split at w
  · split at w
    · rename_i h
      exact Or.inl ⟨_, r.of_str, Nat.le_trans h ten, w.ok k rp_str⟩
    · exact w.elim
  · split at w
    · rename_i h
      exact Or.inr ⟨_, r.of_int, h, w.ok k rp_str⟩
    · exact w.elim
  · exact w.elim
theorem x_fmt (h : PE X e (tFmt (rdE ω E ma))) : PE X e (rdE ω E (mUn fmtM ma)) := x_un h s_fmt
theorem rd_js {σ : L2.St} {Q : VK} : ∀ (ms : List (ME U)) (acc : Str) (H : Hp), rdE ω E (mJs ms acc) σ H Q → tJs (ms.map (rdE ω E)) acc σ H fun out H1 => Q (.str out) H1
  | [], acc, H, ⟨g, ρ, S, a, w⟩ => w.ok a.c rp_str
  | m :: ms, acc, H, h => by
    refine (rd_bind (R := Rp) (m := m) (kk := fun ρ x S1 => match x with
      | .str y => if (acc ++ y).length ≤ 10000000 then mJs ms (acc ++ y) ρ S1 else .bad
      | _ => .bad) h).mono ?_
    rintro x H1 ⟨g1, ρ, S1, d, a1, r1, w1⟩
    cases d with
    | str y =>
      dsimp only at w1
      split at w1
      · rename_i l
        exact ⟨y, r1.of_str, Nat.le_trans l ten, rd_js ms (acc ++ y) H1 ⟨g1, ρ, S1, a1, w1⟩⟩
      · exact w1.elim
    | _ => exact w1.elim
theorem x_js {ms : List (ME U)} (h : PE X e (fun σ H Q => tJs (ms.map (rdE ω E)) Str.empty σ H fun out H1 => Q (.str out) H1)) : PE X e (rdE ω E (mJs ms Str.empty)) := h.to fun σ H Q q => rd_js ms Str.empty H q
end
end Z

namespace L2
open PySem PySem.Spec PyProof.Rows
theorem tuple_mul1 (l : Addr) (items : Array Value) (n : Nat) (dd : Option Addr) (sl : Array (Option Value)) (x : Int) (u : Tok) (c0 : (decide (x < -(2 ^ 63)) || decide (x ≥ 2 ^ 63)) = false) (c1 : (items.isEmpty || x == 1) = true) :
    Meets (Builtin.«tuple.__mul__» ⟨[.ref l, .int x u], []⟩) (fun _ R s => s.heap.get? l = some { cls := .type "tuple", dict := dd, data := .seq items n, slots := sl } ∧ R (.ok (.ret (Value.ref l))) s) :=
  .of_wp fun prog w A R s h => by
    obtain ⟨hp, g, d, tk, os⟩ := s
    obtain ⟨hl, h⟩ := h
    have f1 := AutoSeq1.idx_int
    wp_walk using wpAny_loadPart' hl
    repeat (first
      | (refine wpAny_ite_false (decide_eq_false (by rw [c0]; exact Bool.false_ne_true)) ?_; wp_walk using wpAny_loadPart' hl)
      | (refine wpAny_ite_true (decide_eq_true c1) ?_; wp_walk using wpAny_loadPart' hl))
    exact ⟨_, rfl, h⟩
theorem tuple_mul0 (l : Addr) (items : Array Value) (n : Nat) (dd : Option Addr) (sl : Array (Option Value)) (x : Int) (u : Tok) (c0 : (decide (x < -(2 ^ 63)) || decide (x ≥ 2 ^ 63)) = false) (c1 : (items.isEmpty || x == 1) = false) (c2 : (decide (x ≤ 0) || items.isEmpty) = true) :
    Meets (Builtin.«tuple.__mul__» ⟨[.ref l, .int x u], []⟩) (fun _ R s => s.heap.get? l = some { cls := .type "tuple", dict := dd, data := .seq items n, slots := sl } ∧
      R (.ok (.ret (Value.ref s.heap.objs.size))) { s with heap := s.heap.push { cls := Value.type "tuple", data := Data.seq #[] }, toks := s.toks }) :=
  .of_wp fun prog w A R s h => by
    obtain ⟨hp, g, d, tk, os⟩ := s
    obtain ⟨hl, h⟩ := h
    have f1 := AutoSeq1.idx_int
    wp_walk using wpAny_loadPart' hl
    repeat (first
      | (refine wpAny_ite_false (decide_eq_false (by rw [c0]; exact Bool.false_ne_true)) ?_; wp_walk using wpAny_loadPart' hl)
      | (refine wpAny_ite_false (decide_eq_false (by rw [c1]; exact Bool.false_ne_true)) ?_; wp_walk using wpAny_loadPart' hl)
      | (refine wpAny_ite_true (decide_eq_true c2) ?_; wp_walk using wpAny_loadPart' hl))
    exact ⟨_, rfl, h⟩
/-- a tuple of some parts times 1, times 0 -/
def rMulT (K : PySem.W.Frag) : R2 := fun x y H Q => ∃ l k xs, x = .ref l ∧ y = .int k ∧ SqT K H l xs ∧ xs ≠ [] ∧ ((k = 1 ∧ Q (.ref l) H) ∨ (k = 0 ∧ ∀ p, H p = none → Q (.ref p) (upd H p (.tup []))))
section
variable {X : Cx}
theorem op_mulT : OpR X (binaryOp .Mult) (rMulT X.K) := by
  intro pins s σ H x y v u Q I rx ry h
  obtain ⟨l, k, xs, rfl, rfl, hT, hne, h⟩ := h
  cases rx
  obtain ⟨t, rfl⟩ := ry
  obtain ⟨its, r, ⟨⟨cls, dd, data, sl⟩, ho, hc, n, hd⟩, hs⟩ := I.tuple hT
  simp only at hc hd
  subst hc hd
  have hle : its.length = xs.length := r.length.symm
  have hn : its ≠ [] := fun e => hne (by
    rw [e] at hle
    exact List.eq_nil_of_length_eq_zero hle.symm)
  have hi : its.toArray.isEmpty = false := by
    cases its with
    | nil => exact absurd rfl hn
    | cons a b => rfl
  rcases h with ⟨rfl, q⟩ | ⟨rfl, q⟩
  · refine wpAny_binaryOp_repeat_ref (T := "tuple") (U := "int") (by decide) ⟨_, ho, rfl⟩ (fun s' => typeIs_int s' 1 t) noFill_tuple_mul F.fills_int_mul F.slot_int_rmul repeat_tuple F.slot_int_index.lookup
      (call_meets F.slot_int_rmul (typeIs_int s 1 t) F.entry_int_rmul (F.args_int_rmul_2 _ _) (int_rmul_tuple 1 t l its.toArray n dd sl)
        ⟨ho, rfl, ⟨_, ho, rfl⟩, call_meets F.slot_tuple_mul ⟨_, ho, rfl⟩ F.entry_tuple_mul (F.args_tuple_mul_2 _ _) (tuple_mul1 l its.toArray n dd sl 1 t (by decide) (by simp)) ⟨ho, ?_⟩⟩)
    exact ⟨.ref l, H, I, rfl, q⟩
  · refine wpAny_binaryOp_repeat_ref (T := "tuple") (U := "int") (by decide) ⟨_, ho, rfl⟩ (fun s' => typeIs_int s' 0 t) noFill_tuple_mul F.fills_int_mul F.slot_int_rmul repeat_tuple F.slot_int_index.lookup
      (call_meets F.slot_int_rmul (typeIs_int s 0 t) F.entry_int_rmul (F.args_int_rmul_2 _ _) (int_rmul_tuple 0 t l its.toArray n dd sl)
        ⟨ho, rfl, ⟨_, ho, rfl⟩, call_meets F.slot_tuple_mul ⟨_, ho, rfl⟩ F.entry_tuple_mul (F.args_tuple_mul_2 _ _) (tuple_mul0 l its.toArray n dd sl 0 t (by decide) (by rw [hi]; rfl) (by simp)) ⟨ho, ?_⟩⟩)
    refine ⟨.ref s.heap.objs.size, _, I.laid (t' := s.toks) (o := .tup []) (fun b ob q => Heap.get?_push_of_some _ q) (Nat.le_refl _) ?_, rfl, q _ (I.hok.fresh (Nat.le_refl _))⟩
    exact ⟨by decide, [], .nil, IsTup.new _ _⟩
/-! ### t[::-1] -/
theorem sliceApplied_rev {w : World} {prog : Program} {A : Around} {E : Value → Shared → Prop} {s : Shared} {sl : Addr} {vs : Value} {n : Nat} {Q : Int × Int × Nat → Shared → Prop} (hs : s.heap.IsSliceOf sl .none .none vs) (ps : IsPart vs (some (-1)))
    (h : Q ((n : Int) - 1, -1, n) s) : wpAny (model prog w) A (Builtin.Slice.sliceApplied (.ref sl) (pure (n : Int))) Q E s := by
  obtain ⟨os, hos, hcs, hds⟩ := id hs
  unfold Builtin.Slice.sliceApplied Builtin.Slice.sliceFields
  refine wpAny_bind (wpAny_bind (wpAny_field hos hds (x := .none) rfl (wpAny_bind (wpAny_field hos hds (x := .none) rfl (wpAny_bind (wpAny_field hos hds (x := vs) rfl (wpAny_pure ?_)))))))
  refine wpAny_bind (HT.slicePart_ ps ?_)
  show wpAny _ _ (if ((-1 : Int) == 0) = true then _ else _) _ _ s
  rw [if_neg (by decide)]
  refine wpAny_bind (slicePart_none (wpAny_bind (slicePart_none (wpAny_bind (wpAny_pure ?_)))))
  show wpAny _ _ (match Builtin.Slice.sliceAdjust none none (-1) (n : Int) with | (lo, hi) => pure (lo, (-1 : Int), Builtin.Slice.slicePlaces lo hi (-1))) _ _ s
  have e1 : Builtin.Slice.sliceAdjust none none (-1) (n : Int) = ((n : Int) - 1, -1) := rfl
  rw [e1]
  have e2 : Builtin.Slice.slicePlaces ((n : Int) - 1) (-1) (-1) = n := by
    unfold Builtin.Slice.slicePlaces
    rw [if_neg (by decide)]
    by_cases z : n = 0
    · subst z; rfl
    · rw [if_pos (by omega)]
      simp
  show wpAny _ _ (pure ((n : Int) - 1, (-1 : Int), Builtin.Slice.slicePlaces ((n : Int) - 1) (-1) (-1))) _ _ s
  rw [e2]
  exact wpAny_pure h
theorem fm_congr {α β : Type} {f g : α → Option β} : ∀ {l : List α}, (∀ a ∈ l, f a = g a) → l.filterMap f = l.filterMap g
  | [], _ => rfl
  | a :: l, h => by
    rw [List.filterMap_cons, List.filterMap_cons, h a List.mem_cons_self, fm_congr fun b m => h b (List.mem_cons_of_mem _ m)]
theorem pick_rev (xs : List Value) : ((List.range xs.length).filterMap fun (m : Nat) => xs.toArray[(((xs.length : Int) - 1) + (m : Int) * (-1)).toNat]?).toArray = xs.reverse.toArray := by
  have e : ∀ m ∈ List.range xs.length, xs.toArray[(((xs.length : Int) - 1) + (m : Int) * (-1)).toNat]? = xs.reverse.toArray[(((0 : Nat) : Int) + (m : Int) * 1).toNat]? := fun m hm => by
    have l := List.mem_range.mp hm
    rw [List.getElem?_toArray, List.getElem?_toArray, show (((0 : Nat) : Int) + (m : Int) * 1).toNat = m by omega, List.getElem?_reverse l]
    congr 1
    omega
  rw [fm_congr e, HT.pick_gen xs.reverse.toArray 0 xs.length, List.drop_zero, List.take_of_length_le (by simp)]
theorem getItem_tuple_rev {w : World} {prog : Program} {A : Around} {E : Value → Shared → Prop} {s : Shared} {t sl : Addr} {its : List Value} {vs : Value} {Q : Value → Shared → Prop} (ht : IsTup s.heap t its.toArray) (hs : s.heap.IsSliceOf sl .none .none vs) (ps : IsPart vs (some (-1)))
    (h : Q (.ref s.heap.objs.size) { s with heap := s.heap.push { cls := .type "tuple", data := .seq its.reverse.toArray } })
    (hsz : its.length ≤ sizeLine) : wpAny (model prog w) A (getItem (.ref t) (.ref sl)) Q E s := by
  have htake : sizeOk (.seq its.reverse.toArray) := by
    show its.reverse.toArray.size ≤ sizeLine
    rw [List.size_toArray, List.length_reverse]
    exact hsz
  obtain ⟨os, hos, hcs, hds⟩ := id hs
  have hTs : s.TypeIs (.ref sl) "slice" := ⟨os, hos, hcs⟩
  unfold getItem
  try with_reducible refine wpAny_holding ?_
  first | refine wpAny_bind (wpAny_pure ?_) | skip
  refine wpAny_bind (wpAny_sequenceKey ht.typeIs (by decide) ?_)
  refine wpAny_bind (wpAny_callSpecial?_slot (name := Str.ofString "__getitem__") ht.typeIs PyProof.Rows.slot_tuple_getitem
    (wpAny_call_entry PyProof.Rows.slot_tuple_getitem ht.typeIs entry_tuple_getitem ?_ (args_tuple_getitem _ _)))
  show wpAny _ _ (Builtin.Tuple.tupleItemsOf (.ref t) >>= _) _ _ s
  refine wpAny_bind (tupleItemsOf_ ht ?_)
  refine wpAny_bind (wpAny_typeOf hTs ?_)
  rw [if_pos (by decide)]
  refine wpAny_bind (sliceApplied_rev hs ps ?_)
  have hno : ¬ (((((its.toArray.size : Nat) : Int) - 1) == 0 && (-1 : Int) == 1 && its.toArray.size == its.toArray.size) = true) := by
    intro q
    rw [Bool.and_eq_true, Bool.and_eq_true] at q
    exact absurd (eq_of_beq q.1.2) (by decide)
  show wpAny _ _ (if (((((its.toArray.size : Nat) : Int) - 1) == 0 && (-1 : Int) == 1 && its.toArray.size == its.toArray.size)) = true then _ else _) _ _ s
  rw [if_neg hno]
  have e := pick_rev its
  rw [show its.length = its.toArray.size from (List.size_toArray ..).symm] at e
  rw [e]
  first
    | exact wpAny_bind (m := Builtin.Tuple.tupleExact _) (wpAny_newObj_type (wpAny_pure ⟨_, rfl, wpAny_pure h⟩) htake)
    | exact wpAny_bind (m := Builtin.Tuple.tupleExact _) (wpAny_newObj_type (wpAny_bind (wpAny_pure (wpAny_pure ⟨_, rfl, wpAny_pure h⟩))) htake)
    | exact wpAny_bind (wpAny_bind (m := Builtin.Tuple.tupleExact _) (wpAny_newObj_type (wpAny_pure (wpAny_pure ⟨_, rfl, wpAny_pure h⟩)) htake))
    | exact wpAny_bind (wpAny_bind (m := Builtin.Tuple.tupleExact _) (wpAny_newObj_type (wpAny_pure ⟨_, rfl, wpAny_pure h⟩) htake))
def tRevT (K : PySem.W.Frag) (te : TE) : TE := fun σ H Q => te σ H fun x H1 => ∃ a xs, x = .ref a ∧ SqT K H1 a xs ∧ ∀ p, H1 p = none → Q (.ref p) (upd H1 p (.tup xs.reverse))
theorem pe_revT {e : Expr} {te : TE} {k : Nat} {p1 p2 p3 pos : Pos} (he : PE X e te) : PE X (.Subscript e (.Slice none none (some (.UnaryOp .USub (.Constant (.int 1) k p1) p2)) p3) pos) (tRevT X.K te) := by
  refine ⟨fun pins s σ H Q I h => ?_⟩
  refine Subscript_ (thn (he.run pins s σ H _ I h) fun v s1 ⟨x, H1, I1, r1, q1⟩ => ?_)
  obtain ⟨a, xs, ex, hx, q⟩ := q1
  subst ex
  cases r1
  have hst : PO X (some (.UnaryOp .USub (.Constant (.int 1) k p1) p2)) (tPart (tUn (rU fun i => .int (-i)) (tC (.int 1)))) := po_some (pe_un un_neg pe_int)
  refine wpAny_Slice (thn (po_none.run pins s1 σ H1 (fun o H2 => o = none ∧ H2 = H1) I1 ⟨rfl, rfl⟩) fun vl s2 ⟨l, H2, I2, pl, el, e2⟩ => ?_)
  subst el e2
  refine thn (po_none.run pins s2 σ H2 (fun o H3 => o = none ∧ H3 = H2) I2 ⟨rfl, rfl⟩) fun vu s3 ⟨u, H3, I3, pu, eu, e3⟩ => ?_
  subst eu e3
  refine thn (hst.run pins s3 σ H3 (fun o H4 => o = some (-1) ∧ H4 = H3) I3 ⟨1, rfl, -1, rfl, rfl, rfl⟩) fun vs s4 ⟨o, H4, I4, ps, eo, e4⟩ => ?_
  subst eo e4
  cases pl
  cases pu
  have I5 : Inv X pins σ H4 { s4 with heap := s4.heap.push { cls := .type "slice", data := .fields #[.none, .none, vs] } } := I4.kept (t' := s4.toks) fun b ob q => Heap.get?_push_of_some _ q
  obtain ⟨its, r, ht, hz⟩ := I5.tuple hx
  have hlen := r.length
  show wpAny (model X.prog X.w) X.A (subscriptTail e (.Slice none none (some (.UnaryOp .USub (.Constant (.int 1) k p1) p2)) p3) (.ref a) (.ref s4.heap.objs.size)) (EP X pins σ Q) X.xe { s4 with heap := s4.heap.push { cls := .type "slice", data := .fields #[.none, .none, vs] } }
  refine tail_any (ops := [.ref a, .ref s4.heap.objs.size]) ht.typeIs (PySem.F.slot_tuple_getitem.lookup) ?_ (by with_unfolding_all rfl)
  refine getItem_tuple_rev ht (Heap.IsSliceOf.new _ .none .none vs) ps ?_ (by omega)
  refine ⟨.ref _, _, I5.laid (t' := s4.toks) (o := .tup xs.reverse) (fun b ob q => Heap.get?_push_of_some _ q) (Nat.le_refl _) ?_, rfl, q _ (I5.hok.fresh (Nat.le_refl _))⟩
  exact ⟨by rw [List.length_reverse]; exact hz, _, r.reverse, IsTup.new _ _⟩
end
end L2
namespace Z
open PySem PySem.Spec PyProof.Rows L2
/-! ### the mirror's words -/
def mulTM (x y : U) (S : Sto) : Out U := match x, y with
  | .tup us, .int k => if us.isEmpty = true then .bad else if k = 1 then .ok (.tup us) S else if k = 0 then .ok (.tup []) S else .bad
  | _, _ => .bad
def revTM (x : U) (S : Sto) : Out U := match x with
  | .tup us => .ok (.tup us.reverse) S
  | _ => .bad
@[simp] def gLt (gs : List MG) : MG := fun d ρ => match d with
  | .lst us => gTs gs us ρ
  | _ => none
section
variable {ω : Om} {X : Cx} {E : WX} {ma : ME U} {e : Expr} {K : PySem.W.Frag}
theorem s_mulT : SOp mulTM (rMulT K) := fun g H S d e x y Q E k r1 r2 w => by
  unfold mulTM at w
  split at w
  · rename_i us i
    obtain ⟨a, vs, rfl, ha, hr⟩ := r1.of_tup
    rw [r2.of_int]
    split at w
    · exact w.elim
    · rename_i ne
      have nv : vs ≠ [] := fun z => ne (by rw [List.isEmpty_iff, ← List.length_eq_zero_iff, ← hr.len, z]; rfl)
      split at w
      · rename_i e1
        exact ⟨a, i, vs, rfl, rfl, SqT.of (k.fh a _ ha), nv, Or.inl ⟨e1, w.ok k r1⟩⟩
      · split at w
        · rename_i e0
          refine ⟨a, i, vs, rfl, rfl, SqT.of (k.fh a _ ha), nv, Or.inr ⟨e0, fun p hp => ?_⟩⟩
          obtain ⟨x1, k1⟩ := k.newF (o := .tup []) hp
          exact w _ _ _ x1 k1 (rp_tup upd_same rps_nil)
        · exact w.elim
  · exact w.elim
theorem s_revT : SUn revTM (fun x H Q => ∃ a xs, x = .ref a ∧ SqT K H a xs ∧ ∀ p, H p = none → Q (.ref p) (upd H p (.tup xs.reverse))) := fun g H S d x Q E k r w => by
  unfold revTM at w
  split at w
  · obtain ⟨a, vs, rfl, ha, hr⟩ := r.of_tup
    refine ⟨a, vs, rfl, SqT.of (k.fh a _ ha), fun p hp => ?_⟩
    obtain ⟨x1, k1⟩ := k.newF (o := .tup vs.reverse) hp
    exact w _ _ _ x1 k1 (rp_tup upd_same (x1.rps hr.rev))
  · exact w.elim
theorem x_revT (h : PE X e (tRevT X.K (rdE ω E ma))) : PE X e (rdE ω E (mUn revTM ma)) := x_un h s_revT
theorem sg_l {gms : List MG} {t : TGs} {sl : List Nat} {n : Nat} (q1 : SGs ω gms t sl) (hn : n = gms.length := by rfl) : SG ω (gLt gms) (gLst K n t) sl := fun g ρ ρ' d v σ H Q a s r e q => by
  cases d with
  | lst us =>
    obtain ⟨p, vs, rfl, hp, hr⟩ := r.of_lst
    exact ⟨p, vs, rfl, SqL.of (s p _ hp), by rw [hr.len, gTs_len e, hn], q1 g ρ ρ' us vs σ H Q a s hr e q⟩
  | _ => cases e
/-! parts of a tuple -/
def slTM (x : U) (lo hi : Option Int) (S : Sto) : Out U := match x with
  | .tup us => .ok (.tup (cutU us lo hi)) S
  | _ => .bad
theorem cutU_all {us : List U} {lo hi : Option Int} (h : HT.sIx us.length 0 lo = 0 ∧ HT.sIx us.length us.length hi = us.length) : cutU us lo hi = us := by
  unfold cutU
  rw [h.1, h.2, List.drop_zero, Nat.sub_zero, List.take_length]
theorem s_slT {g : Gd} {H : Hp} {S : Sto} {u : U} {v : V} {lo hi : Option Int} {Q : VK} {E : XK} (k : Cor g H S) (r : Rp g u v) (w : Wp g H Rp Q E (slTM u lo hi S)) : rSlA K v lo hi H Q := by
  unfold slTM at w
  split at w
  · rename_i us
    obtain ⟨a, vs, rfl, ha, hr⟩ := r.of_tup
    refine ⟨a, vs, rfl, SqT.of (k.fh a _ ha), fun z => ?_, fun _ p hp => ?_⟩
    · rw [hr.len] at z
      rw [cutU_all z] at w
      exact w.ok k r
    · obtain ⟨x1, k1⟩ := k.newF (o := .tup (cutV vs lo hi)) hp
      exact w _ _ _ x1 k1 (rp_tup upd_same (x1.rps (hr.cutV lo hi)))
  · exact w.elim
@[simp] def mSlT01 (a h : ME U) : ME U := fun ρ S => (a ρ S).bind fun x S1 => (h ρ S1).bind fun y S2 => match y with
  | .int j => slTM x none (some j) S2
  | _ => .bad
@[simp] def mSlT10 (a l : ME U) : ME U := fun ρ S => (a ρ S).bind fun x S1 => (l ρ S1).bind fun y S2 => match y with
  | .int i => slTM x (some i) none S2
  | _ => .bad
theorem x_slT01 {mh : ME U} (h : PE X e (tSl (rSlA X.K) (rdE ω E ma) tNoPart (tPart (rdE ω E mh)))) : PE X e (rdE ω E (mSlT01 ma mh)) := h.to fun σ H Q h => by
  refine (rd_bind (R := Rp) (m := ma) (kk := fun ρ x S1 => (mh ρ S1).bind fun y S2 => match y with
    | .int j => slTM x none (some j) S2
    | _ => .bad) h).mono ?_
  rintro x H1 ⟨g1, ρ, S1, u, a1, r1, w1⟩
  refine ⟨g1, ρ, S1, a1, (Wp.bind (R := Rp) w1).mono ?_⟩
  rintro y H2 ⟨g2, S2, d, x2, c2, r2, w2⟩
  cases d with
  | int j => exact ⟨j, r2.of_int, s_slT c2 (x2.rp r1) w2⟩
  | _ => exact w2.elim
theorem x_slT10 {ml : ME U} (h : PE X e (tSl (rSlA X.K) (rdE ω E ma) (tPart (rdE ω E ml)) tNoPart)) : PE X e (rdE ω E (mSlT10 ma ml)) := h.to fun σ H Q h => by
  refine (rd_bind (R := Rp) (m := ma) (kk := fun ρ x S1 => (ml ρ S1).bind fun y S2 => match y with
    | .int j => slTM x (some j) none S2
    | _ => .bad) h).mono ?_
  rintro x H1 ⟨g1, ρ, S1, u, a1, r1, w1⟩
  refine ⟨g1, ρ, S1, a1, (Wp.bind (R := Rp) w1).mono ?_⟩
  rintro y H2 ⟨g2, S2, d, x2, c2, r2, w2⟩
  cases d with
  | int j => exact ⟨j, r2.of_int, s_slT c2 (x2.rp r1) w2⟩
  | _ => exact w2.elim
end
end Z

namespace L2
open PySem PySem.Spec PyProof.Rows PySem.W PySem.Calls
section
variable {prog : Program} {w : World} {A : Around} {E : Value → Shared → Prop} {s : Shared} {T : String} {r d : Addr} {n : Nat} {P : Nat → Value → Prop} {OK : Heap → Prop}
theorem collectK {R : List Value → Shared → Prop} (K : KdlSrc prog w T r d n P OK) (hh : A.handled = none) (hok : OK s.heap) (hn : n ≤ sizeLine)
    (h : ∀ (h' : Heap) (tk : Nat) (acc : Array Value), (∀ b o, s.heap.get? b = some o → h'.get? b = some o) → ItemsOf P acc n → R acc.toList { s with heap := h', toks := tk }) :
    wpAny (model prog w) A (collect (.ref r)) R E s := by
  have hlt := K.there _ hok
  unfold collect
  refine wpAny_bind (wpAny_runValue (codeAny_builtin entry_proto_collect' ?_))
  rw [Around.under_plainId PySem.F.plain_proto_collect _]
  show wpAny _ A.in1 (newList [] >>= fun l => again (.builtin "list.__iadd__" ⟨[l, .ref r], []⟩)) _ _ s
  refine wpAny_bind (wpAny_newObj_type ?_)
  refine wpAny_pure ⟨plainId_quiet PySem.F.plain_list_iadd _, codeAny_builtin entry_list_iadd' ?_⟩
  rw [Around.under_plainId PySem.F.plain_list_iadd _]
  have hS₁ : (s.heap.push { cls := .type "list", data := .seq ([] : List Value).toArray }).get? s.heap.objs.size = some { cls := .type "list", data := .seq #[] } := Heap.get?_push_size _ rfl
  show wpAny _ A.in1 (Builtin.List.listExtendWith (.ref s.heap.objs.size) (.ref r) (.ref s.heap.objs.size)) _ _ _
  have key := kdl_extend (prog := prog) (w := w) (A := A) (s := { s with heap := s.heap.push { cls := .type "list", data := .seq ([] : List Value).toArray } })
    (R := fun (q : Result) (s' : Shared) => ∃ (h' : Heap) (tk : Nat) (acc' : Array Value) (c' : Nat), q = .ok (.ret (.ref s.heap.objs.size)) ∧ s' = { s with heap := h', toks := tk } ∧
      (∀ b o, s.heap.get? b = some o → h'.get? b = some o) ∧ h'.get? s.heap.objs.size = some { cls := .type "list", dict := none, data := .seq acc' c', slots := #[] } ∧ ItemsOf P acc' n)
    K hh (K.keep _ _ hok fun b _ o e => Heap.get?_push_of_some _ e) s.heap.objs.size (Nat.ne_of_gt hlt.1) (Nat.ne_of_gt hlt.2) (.ref s.heap.objs.size) 0 hS₁
    (fun h' tk acc' c' hk hS' hacc => ⟨h', tk, acc', c', rfl, rfl, fun b o e => hk b o (Nat.ne_of_lt (Heap.lt_size e)) (Heap.get?_push_of_some _ e), hS', hacc⟩) hn
  refine wpAny_mono key (fun fin s' x => ?_) fun e s' x => ?_
  · cases fin with
    | done f =>
      obtain ⟨h', tk, acc', c', e, rfl, hk, hS', hacc⟩ := x
      cases e
      show wpAny _ A (load s.heap.objs.size >>= _) _ _ _
      refine wpAny_bind (wpAny_load hS' ?_)
      refine wpAny_pure ?_
      exact h h' tk acc' hk hacc
    | again c₁ =>
      refine ⟨x.1, codeAny_mono x.2 fun q s₂ y => ?_⟩
      obtain ⟨h', tk, acc', c', rfl, rfl, hk, hS', hacc⟩ := y
      show wpAny _ A (load s.heap.objs.size >>= _) _ _ _
      refine wpAny_bind (wpAny_load hS' ?_)
      refine wpAny_pure ?_
      exact h h' tk acc' hk hacc
  · obtain ⟨_, _, _, _, e', _⟩ := x
    cases e'
end
def rSortedD : List V → Hp → VK → Prop := fun vs H Q => ∃ (a : Addr) (kvs : List (List Key × V)) (k : V → Int × Int), vs = [V.ref a] ∧ Rd H a (.dT kvs) ∧
  (∀ bs, IsKeys H kvs bs → ∀ x ∈ bs.map V.ref, ∃ t, x = V.ref t ∧ H t = some (.tup [.int (k x).1, .int (k x).2])) ∧
  ∀ bs ys p, IsKeys H kvs bs → SrtO.Srtd (ltP k) ys → SrtO.Stb (ltP k) ys (bs.map V.ref) → H p = none → Q (.ref p) (upd H p (.lst ys))
section
variable {X : Cx}
theorem cr_sortedD (hcm : X.calm = true) : CallR X (.builtin "sorted") rSortedD := by
  intro pins s σ H vs us Q I r h
  obtain ⟨d, kvs, k, rfl, hd, hx0, q⟩ := h
  obtain ⟨u, rfl, rx⟩ := vals1 r
  cases rx
  obtain ⟨z, hs, ks, pr, o, es, ep, ho, hx, hdt, he, hn⟩ := (show ObjOk X.prog X.w H s.heap d (.dT kvs) from rd_of I.hok hd)
  have l1 : es.size = ks.length := size_of_entries he
  have l2 : kvs.length = ks.length := Paired.length pr
  have ik := isKeys_of pr
  have hp0 := hx0 _ ik
  refine Calls.call_function_entry kind_sorted plain_sorted entry_sorted (args_sorted1 _) ?_
  unfold Builtin.«sorted»
  refine wpAny_bind (m := checkCount "sorted" 1 1 _) (wpAny_pure ?_)
  refine wpAny_bind (collectK (A := X.A.in1) (kdl_raw hs hx hdt) (I.ok.hd hcm) ho (by omega) fun h' tk acc' hk it => ?_)
  have ea : acc'.toList = ks.map fun x => Value.ref x.2.1 := by
    have hl : acc'.toList.length = ks.length := by rw [Array.length_toList, it.1]; exact l1
    apply List.ext_getElem?
    intro j
    rw [List.getElem?_map]
    cases hj : acc'.toList[j]? with
    | none =>
      have h1 := List.getElem?_eq_none_iff.mp hj
      rw [List.getElem?_eq_none (by omega)]
      all_goals rfl
    | some v =>
      obtain ⟨en, hen, hv⟩ := it.2 j v (by rw [← Array.getElem?_toList]; exact hj)
      have qe := entry_at he j
      rw [hen] at qe
      cases hb : ks[j]? with
      | none =>
        rw [hb] at qe
        exact nomatch (show some en = none from qe)
      | some b =>
        rw [hb] at qe
        have e2 : en = entryOfKey (tupleKind (mixKind X.prog X.w)) b := Option.some.inj qe
        rw [hv, e2]
        all_goals rfl
  have eb : acc'.toList = (ks.map fun x => x.2.1).map Value.ref := by rw [ea, List.map_map]; all_goals rfl
  have rv : Vals ((ks.map fun x => x.2.1).map V.ref) acc'.toList := by rw [eb]; exact vals_refs _
  generalize (ks.map fun x => x.2.1) = bs at ik hp0 eb rv
  have I1 : Inv X pins σ H { s with heap := h', toks := tk } := I.kept (t' := tk) hk
  generalize acc'.toList = its at eb rv ⊢
  obtain ⟨e1, e2⟩ := refs_back rv fun x m => by
    obtain ⟨t, e, _⟩ := hp0 x m
    exact ⟨t, e⟩
  have hp : ∀ v ∈ its, Srt.IsPair h' v (k (backV v)).1 (k (backV v)).2 := fun v hv => by
    obtain ⟨t, rfl⟩ := e2 v hv
    have hm : V.ref t ∈ bs.map V.ref := by rw [e1]; exact List.mem_map.mpr ⟨_, hv, rfl⟩
    obtain ⟨t', e, ht⟩ := hp0 _ hm
    cases e
    obtain ⟨_, its2, r2, o, ho, hc, n, hd⟩ := I.hok _ _ ht
    obtain ⟨u1, u2, rfl, ri, rj⟩ := vals2 r2
    obtain ⟨t1, rfl⟩ := ri
    obtain ⟨t2, rfl⟩ := rj
    exact ⟨t, o, t1, t2, n, rfl, hk _ _ ho, hc, hd⟩
  have hz2 : its.length ≤ sizeLine := by
    have := rv.length
    rw [List.length_map] at this
    have l3 : its.length = bs.length := by omega
    rw [eb, List.length_map]
    have := Paired.length ik
    omega
  refine wpAny_bind (wpAny_newList ?_ hz2)
  have hoL : (h'.push (seqObj "list" its.toArray 0)).get? h'.objs.size = some (seqObj "list" its.toArray 0) := Heap.get?_push_size _ rfl
  show wpAny _ _ _ _ _ { s with heap := h'.push (seqObj "list" its.toArray 0), toks := tk }
  refine wpAny_bind (wpAny_holding (wpAny_call_entry slot_list_sort ⟨_, hoL, rfl⟩ entry_list_sort
    (SrtO.list_sort_ord (s := { s with heap := h'.push (seqObj "list" its.toArray 0), toks := tk }) (SrtO.swo_lex fun u => k (backV u)) hoL hz2 (fun h2 => ?_) fun out h1 h2 => ⟨_, rfl, ?_⟩) (args_list_sort _)))
  · refine SrtO.pairs_sortableO (s := { s with heap := h'.push (seqObj "list" its.toArray 0), toks := tk }) (by omega) (fun v hm => (hp v hm).keeps fun b o e _ => Heap.get?_push_of_some _ e) fun o e => ?_
    have e' : some o = some (seqObj "list" its.toArray 0) := e.symm.trans hoL
    cases e'
    intro c
    exact absurd (Value.type.inj c) (by decide)
  · have h3 : ∀ u ∈ out, ∃ a, u = Value.ref a := fun u hu => e2 u (h2.perm.mem_iff.mp hu)
    have hb : SrtO.Stb (ltP k) (out.map backV) (bs.map V.ref) := by
      rw [e1]
      exact SrtO.Stb.map (ltP_swo k) backV h2
    obtain ⟨ep, he'⟩ := sortedHeap_at (vs := its) (out := out.toArray) hoL
    refine wpAny_pure ⟨_, rfl, .ref h'.objs.size, upd H h'.objs.size (.lst (out.map backV)), I1.laid (t' := tk) (fun b u e => ?_) (Nat.le_refl _) ⟨?_, out, ep, vals_back h3, he'⟩, rfl, q _ _ _ ik (SrtO.srtd_map h1) hb (I1.hok.fresh (Nat.le_refl _))⟩
    · have hb : b < h'.objs.size := Heap.lt_size e
      rw [sortedHeap_old (Nat.ne_of_lt hb) (by rw [size_push']; exact Nat.lt_succ_of_lt hb)]
      exact Heap.get?_push_of_some _ e
    · rw [hb.len, List.length_map]
      have := Paired.length ik
      omega
end
end L2
namespace Z
open PySem PySem.Spec PyProof.Rows L2
def kpOf : List Key → Option (Int × Int)
  | [.inl i, .inl j] => some (i, j)
  | _ => none
def sortDM (c : Bool) (x : U) (S : Sto) : Out U := match dcOf S x with
  | some (.t kvs) => match optMap kpOf (kvs.map (·.1)) with
    | some ps => newLst c ((psort ps).map pU) S
    | none => .bad
  | _ => .bad
theorem Wp.shift {α β : Type} {g g1 : Gd} {H : Hp} {R : Gd → α → β → Prop} {Q : β → Hp → Prop} {E : XK} {o : Out α} (x : Gr g H g1 H) (w : Wp g H R Q E o) : Wp g1 H R Q E o := by
  cases o with
  | ok a S => exact fun g' H' b y c r => w g' H' b (x.trans y) c r
  | ex e S => exact fun g' H' cls d y c r => w g' H' cls d (x.trans y) c r
  | bad => exact w
theorem kpOf_eq {k : List Key} {p : Int × Int} (h : kpOf k = some p) : k = [.inl p.1, .inl p.2] := by
  unfold kpOf at h
  split at h
  · cases h; rfl
  · cases h
theorem keys_at {g : Gd} {H : Hp} : ∀ {kvs : List (List Key × U)} {vs : List (List Key × V)} {ps : List (Int × Int)} {bs : List Addr}, RpF g kvs vs → optMap kpOf (kvs.map (·.1)) = some ps → IsKeys H vs bs →
    (bs.map V.ref).map (kfH H) = ps ∧ ∀ b ∈ bs, H b = some (.tup [.int (kfH H (.ref b)).1, .int (kfH H (.ref b)).2])
  | [], vs, ps, bs, r, e, i => by
    cases r
    cases i
    cases e
    exact ⟨rfl, fun b m => by cases m⟩
  | kv :: kvs, vs, ps, bs, r, e, i => by
    cases r with
    | cons h t =>
      cases i with
      | cons h2 t2 =>
        rw [List.map_cons] at e
        unfold optMap at e
        cases e1 : kpOf kv.1 with
        | none => rw [e1] at e; cases e
        | some p =>
          rw [e1] at e
          cases e3 : optMap kpOf (kvs.map (·.1)) with
          | none => rw [e3] at e; cases e
          | some qs =>
            rw [e3] at e
            have e' : p :: qs = ps := Option.some.inj e
            subst e'
            obtain ⟨i1, i2⟩ := keys_at t e3 t2
            have hk := kpOf_eq e1
            rw [← h.1, hk] at h2
            have hf : ∀ b, H b = some (.tup [.int p.1, .int p.2]) → kfH H (.ref b) = p := fun b hb => by
              unfold kfH
              dsimp only
              rw [hb]
            have q := hf _ h2
            refine ⟨by rw [List.map_cons, List.map_cons, q, i1], fun b m => ?_⟩
            rcases List.mem_cons.mp m with rfl | m
            · rw [q]; exact h2
            · exact i2 b m
theorem learn_all {g : Gd} {H : Hp} {S : Sto} (k : Cor g H S) : ∀ {bs : List Addr}, (∀ b ∈ bs, ∃ vs, H b = some (.tup vs)) → ∃ g', Gr g H g' H ∧ Cor g' H S ∧ ∀ b ∈ bs, g'.F b = H b
  | [], _ => ⟨g, k.rfl_, k, fun b m => by cases m⟩
  | b :: bs, h => by
    obtain ⟨g1, x1, k1, f1⟩ := learn_all k (bs := bs) fun c m => h c (List.mem_cons_of_mem _ m)
    obtain ⟨vs, hb⟩ := h b List.mem_cons_self
    obtain ⟨x2, k2⟩ := k1.learn hb
    refine ⟨_, x1.trans x2, k2, fun c m => ?_⟩
    by_cases z : c = b
    · subst z
      rw [hb]
      exact upd_same
    · rcases List.mem_cons.mp m with m | m
      · exact absurd m z
      · show upd g1.F b _ c = _
        rw [upd_ne z]
        exact f1 c m
section
variable {ω : Om}
theorem s_sortD {c : Bool} : SCBw ω (on1 (sortDM c)) rSortedD := s_on1 fun g H S d x Q E o k r w => by
  unfold sortDM at w
  cases e : dcOf S d with
  | none => rw [e] at w; exact w.elim
  | some dc =>
    cases dc with
    | k kvs => rw [e] at w; exact w.elim
    | t kvs =>
      rw [e] at w
      dsimp only at w
      cases e2 : optMap kpOf (kvs.map (·.1)) with
      | none => rw [e2] at w; exact w.elim
      | some ps =>
        rw [e2] at w
        dsimp only at w
        obtain ⟨a, rfl, vs, ha, hr⟩ := dc_at k r e
        refine ⟨a, vs, kfH H, rfl, ha, fun bs ik x m => ?_, fun bs ys p ik h1 h2 hp => ?_⟩
        · obtain ⟨b, mb, rfl⟩ := List.mem_map.mp m
          exact ⟨b, rfl, (keys_at hr e2 ik).2 b mb⟩
        · obtain ⟨k1, k2⟩ := keys_at hr e2 ik
          obtain ⟨g1, x1, c1, f1⟩ := learn_all k (bs := bs) fun b m => ⟨_, k2 b m⟩
          have hperm := h2.perm
          have e3 : ys.map (kfH H) = psort ps := by
            refine psort_one ?_ ?_ (psort_pw ps)
            · refine (hperm.map _).trans ?_
              rw [k1]
              exact (psort_perm ps).symm
            · refine List.pairwise_map.mpr (h1.imp fun {x y} h => ?_)
              unfold leP
              have h' : SrtO.lexB (kfH H y) (kfH H x) = false := h
              rw [h']; rfl
          have hr2 : Rps g1 ((psort ps).map pU) ys := by
            rw [← e3]
            refine rps_keys fun y m => ?_
            obtain ⟨b, mb, rfl⟩ := List.mem_map.mp (hperm.mem_iff.mp m)
            exact rp_tup ((f1 b mb).trans (k2 b mb)) (rps_cons rp_int (rps_cons rp_int rps_nil))
          exact (new_lst c1 hr2 (w.shift x1)).2 p hp
end
end Z

namespace Z
open PySem PySem.Spec PyProof.Rows L2
def popAM (x : U) (us : List U) (S : Sto) : Out U := match us with
  | [.int i] => match celL S x with
    | some (n, ws) => if 0 ≤ i ∧ i < ws.length ∧ ws.length ≤ 10000000 then (match ws[i.toNat]? with
      | some u => .ok u (S.set n (.lst (ws.eraseIdx i.toNat)))
      | none => .bad) else .bad
    | none => .bad
  | _ => .bad
theorem s_popA : SMt popAM rPopAt := fun g H S d ds x xs Q E k r rs w => by
  unfold popAM at w
  split at w
  · rename_i i
    obtain ⟨v, ws0, rfl, r1, r2⟩ := rs.of_cons
    rw [r2.of_nil, r1.of_int]
    split at w
    · rename_i n ws h
      obtain ⟨a, vs, rfl, ha, e, hr⟩ := celL_of k r h
      split at w
      · rename_i l
        split at w
        · rename_i u hu
          obtain ⟨y, hy, ry⟩ := hr.get hu
          have hl := hr.len
          refine ⟨a, vs, i, i.toNat, y, rfl, rfl, e, by omega, by omega, ?_, hy, ?_⟩
          · unfold seqIndex?
            dsimp only
            rw [if_neg (show ¬ i < 0 by omega), decide_eq_true l.1, decide_eq_true (show i < (vs.length : Int) by omega)]
            rfl
          · obtain ⟨x1, k2⟩ := k.setC (o := .lst (vs.eraseIdx i.toNat)) (c := .lst (ws.eraseIdx i.toNat)) ha ⟨vs.eraseIdx i.toNat, upd_same, rps_erase _ hr⟩ (celL_S h)
            exact w _ _ _ x1 k2 (x1.rp ry)
        · exact w.elim
      · exact w.elim
    · exact w.elim
  · exact w.elim
end Z

namespace Z
open PySem PySem.Spec PyProof.Rows L2
/-! ### attributes -/
def putU (f : Str) (d : U) : List (Str × U) → List (Str × U)
  | [] => [(f, d)]
  | (g, x) :: r => if g = f then (g, d) :: r else (g, x) :: putU f d r
section
variable {g : Gd} {f : Str} {d : U} {v : V}
theorem RpF.lk : ∀ {fs : List (Str × U)} {vs : List (Str × V)}, RpF g fs vs → (∀ d, fs.lookup f = some d → ∃ v, vs.lookup f = some v ∧ Rp g d v) ∧ (fs.lookup f = none → vs.lookup f = none)
  | _, _, .nil => ⟨fun d h => (by cases h), fun _ => rfl⟩
  | p :: _, q :: _, .cons r t => by
    obtain ⟨h1, h2⟩ := RpF.lk t
    obtain ⟨a, u⟩ := p
    obtain ⟨b, w⟩ := q
    have e : a = b := r.1
    subst e
    simp only [List.lookup]
    cases f == a with
    | true => exact ⟨fun d h => ⟨w, rfl, by cases h; exact r.2⟩, fun h => (by cases h)⟩
    | false => exact ⟨h1, h2⟩
theorem RpF.putU (rv : Rp g d v) : ∀ {fs : List (Str × U)} {vs : List (Str × V)}, RpF g fs vs → RpF g (Z.putU f d fs) (putF f v vs)
  | _, _, .nil => .cons ⟨rfl, rv⟩ .nil
  | p :: _, q :: _, .cons r t => by
    have ih := RpF.putU rv t
    obtain ⟨a, u⟩ := p
    obtain ⟨b, w⟩ := q
    have e : a = b := r.1
    subst e
    unfold Z.putU putF
    by_cases z : a = f
    · rw [if_pos z, if_pos z]; exact .cons ⟨rfl, rv⟩ t
    · rw [if_neg z, if_neg z]; exact .cons r ih
end
/-- x.f, x an instance of c -/
def atM (c f : Str) (x : U) (S : Sto) : Out U := match x with
  | .cel n => match S[n]? with
    | some (.ins c' fs) => if c' = c then (match fs.lookup f with
      | some d => .ok d S
      | none => .bad) else .bad
    | _ => .bad
  | _ => .bad
/-- x.f = d -/
def setAtM (c f : Str) (x d : U) (S : Sto) : Option Sto := match x with
  | .cel n => match S[n]? with
    | some (.ins c' fs) => if c' = c ∧ fs.length < 900 then some (S.set n (.ins c (putU f d fs))) else none
    | _ => none
  | _ => none
/-- x is an instance of c, m is none of its own attributes -/
def insM (c m : Str) (x : U) (S : Sto) : Bool := match x with
  | .cel n => match S[n]? with
    | some (.ins c' fs) => decide (c' = c) && (fs.lookup m).isNone
    | _ => false
  | _ => false
@[simp] def mAt (c f : Str) (a : ME U) : ME U := fun ρ S => (a ρ S).bind fun x S1 => atM c f x S1
@[simp] def mSetAt (c f : Str) (mv mo : ME U) : MS := fun ρ S => (mv ρ S).thenS ρ fun d S1 => (mo ρ S1).thenS ρ fun x S2 => match setAtM c f x d S2 with
  | some S3 => .nx ρ S3
  | none => .bad
@[simp] def mCallM (c nm : Str) (n j : Nat) (m : MF) (gM : List U → List U → List U) (mo : ME U) (mr mk : ME (List U)) : ME U := fun ρ S => (mo ρ S).bind fun x S0 => match insM c nm x S0 with
  | true => (mr ρ S0).bind fun us S1 => (mk ρ S1).bind fun zs S2 => if us.length = n ∧ zs.length = j then m (gM (x :: us) zs) S2 else .bad
  | false => .bad
@[simp] def mNewI (c : Str) (n j : Nat) (m : MF) (gM : List U → List U → List U) (mr mk : ME (List U)) : ME U := fun ρ S => (mr ρ S).bind fun us S1 => (mk ρ S1).bind fun zs S2 => if us.length = n ∧ zs.length = j then
  (m (gM (.cel S2.length :: us) zs) (S2 ++ [.ins c []])).bind fun v S3 => (match v with
    | .non => .ok (.cel S2.length) S3
    | _ => .bad) else .bad
section
variable {ω : Om} {X : Cx} {E : WX} {c f nm : Str} {e : Expr} {st : Stmt} {ma mv mo : ME U} {mr mk : ME (List U)} {m : MF} {k j n i : Nat}
theorem x_at (kn : Kn X.K ω) (na : NoAttr X.K (ω.ad c) f) (h : PE X e (tFld X.K (rdE ω E ma) f)) : PE X e (rdE ω E (mAt c f ma)) := h.to fun σ H Q h => by
  refine (rd_bind (R := Rp) (m := ma) (kk := fun ρ x S1 => atM c f x S1) h).mono ?_
  rintro x H1 ⟨g1, ρ, S1, u, a1, r1, w1⟩
  unfold atM at w1
  split at w1
  · rename_i n
    obtain ⟨a, ha, rfl⟩ := r1.of_cel
    split at w1
    · rename_i c' fs e1
      by_cases hc : c' = c
      · subst hc
        rw [if_pos rfl] at w1
        obtain ⟨ki, dx, vs, e2, hr⟩ := a1.c.get ha e1
        cases hl : fs.lookup f with
        | none => rw [hl] at w1; exact w1.elim
        | some d =>
          rw [hl] at w1
          obtain ⟨v, lv, rv⟩ := (hr.lk (f := f)).1 d hl
          exact ⟨a, _, dx, vs, v, rfl, e2, (kn.i c' (by rw [← a1.e.k]; exact ki)).cl |> fun q => by rw [a1.e.k]; exact q, by rw [a1.e.k]; exact na, lv, w1 _ _ _ a1.c.rfl_ a1.c rv⟩
      · rw [if_neg hc] at w1; exact w1.elim
    · exact w1.elim
  · exact w1.elim
theorem xs_setAt (kn : Kn X.K ω) (na : NoAttr X.K (ω.ad c) f) (h : PS X st (sFld X.K (rdE ω E mo) (rdE ω E mv) f)) : PS X st (rdS ω E (mSetAt c f mv mo)) := h.to fun D σ H ⟨g, ρ, S, a, w⟩ =>
  ⟨g, ρ, S, a, Ws.ofE (R := Rp) a w fun v H1 g1 S1 d x1 a1 r1 w1 => ⟨g1, ρ, S1, a1, Ws.ofE (R := Rp) a1 w1 fun x H2 g2 S2 o x2 a2 r2 w2 => by
    cases ef : setAtM c f o d S2 with
    | none => rw [ef] at w2; exact w2.elim
    | some S4 =>
      rw [ef] at w2
      unfold setAtM at ef
      split at ef
      · rename_i n
        obtain ⟨b, ha, rfl⟩ := r2.of_cel
        split at ef
        · rename_i c' fs e1
          by_cases hc : c' = c ∧ fs.length < 900
          · rw [if_pos hc] at ef
            obtain ⟨hc, hl⟩ := hc
            subst hc
            cases ef
            obtain ⟨ki, dx, vs, e2, hr⟩ := a2.c.get ha e1
            have kc := (kn.i c' (by rw [← a2.e.k]; exact ki)).cl
            refine ⟨b, _, dx, vs, rfl, e2, by rw [a2.e.k]; exact kc, by rw [a2.e.k]; exact na, by rw [← hr.len]; omega, ?_⟩
            obtain ⟨x4, k4⟩ := a2.c.setC (o := .ins (g2.ca.ad c') dx (putF f v vs)) (c := .ins c' (putU f d fs)) ha ⟨ki, dx, _, upd_same, hr.putU (x2.rp r1)⟩ e1
            exact w2 _ _ _ x4 ⟨a2.e.mono x4, k4⟩
          · rw [if_neg hc] at ef; cases ef
        · cases ef
      · cases ef⟩⟩
theorem x_callM {gM : List U → List U → List U} {gV : List V → List V → List V} (h : PE X e (tM2 (ω.ad c) nm (n + 1) j gV (spM ω m) (fun σ cls d H => E cls d σ H) (rdE ω E mo) (rdA ω E mr) (rdA ω E mk))) (gk : GOk (n + 1) j gM gV) :
    PE X e (rdE ω E (mCallM c nm n j m gM mo mr mk)) := h.to fun σ H Q h => by
  refine (rd_bind (R := Rp) (m := mo) (kk := fun ρ x S0 => match insM c nm x S0 with
    | true => (mr ρ S0).bind fun us S1 => (mk ρ S1).bind fun zs S2 => if us.length = n ∧ zs.length = j then m (gM (x :: us) zs) S2 else .bad
    | false => .bad) h).mono ?_
  rintro x H0 ⟨g0, ρ, S0, u, a0, r0, w0⟩
  cases hi : insM c nm u S0 with
  | false => rw [hi] at w0; exact w0.elim
  | true =>
    rw [hi] at w0
    dsimp only at w0
    unfold insM at hi
    split at hi
    · rename_i n'
      obtain ⟨a, ha, rfl⟩ := r0.of_cel
      split at hi
      · rename_i c' fs e1
        rw [Bool.and_eq_true, decide_eq_true_eq, Option.isNone_iff_eq_none] at hi
        obtain ⟨hc, hl⟩ := hi
        subst hc
        obtain ⟨ki, dx, vs, e2, hr⟩ := a0.c.get ha e1
        refine ⟨a, dx, vs, rfl, by rw [← a0.e.k]; exact e2, hr.lk.2 hl, g0, ρ, S0, a0, (Wp.bind (R := Rps) w0).mono ?_⟩
        rintro vs1 H1 ⟨g1, S1, us, x1, c1, r1, w1⟩
        refine ⟨g1, ρ, S1, ⟨a0.e.mono x1, c1⟩, (Wp.bind (R := Rps) w1).mono ?_⟩
        rintro ws H2 ⟨g2, S2, zs, x2, c2, r2, w2⟩
        by_cases l : us.length = n ∧ zs.length = j
        · rw [if_pos l] at w2
          refine ⟨by rw [r1.len, l.1], by rw [r2.len]; exact l.2, g2, S2, _, (x2.ca.trans x1.ca).trans a0.e.k, c2, gk g2 _ zs _ ws (rps_cons ((x1.trans x2).rp r0) (x2.rps r1)) r2 (by rw [List.length_cons, l.1]) l.2, w2⟩
        · rw [if_neg l] at w2; exact w2.elim
      · cases hi
    · cases hi
theorem x_newI {gM : List U → List U → List U} {gV : List V → List V → List V} (ki : ω.ki c) (h : PE X e (tK2 (ω.ad c) (n + 1) j gV (spM ω m) (fun σ cls d H => E cls d σ H) (rdA ω E mr) (rdA ω E mk))) (gk : GOk (n + 1) j gM gV) :
    PE X e (rdE ω E (mNewI c n j m gM mr mk)) := h.to fun σ H Q h => by
  refine (rd_bind (R := Rps) (m := mr) (kk := fun ρ us S1 => (mk ρ S1).bind fun zs S2 => if us.length = n ∧ zs.length = j then
    (m (gM (.cel S2.length :: us) zs) (S2 ++ [.ins c []])).bind fun v S3 => (match v with
      | .non => Out.ok (U.cel S2.length) S3
      | _ => Out.bad) else Out.bad) h).mono ?_
  rintro vs1 H1 ⟨g1, ρ, S1, us, a1, r1, w1⟩
  refine ⟨g1, ρ, S1, a1, (Wp.bind (R := Rps) w1).mono ?_⟩
  rintro ws H2 ⟨g2, S2, zs, x2, c2, r2, w2⟩
  by_cases l : us.length = n ∧ zs.length = j
  · rw [if_pos l] at w2
    refine ⟨by rw [r1.len, l.1], by rw [r2.len]; exact l.2, fun x dx hx hdx ne => ?_⟩
    have ca2 : g2.ca = ω := x2.ca.trans a1.e.k
    have npd : dx ∉ g2.al := fun m => (c2.there m).1 hdx
    have fpd : g2.F dx = none := fnone c2.fh hdx
    have xd : Gr g2 H2 g2 (upd H2 dx (.own x)) := ⟨rfl, ⟨[], by simp, by simp⟩, (Ext.cellNew c2.fh hdx).any⟩
    have cd : Cor g2 (upd H2 dx (.own x)) S2 := c2.hid npd fpd
    have hx' : (upd H2 dx (.own x)) x = none := by rw [upd_ne (Ne.symm ne)]; exact hx
    obtain ⟨xn, cn⟩ := cd.newC (o := .ins (ω.ad c) dx []) (c := .ins c []) hx' ⟨by show (g2.push x).ca.ki c; rw [show (g2.push x).ca = ω from ca2]; exact ki, dx, [], by rw [show (g2.push x).ca = ω from ca2]; exact upd_same, .nil⟩
    have x3 : Gr g2 H2 (g2.push x) _ := xd.trans xn
    have rx : Rp (g2.push x) (.cel S2.length) (.ref x) := rp_cel (by rw [← c2.len]; simp)
    refine ⟨g2.push x, S2 ++ [.ins c []], _, ca2, cn, gk _ _ zs _ ws (rps_cons rx (x3.rps (x2.rps r1))) (x3.rps r2) (by rw [List.length_cons, l.1]) l.2, (Wp.bind (R := Rp) (w2.base x3)).mono ?_⟩
    rintro v H3 ⟨g3, S3, u, x4, c4, r4, w4⟩
    cases u with
    | non => exact ⟨r4.of_non, w4 _ _ _ c4.rfl_ c4 (x4.rp rx)⟩
    | _ => exact w4.elim
  · rw [if_neg l] at w2; exact w2.elim
end
end Z

namespace L2
open PySem PySem.Spec PyProof.Rows
def mergeT (kvs more : List (List Key × V)) : List (List Key × V) := more.foldl (fun acc kv => putK acc kv.1 kv.2) kvs
theorem length_putT (kvs : List (List Key × V)) (k : List Key) (v : V) : (putK kvs k v).length ≤ kvs.length + 1 := by
  unfold putK
  split
  · rw [List.length_map]; omega
  · simp
theorem length_mergeT : ∀ more kvs : List (List Key × V), (mergeT kvs more).length ≤ kvs.length + more.length
  | [], kvs => Nat.le_refl _
  | x :: r, kvs => by
    have a := length_mergeT r (putK kvs x.1 x.2)
    have b := length_putT kvs x.1 x.2
    show (mergeT (putK kvs x.1 x.2) r).length ≤ _
    rw [List.length_cons]
    omega
theorem KT.merge {H : Hp} : ∀ {more : List (List Key × V)} {rs : List (List Key × Addr × Value)} {kvs : List (List Key × V)} {vs : List (List Key × Addr × Value)}, KT H more rs → KT H kvs vs → KT H (mergeT kvs more) (storedAllH vs rs) := by
  intro more rs kvs vs r
  unfold KT at r
  induction r generalizing kvs vs with
  | nil => intro q; exact q
  | @cons p q ps qs h t ih =>
    intro r0
    have h1 := r0.put p.1 h.2.1 h.2.2
    have := ih h1
    show KT H (mergeT (putK kvs p.1 p.2) ps) (storedAllH (storedH vs q.1 q.2.1 q.2.2) qs)
    rw [← h.1]
    exact this
theorem key_at {P : Program} {w : World} {h h' : Heap} {k : List Key} {b : Addr} (x : (tupleKind (mixKind P w)).is h k b) (e : ∀ o, h.get? b = some o → h'.get? b = some o) : (tupleKind (mixKind P w)).is h' k b := by
  obtain ⟨o, items, n, h1, r⟩ := x
  exact ⟨o, items, n, e o h1, r⟩
def rDictPT (K : PySem.W.Frag) : List V → Hp → VK → Prop := fun xs H Q => ∃ (a : Addr) (ps : List Addr) (kvs : List (List Key × V)), xs = [.ref a] ∧ SqL K H a (ps.map V.ref) ∧
  Paired (fun p kv => ∃ b, SqT K H p [.ref b, kv.2] ∧ H b = some (.tup (kv.1.map kV))) ps kvs ∧ ∀ p, H p = none → Q (.ref p) (upd H p (.dT (mergeT [] kvs)))
section
variable {X : Cx}
theorem pairsT_of {pins : List (Addr × Obj)} {σ : St} {H : Hp} {s : Shared} (I : Inv X pins σ H s) : ∀ {ps : List Addr} {kvs : List (List Key × V)}, Paired (fun p kv => ∃ b, SqT X.K H p [.ref b, kv.2] ∧ H b = some (.tup (kv.1.map kV))) ps kvs →
    ∃ pss : List (List Key × Addr × Value), KT H kvs pss ∧ pss.length = ps.length ∧ ∀ (j : Nat) (x : List Key × Addr × Value), pss[j]? = some x → ∃ p : Addr, ps[j]? = some p ∧ PairAt s.heap p (.ref x.2.1) x.2.2
  | _, _, .nil => ⟨[], .nil, rfl, fun j q e => by simp at e⟩
  | _, _, .cons (a := p) (b := kv) h t => by
    obtain ⟨pss, r, hl, hp⟩ := pairsT_of I t
    obtain ⟨b, hq, hb⟩ := h
    obtain ⟨its, rv, ht, _⟩ := I.tuple hq
    obtain ⟨u, y, ei, ru, ry⟩ := vals2 rv
    subst ei
    cases ru
    refine ⟨(kv.1, b, y) :: pss, .cons ⟨rfl, hb, ry⟩ r, by rw [List.length_cons, List.length_cons, hl], fun j q e => ?_⟩
    cases j with
    | zero =>
      have e' : (kv.1, b, y) = q := Option.some.inj e
      subst e'
      exact ⟨p, rfl, Or.inl (show s.heap.IsTuple p #[.ref b, y] from ht)⟩
    | succ j =>
      obtain ⟨p', e1, e2⟩ := hp j q (by simpa using e)
      exact ⟨p', by simpa using e1, e2⟩
/-- dict(xs) of a list of pairs (tuple, value) -/
theorem cr_dictPT (hcalm : X.calm = true) (hu : X.A.units + 65 < cLine) : CallR X (.type "dict") (rDictPT X.K) := by
  intro pins s σ H xs us Q I r q
  obtain ⟨a, ps, kvs, ex, hq, hp, q⟩ := q
  subst ex
  obtain ⟨u, eu, rx⟩ := vals1 r
  subst eu
  cases rx
  obtain ⟨its, rv, pl, hz⟩ := I.list hq
  have ei := refs_at rv
  subst ei
  rw [List.length_map] at hz
  obtain ⟨pss, rel, hl, hpr⟩ := pairsT_of I hp
  have is0 : ∀ x ∈ pss, (tupleKind (mixKind X.prog X.w)).is s.heap x.1 x.2.1 := by
    have all : ∀ {l : List (List Key × V)} {m : List (List Key × Addr × Value)}, KT H l m → ∀ x ∈ m, (tupleKind (mixKind X.prog X.w)).is s.heap x.1 x.2.1 := by
      intro l m q
      induction q with
      | nil => intro x hx; exact nomatch hx
      | @cons p q ps qs hq t ih =>
        intro x hx
        rcases List.mem_cons.mp hx with e | hx
        · subst e
          exact key_of I.hok (by rw [← hq.1]; exact hq.2.1)
        · exact ih x hx
    exact all rel
  have ll : (pss.map fun x => (Value.ref x.2.1, x.2.2)).length = ps.length := by rw [List.length_map, hl]
  refine call_dict_pairsH (knd := tupleKind (mixKind X.prog X.w)) (ps := pss) (PairArg.list a (ps.map Value.ref).toArray (fun j => (ps[j]?).getD 0) (pss.map fun x => (Value.ref x.2.1, x.2.2))) (I.ok.hd hcalm) (by show X.A.units + 2 < cLine; omega)
    ⟨?_, by rw [ll]; simp, fun j k v e => ?_⟩ ⟨by rw [List.length_map], fun i key v e => ?_⟩ (fun h' k x hx => ?_) (by rw [ll]; exact hz) fun h' tk hd' k => ?_
  · obtain ⟨o, n, ho, hc, hd, hdat⟩ := pl
    exact ⟨o, n, ho, hc, hd, hdat⟩
  · rw [List.getElem?_map] at e
    obtain ⟨x, e1, e2⟩ := Option.map_eq_some_iff.mp e
    obtain ⟨p, e3, e4⟩ := hpr j x e1
    cases e2
    refine ⟨by simp [e3], ?_⟩
    show PairAt s.heap ((ps[j]?).getD 0) _ _
    rw [e3]; exact e4
  · have e' : (pss.map fun x => (Value.ref x.2.1, x.2.2))[i]? = some (key, v) := e
    rw [List.getElem?_map] at e'
    obtain ⟨x, e1, e2⟩ := Option.map_eq_some_iff.mp e'
    cases e2
    exact ⟨x.1, x.2.1, e1, rfl⟩
  · refine key_at (is0 x hx) fun o e => k _ o (Nat.ne_of_lt (Heap.lt_size e)) (by simp) e
  · have hm : (s.heap.objs.size == sysModules) = false := beq_eq_false_iff_ne.mpr (Nat.ne_of_gt I.big)
    have hlen : (mergeT [] kvs).length ≤ sizeLine := by
      refine Nat.le_trans (length_mergeT kvs []) ?_
      rw [List.length_nil, Nat.zero_add, Paired.length rel, hl]
      exact hz
    have hfree : H s.heap.objs.size = none := I.hok.fresh (Nat.le_refl _)
    obtain ⟨o, es, ep, h1, h2, h3, h4, _, h5⟩ := hd'
    refine ⟨.ref s.heap.objs.size, upd H s.heap.objs.size (.dT (mergeT [] kvs)), I.laid (t' := tk) (fun b o e => k b o (by simp) e) (Nat.le_refl _) (show ObjOk X.prog X.w _ _ _ (.dT (mergeT [] kvs)) from ⟨hlen, hm, storedAllH [] pss, (KT.merge rel .nil).keeps fun b ys e => ?_, o, es, ep, h1, h2, h3, h4, h5⟩), rfl, q _ hfree⟩
    rw [upd_ne (ne_of_none e hfree)]; exact e
end
/-! ### dict(d) -/
def hsh (a b : Int) : Int := reduceHash (Builtin.Tuple.tupleHashOf [hashInt a, hashInt b])
theorem hsh_nodup : ((List.range 256).map fun i => hsh ((i / 16 : Nat) : Int) ((i % 16 : Nat) : Int)).Nodup := by decide +kernel
theorem hsh_inj {a b c d : Nat} (ha : a < 16) (hb : b < 16) (hc : c < 16) (hd : d < 16) (h : hsh a b = hsh c d) : a = c ∧ b = d := by
  have n := hsh_nodup
  have q := (List.getElem?_inj (i := 16 * a + b) (j := 16 * c + d) (by simp; omega) n).mp (by
    rw [List.getElem?_map, List.getElem?_map, List.getElem?_range (by omega), List.getElem?_range (by omega)]
    show some (hsh (((16 * a + b) / 16 : Nat) : Int) (((16 * a + b) % 16 : Nat) : Int)) = some (hsh (((16 * c + d) / 16 : Nat) : Int) (((16 * c + d) % 16 : Nat) : Int))
    rw [show (16 * a + b) / 16 = a by omega, show (16 * a + b) % 16 = b by omega, show (16 * c + d) / 16 = c by omega, show (16 * c + d) % 16 = d by omega, h])
  omega
/-- a square of a board -/
def smallK (k : List Key) : Bool := match k with
  | [.inl a, .inl b] => decide (0 ≤ a ∧ a < 16) && decide (0 ≤ b ∧ b < 16)
  | _ => false
theorem smallK_hash {P : Program} {w : World} {k l : List Key} (hk : smallK k = true) (hl : smallK l = true) (h : (tupleKind (mixKind P w)).hash k = (tupleKind (mixKind P w)).hash l) : k = l := by
  have sh : ∀ {k : List Key}, smallK k = true → ∃ a b : Nat, k = [.inl (a : Int), .inl (b : Int)] ∧ a < 16 ∧ b < 16 := by
    intro k hk
    unfold smallK at hk
    split at hk
    · rename_i a b
      rw [Bool.and_eq_true, decide_eq_true_eq, decide_eq_true_eq] at hk
      exact ⟨a.toNat, b.toNat, by rw [Int.toNat_of_nonneg hk.1.1, Int.toNat_of_nonneg hk.2.1], by omega, by omega⟩
    · cases hk
  obtain ⟨a, b, rfl, ha, hb⟩ := sh hk
  obtain ⟨c, d, rfl, hc, hd⟩ := sh hl
  have h' : hsh a b = hsh c d := h
  obtain ⟨rfl, rfl⟩ := hsh_inj ha hb hc hd h'
  rfl
theorem hash_nodup {P : Program} {w : World} : ∀ {xs : List (List Key × Addr × Value)}, (xs.map (·.1)).Nodup → (∀ x ∈ xs, smallK x.1 = true) → (xs.map fun x => (tupleKind (mixKind P w)).hash x.1).Nodup
  | [], _, _ => List.nodup_nil
  | x :: r, h, s => by
    rw [List.map_cons, List.nodup_cons] at h
    rw [List.map_cons, List.nodup_cons]
    refine ⟨fun m => h.1 ?_, hash_nodup h.2 fun y m => s y (List.mem_cons_of_mem _ m)⟩
    obtain ⟨y, my, e⟩ := List.mem_map.mp m
    exact List.mem_map.mpr ⟨y, my, smallK_hash (s y (List.mem_cons_of_mem _ my)) (s x List.mem_cons_self) e⟩
section
variable {prog : Program} {w : World} {K : Type} [DecidableEq K] {knd : HeapKind prog w K} {A : Around} {E : Value → Shared → Prop} {s : Shared}
theorem call_dict_dictH {o : Addr} {more : List (K × Addr × Value)} {Q : Value → Shared → Prop} (hu : knd.room A.in1.in1) (hoS : (o == sysModules) = false) (ho : s.heap.DictOfH knd o more) (hty : ∀ x ∈ more, s.TypeIs (.ref x.2.1) "tuple")
    (hap : (more.map fun x => knd.hash x.1).Nodup) (hst : ∀ h', (∀ b o, s.heap.get? b = some o → h'.get? b = some o) → ∀ x ∈ more, knd.is h' x.1 x.2.1) (hsz : more.length ≤ sizeLine)
    (h : ∀ h', h'.DictOfH knd s.heap.objs.size more → (∀ b o, s.heap.get? b = some o → h'.get? b = some o) → Q (.ref s.heap.objs.size) { s with heap := h' }) :
    wpAny (model prog w) A (call (.type "dict") [.ref o]) Q E s := by
  refine callType_codes (Q₁ := fun obj s₁ => obj = .ref s.heap.objs.size ∧ s₁ = { s with heap := s.heap.push { cls := .type "dict", data := .dict #[] } }) F.kt_called_dict (F.kt_typeCall_dict_1 _) F.entry_dict_init (kt_code_dict_new _ ⟨rfl, rfl⟩) ?_
  rintro obj s₁ ⟨rfl, rfl⟩
  have k0 : ∀ b o, s.heap.get? b = some o → (s.heap.push { cls := .type "dict", data := .dict #[] }).get? b = some o := fun b o e => Heap.get?_push_of_some _ e
  have hnew : (s.heap.push { cls := .type "dict", data := .dict #[] }).DictOfH knd s.heap.objs.size [] := Heap.DictOfH.new s.heap
  have ho' : (s.heap.push { cls := .type "dict", data := .dict #[] }).DictOfH knd o more := ho.at' (fun ob e => k0 _ _ e) (hst _ k0)
  have hn : (more.map (·.1)).Nodup := ho.nodup
  have hdo : s.heap.objs.size ≠ o := by
    obtain ⟨_, _, _, hg, _⟩ := ho
    exact fun e => absurd (Heap.lt_size hg) (by rw [e]; exact Nat.lt_irrefl _)
  have hT : Shared.TypeIs { s with heap := s.heap.push { cls := .type "dict", data := .dict #[] } } (.ref s.heap.objs.size) "dict" := ⟨_, Heap.get?_push_size _ rfl, rfl⟩
  refine ⟨hT, F.args_dict_init_2 _ _, ?_⟩
  unfold Builtin.«dict.__init__»
  refine wpAny_bind ?_
  unfold Builtin.Dict.selfAndRest
  refine wpAny_bind (wpAny_notOrdered_dict hT ?_)
  show wpAny _ _ (pure (s.heap.objs.size, [Value.ref o])) _ _ _
  refine wpAny_pure ?_
  refine updateFrom_dictH (A := A.in1) .none hu hdo hoS hnew ho' (.inr ⟨fun x hx => (hty x hx).elim fun ob q => ⟨ob, k0 _ _ q.1, q.2⟩, hap⟩) (by simpa using hsz) fun h' hd' _ hs' => ?_
  rw [storedAllH_nil_of_nodup more hn] at hd'
  exact ⟨rfl, h h' hd' fun b ob e => hs'.extBut b ob (Nat.ne_of_lt (Heap.lt_size e)) (k0 b ob e)⟩
end
def rDictDT : List V → Hp → VK → Prop := fun xs H Q => ∃ (a : Addr) (kvs : List (List Key × V)), xs = [.ref a] ∧ Rd H a (.dT kvs) ∧ (∀ kv ∈ kvs, smallK kv.1 = true) ∧ ∀ p, H p = none → Q (.ref p) (upd H p (.dT kvs))
theorem KT.small {H : Hp} {kvs : List (List Key × V)} {xs : List (List Key × Addr × Value)} (r : KT H kvs xs) : (∀ kv ∈ kvs, smallK kv.1 = true) → ∀ x ∈ xs, smallK x.1 = true := by
  unfold KT at r
  induction r with
  | nil => intro _ x hx; exact nomatch hx
  | @cons p q ps qs h t ih =>
    intro hs x hx
    rcases List.mem_cons.mp hx with e | hx
    · subst e
      rw [← h.1]
      exact hs p List.mem_cons_self
    · exact ih (fun kv m => hs kv (List.mem_cons_of_mem _ m)) x hx
section
variable {X : Cx}
theorem cr_dictDT (hu : X.A.units + 65 < cLine) : CallR X (.type "dict") rDictDT := by
  intro pins s σ H xs us Q I r q
  obtain ⟨a, kvs, ex, hd, hs, q⟩ := q
  subst ex
  obtain ⟨u, eu, rx⟩ := vals1 r
  subst eu
  cases rx
  obtain ⟨z, hm, xs', rel, dd⟩ := dt_rd I.hok hd
  obtain ⟨_, _, _, _, _, _, _, his, _⟩ := id dd
  refine call_dict_dictH (by show X.A.units + 2 < cLine; omega) hm dd (fun x hx => ?_) (hash_nodup dd.nodup (rel.small hs)) (fun h' k x hx => key_at (his x hx) fun o e => k _ o e) (by rw [← Paired.length rel]; exact z) fun h' hd' k => ?_
  · obtain ⟨o, items, n, h1, h2, _⟩ := his x hx
    exact ⟨o, h1, h2⟩
  · have hfree : H s.heap.objs.size = none := I.hok.fresh (Nat.le_refl _)
    have hm : (s.heap.objs.size == sysModules) = false := beq_eq_false_iff_ne.mpr (Nat.ne_of_gt I.big)
    obtain ⟨o, es, ep, h1, h2, h3, h4, _, h5⟩ := hd'
    refine ⟨.ref s.heap.objs.size, upd H s.heap.objs.size (.dT kvs), I.laid (t' := s.toks) (fun b o e => k b o e) (Nat.le_refl _) (show ObjOk X.prog X.w _ _ _ (.dT kvs) from ⟨z, hm, xs', rel.keeps fun b ys e => ?_, o, es, ep, h1, h2, h3, h4, h5⟩), rfl, q _ hfree⟩
    rw [upd_ne (ne_of_none e hfree)]; exact e
end
end L2
/-! ### list(d.items()) -/
namespace L2
open PySem PySem.Spec PyProof.Rows L2.DX
section
variable {prog : Program} {w : World} {A : Around} {s : Shared} {r d : Addr} {es : Array DictEntry} {ep : Nat}
theorem initI {R : Result → Shared → Prop} (hh : A.handled = none) (hv : s.heap.IsItemsView r d) (hm : DT.Raw s.heap d es ep) (S : Addr) (hSr : S ≠ r) (hSd : d ≠ S) (hS : s.heap.get? S = some { cls := .type "list", data := .seq #[] })
    (hR : ∀ h' tk acc c as, (∀ b o, b ≠ S → s.heap.get? b = some o → h'.get? b = some o) → h'.get? S = some { cls := .type "list", dict := none, data := .seq acc c, slots := #[] } → as.length = es.size → DT.Made es s.heap.objs.size h' as →
      acc.toList = as.map Value.ref → R (.ok (.ret .none)) { s with heap := h', toks := tk }) (hn : es.size ≤ sizeLine) :
    wpAny (model prog w) A.in1 (Builtin.«list.__init__» ⟨[.ref S, .ref r], []⟩)
      (fun fin s' => match fin with | .done f => R (.ok f) s' | .again c' => c'.quiet = true ∧ codeAny (model prog w) A c' R s') (fun e s' => R (.error e) s') s := by
  show wpAny _ _ (do let old ← Builtin.List.listItems (.ref S); Builtin.List.listUpdate (.ref S) (fun _ => #[]); letGo old.toList.reverse; Builtin.List.listExtendWith (.ref S) (.ref r) .none) _ _ s
  refine wpAny_bind ?_
  unfold Builtin.List.listItems
  refine wpAny_bind (wpAny_seqItems hS rfl (wpAny_pure ?_))
  show wpAny _ _ (updateSeq S (fun _ => #[]) >>= fun _ => letGo (#[] : Array Value).toList.reverse >>= fun _ => Builtin.List.listExtendWith (.ref S) (.ref r) .none) _ _ s
  refine wpAny_bind (wpAny_updateSeq hS rfl ?_)
  have hS₂ := Heap.get?_update_self (Obj.mapSeq (fun _ => (#[] : Array Value))) hS rfl
  have oth : ∀ b o, b ≠ S → s.heap.get? b = some o → (s.heap.update S (Obj.mapSeq (fun _ => (#[] : Array Value)))).get? b = some o :=
    fun b o hb e => (Heap.get?_update_other _ _ (Ne.symm hb)).trans e
  have sz : (s.heap.update S (Obj.mapSeq (fun _ => (#[] : Array Value)))).objs.size = s.heap.objs.size := Heap.size_update ..
  refine wpAny_bind (wpAny_letGo ?_)
  refine DT.extI hh (let ⟨o, ho, x⟩ := hv; ⟨o, oth _ _ hSr.symm ho, x⟩) (hm.at' fun o e => oth _ _ hSd e) S hSr hSd .none _ hS₂ (fun h' tk acc c as hk hS' hl hG hacc => ?_) hn
  exact hR h' tk acc c as (fun b o hb e => hk b o hb (oth b o hb e)) hS' hl (hG.low (Nat.le_of_eq sz.symm)) hacc
end
def rItemsLT : List V → Hp → VK → Prop := fun xs H Q => ∃ (p a : Addr) (kvs : List (List Key × V)), xs = [.ref p] ∧ H p = some (itemsO p a) ∧ Rd H a (.dT kvs) ∧
  ∀ (H' : Hp) (l : Addr) (bs ts : List Addr), (∀ b o, H b = some o → H' b = some o) → IsKeys H kvs bs → H' l = some (.lst (ts.map V.ref)) → H l = none → ts.length = kvs.length → l ∉ ts →
    (∀ (j : Nat) (t : Addr), ts[j]? = some t → ∃ b kv, bs[j]? = some b ∧ kvs[j]? = some kv ∧ H' t = some (.tup [.ref b, kv.2])) → Q (.ref l) H'
section
variable {X : Cx}
theorem cr_itemsLT (hc : X.calm = true) : CallR X (.type "list") rItemsLT := by
  intro pins s σ H xs us Q I r h
  obtain ⟨p, a, kvs, rfl, hp, ha, q⟩ := h
  obtain rfl := Vals.ref1 r
  have view : s.heap.IsItemsView p a := (show ObjOk X.prog X.w H s.heap p (itemsO p a) from I.hok p _ hp).1
  obtain ⟨z, hd, xs', rel, o, es, ep, ho, hx, hdat, hes, his, hn⟩ := dt_rd I.hok ha
  have l1 : kvs.length = xs'.length := Paired.length rel
  have l2 : es.size = xs'.length := size_of_entries hes
  have hh : X.A.handled = none := I.ok.hd hc
  have plt : p < s.heap.objs.size := let ⟨_, ho, _⟩ := view; Heap.lt_size ho
  have alt : a < s.heap.objs.size := Heap.lt_size ho
  have k0 : ∀ b ob, s.heap.get? b = some ob → (s.heap.push { cls := .type "list", data := .seq #[] }).get? b = some ob := fun b ob e => Heap.get?_push_of_some _ e
  refine callType_codes (Q₁ := fun obj s₁ => obj = .ref s.heap.objs.size ∧ s₁ = { s with heap := s.heap.push { cls := .type "list", data := .seq #[] } }) PySem.F.called_list (PySem.F.typeCall_list_1 _) PySem.F.entry_list_init
    (code_list_new _ ⟨rfl, rfl⟩) fun obj s₁ h₁ => ?_
  obtain ⟨rfl, rfl⟩ := h₁
  have hS : (s.heap.push { cls := .type "list", data := .seq #[] }).get? s.heap.objs.size = some { cls := .type "list", data := .seq #[] } := Heap.get?_push_size _ rfl
  refine ⟨⟨_, hS, rfl⟩, PySem.F.args_list_init_2 _ _, initI (A := X.A.in1) (es := es) (ep := ep) hh (let ⟨o, ho, x⟩ := view; ⟨o, k0 _ _ ho, x⟩) ⟨o, k0 _ _ ho, hx, hdat⟩ _ (Nat.ne_of_gt plt) (Nat.ne_of_lt alt) hS (fun h' tk acc c as hk hS' hl hG hacc => ?_) (by rw [l2, ← l1]; exact z)⟩
  refine ⟨rfl, ?_⟩
  have hk' : ∀ b ob, s.heap.get? b = some ob → h'.get? b = some ob := fun b ob e => hk b ob (Nat.ne_of_lt (Heap.lt_size e)) (k0 b ob e)
  have szp : (s.heap.push { cls := .type "list", data := .seq #[] }).objs.size = s.heap.objs.size + 1 := Heap.size_push _ _
  have abv : ∀ b ∈ as, s.heap.objs.size < b := fun b m => by
    have q : (s.heap.push { cls := .type "list", data := .seq #[] }).objs.size < b := hG.above b m
    rw [szp] at q
    exact Nat.lt_of_succ_lt q
  have nd : as.Nodup := List.Pairwise.imp (fun h => Nat.ne_of_lt h) hG.rise
  have hSn : s.heap.objs.size ∉ as := fun m => Nat.lt_irrefl _ (abv _ m)
  have newS : H s.heap.objs.size = none := I.hok.fresh (Nat.le_refl _)
  have pr : ∀ (j : Nat) (b : Addr), as[j]? = some b → ∃ (kv : List Key × V) (kb : Addr) (u : Value), kvs[j]? = some kv ∧ (xs'.map fun x => x.2.1)[j]? = some kb ∧ RelV kv.2 u ∧ h'.get? b = some { cls := .type "tuple", data := .seq #[Value.ref kb, u] } := by
    intro j b hj
    obtain ⟨en, he, hg⟩ := hG.pairs j b hj
    rw [entry_at hes j] at he
    cases hxj : xs'[j]? with
    | none =>
      rw [hxj] at he
      exact nomatch (show (none : Option DictEntry) = some en from he)
    | some x =>
      rw [hxj] at he
      have een : entryOfKey (tupleKind (mixKind X.prog X.w)) x = en := Option.some.inj he
      obtain ⟨e0, he0, r1, r2, r3⟩ := pget rel hxj
      refine ⟨e0, x.2.1, x.2.2, he0, by rw [List.getElem?_map, hxj]; rfl, r3, ?_⟩
      rw [hg, ← een]
      all_goals rfl
  have I1 : Inv X pins σ (upd H s.heap.objs.size (.lst (as.map V.ref))) { s with heap := h', toks := tk } := by
    refine I.laid (t' := tk) hk' (Nat.le_refl _) ⟨by rw [List.length_map, hl, l2, ← l1]; exact z, acc.toList, c, by rw [hacc]; exact LiI.vals_refs as, ?_⟩
    rw [Array.toArray_toList]
    exact hS'
  obtain ⟨H2, I2, sub, tups⟩ := takeT (P := fun b vs => ∃ (j : Nat) (kv : List Key × V) (kb : Addr), as[j]? = some b ∧ kvs[j]? = some kv ∧ (xs'.map fun x => x.2.1)[j]? = some kb ∧ vs = [.ref kb, kv.2]) I as _ I1 nd fun b hb => by
    obtain ⟨j, hj⟩ := List.mem_iff_getElem?.mp hb
    obtain ⟨kv, kb, u, e1, e2, e3, e4⟩ := pr j b hj
    have lt := abv b hb
    refine ⟨Nat.le_of_lt lt, by rw [upd_ne (Nat.ne_of_gt lt)]; exact I.hok.fresh (Nat.le_of_lt lt), _, ⟨j, kv, kb, hj, e1, e2, rfl⟩, fun H2 => ⟨by show 2 ≤ sizeLine; decide, [.ref kb, u], .cons rfl (.cons e3 .nil), ⟨_, e4, rfl, _, rfl⟩⟩⟩
  refine ⟨.ref s.heap.objs.size, H2, I2, rfl, q H2 s.heap.objs.size (xs'.map fun x => x.2.1) as (fun b ob e => sub b ob (by rw [upd_ne (ne_of_none e newS)]; exact e)) (isKeys_of rel) (sub _ _ upd_same) newS (by omega) hSn fun j t hj => ?_⟩
  obtain ⟨vs, ⟨j', kv, kb, e1, e2, e3, rfl⟩, e4⟩ := tups t (List.mem_of_getElem? hj)
  have jj : j' = j := (List.getElem?_inj (List.getElem?_eq_some_iff.mp e1).1 nd).mp (e1.trans hj.symm)
  subst jj
  exact ⟨kb, kv, e3, e2, e4⟩
end
end L2

namespace L2
theorem CallR.or' {X : Cx} {f : PySem.Value} {r r' : List V → Hp → VK → Prop} (h : CallR X f r) (h' : CallR X f r') : CallR X f (fun xs H Q => r xs H Q ∨ r' xs H Q) := fun pins s σ H xs us Q I rv q => q.elim (fun q => h pins s σ H xs us Q I rv q) (fun q => h' pins s σ H xs us Q I rv q)
end L2
namespace Z
open PySem PySem.Spec PyProof.Rows L2 L2.DX
def kU : Key → U
  | .inl i => .int i
  | .inr z => .str z
def ktU (k : List Key) : U := .tup (k.map kU)
theorem rp_kU {g : Gd} (k : Key) : Rp g (kU k) (kV k) := by
  cases k with
  | inl i => exact rp_int
  | inr z => exact rp_str
theorem rps_kU {g : Gd} : ∀ k : List Key, Rps g (k.map kU) (k.map kV)
  | [] => rps_nil
  | k :: r => rps_cons (rp_kU k) (rps_kU r)
theorem rp_ktU {g : Gd} {b : Addr} {k : List Key} (h : g.F b = some (.tup (k.map kV))) : Rp g (ktU k) (.ref b) := rp_tup h (rps_kU k)
/-! ### dict(xs), dict(d) -/
def kvT (u : U) : Option (List Key × U) := match u with
  | .tup [k, v] => (kTof k).map fun kk => (kk, v)
  | _ => none
def mergeGT (kvs more : List (List Key × U)) : List (List Key × U) := more.foldl (fun acc kv => putG acc kv.1 kv.2) kvs
def dictM (x : U) (S : Sto) : Out U := match lsOf S x with
  | some us => match optMap kvT us with
    | some kvs => .ok (.cel S.length) (S ++ [.dT (mergeGT [] kvs)])
    | none => .bad
  | none => match dcOf S x with
    | some (.t kvs) => if (kvs.all fun kv => smallK kv.1) = true then .ok (.cel S.length) (S ++ [.dT kvs]) else .bad
    | _ => .bad
theorem RpF.mergeT {g : Gd} : ∀ {more : List (List Key × U)} {ms : List (List Key × V)} {kvs : List (List Key × U)} {vs : List (List Key × V)}, RpF g more ms → RpF g kvs vs → RpF g (mergeGT kvs more) (L2.mergeT vs ms)
  | _, _, _, _, .nil, h => h
  | p :: _, q :: _, kvs, vs, .cons r t, h => by
    have e : p.1 = q.1 := r.1
    have := RpF.mergeT t (h.put (k := p.1) r.2)
    show RpF g (mergeGT (putG kvs p.1 p.2) _) (L2.mergeT (putK vs q.1 q.2) _)
    rw [← e]
    exact this
theorem prs_at {K : PySem.W.Frag} {g : Gd} {H : Hp} {S : Sto} (k : Cor g H S) : ∀ {us : List U} {vs : List V} {kvs : List (List Key × U)}, Rps g us vs → optMap kvT us = some kvs →
    ∃ (ps : List Addr) (ws : List (List Key × V)), vs = ps.map V.ref ∧ Paired (fun p kv => ∃ b, SqT K H p [.ref b, kv.2] ∧ H b = some (.tup (kv.1.map kV))) ps ws ∧ RpF g kvs ws
  | [], vs, kvs, r, e => by
    cases e
    exact ⟨[], [], r.of_nil, .nil, .nil⟩
  | u :: us, vs, kvs, r, e => by
    obtain ⟨v, vs', rfl, r1, r2⟩ := r.of_cons
    unfold optMap at e
    cases e1 : kvT u with
    | none => rw [e1] at e; cases e
    | some kv =>
      rw [e1] at e
      cases e2 : optMap kvT us with
      | none => rw [e2] at e; cases e
      | some kvs' =>
        rw [e2] at e
        have e' : kv :: kvs' = kvs := Option.some.inj e
        subst e'
        obtain ⟨ps, ws, rfl, hp, hr⟩ := prs_at k r2 e2
        unfold kvT at e1
        split at e1
        · rename_i kk d
          obtain ⟨key, ek, rfl⟩ := Option.map_eq_some_iff.mp e1
          obtain ⟨a, xs, rfl, ha, hx⟩ := r1.of_tup
          obtain ⟨x1, xs1, rfl, q1, q2⟩ := hx.of_cons
          obtain ⟨x2, xs2, rfl, q3, q4⟩ := q2.of_cons
          rw [q4.of_nil] at ha
          obtain ⟨b, rfl, _, hb⟩ := kTof_v k q1 ek
          exact ⟨a :: ps, (key, x2) :: ws, rfl, .cons ⟨b, SqT.of (k.fh a _ ha), hb⟩ hp, .cons ⟨rfl, q3⟩ hr⟩
        · cases e1
theorem RpF.push {κ : Type} {g : Gd} {p : Addr} {xs : List (κ × U)} {ys : List (κ × V)} (h : RpF g xs ys) : RpF (g.push p) xs ys :=
  RpF.mono (g := g) (g' := g.push p) (Same.refl _) rfl (fun n a h => by rw [List.getElem?_append_left (List.getElem?_eq_some_iff.mp h).1]; exact h) h
theorem RpF.all {g : Gd} {f : List Key → Bool} : ∀ {xs : List (List Key × U)} {ys : List (List Key × V)}, RpF g xs ys → (xs.all fun kv => f kv.1) = true → ∀ kv ∈ ys, f kv.1 = true
  | _, _, .nil, _ => fun kv m => nomatch m
  | _, _, .cons r t, h => by
    rw [List.all_cons, Bool.and_eq_true] at h
    intro kv m
    rcases List.mem_cons.mp m with rfl | m
    · rw [← r.1]; exact h.1
    · exact RpF.all t h.2 kv m
section
variable {X : Cx} {ω : Om} {K : PySem.W.Frag}
theorem u_dict (hcalm : X.calm = true) (hu : X.A.units + 65 < cLine) : CallR X (.type "dict") (fun xs H Q => rDictPT X.K xs H Q ∨ rDictDT xs H Q) := (cr_dictPT hcalm hu).or' (cr_dictDT hu)
theorem s_dict : SCBw ω (on1 dictM) (fun xs H Q => rDictPT K xs H Q ∨ rDictDT xs H Q) := s_on1 fun g H S d x Q E o k r w => by
  unfold dictM at w
  cases e : lsOf S d with
  | some us =>
    rw [e] at w
    dsimp only at w
    cases e2 : optMap kvT us with
    | none => rw [e2] at w; exact w.elim
    | some kvs =>
      rw [e2] at w
      obtain ⟨a, vs, rfl, ha, hr⟩ := ls_of k r e
      obtain ⟨ps, ws, rfl, hp, hw⟩ := prs_at (K := K) k hr e2
      refine Or.inl ⟨a, ps, ws, rfl, SqL.of ha, hp, fun p hp0 => ?_⟩
      obtain ⟨x, k2⟩ := k.newC (o := .dT (L2.mergeT [] ws)) (c := .dT (mergeGT [] kvs)) hp0 ⟨_, upd_same, (RpF.mergeT hw .nil).push⟩
      exact w _ _ _ x k2 (rp_cel (by rw [← k.len]; simp))
  | none =>
    rw [e] at w
    dsimp only at w
    cases e2 : dcOf S d with
    | none => rw [e2] at w; exact w.elim
    | some dc =>
      rw [e2] at w
      cases dc with
      | k kvs => exact w.elim
      | t kvs =>
        dsimp only at w
        by_cases h : (kvs.all fun kv => smallK kv.1) = true
        · rw [if_pos h] at w
          obtain ⟨a, rfl, vs, ha, hr⟩ := dc_at k r e2
          refine Or.inr ⟨a, vs, rfl, ha, hr.all h, fun p hp0 => ?_⟩
          obtain ⟨x, k2⟩ := k.newC (o := .dT vs) (c := .dT kvs) hp0 ⟨_, upd_same, hr.push⟩
          exact w _ _ _ x k2 (rp_cel (by rw [← k.len]; simp))
        · rw [if_neg h] at w; exact w.elim
end
/-! ### d.pop(k, x) -/
def isDT (S : Sto) (x : U) : Bool := match x with
  | .cel n => match S[n]? with
    | some (.dT _) => true
    | _ => false
  | _ => false
def popTM (x : U) (us : List U) (S : Sto) : Out U := match x, us with
  | .cel n, [y, d] => match S[n]? with
    | some (.dT kvs) => match kTof y with
      | some k => match valG kvs k with
        | some v => .ok v (S.set n (.dT (dropG kvs k)))
        | none => .ok d S
      | none => .bad
    | _ => .bad
  | _, _ => .bad
@[simp] def mBD (o : U → List U → Sto → Out U) (a : ME U) (r : ME (List U)) : ME U := fun ρ S => (a ρ S).bind fun x S1 => match isDT S1 x with
  | true => (r ρ S1).bind (o x)
  | false => .bad
theorem isDT_of {g : Gd} {H : Hp} {S : Sto} {x : U} {v : V} (k : Cor g H S) (r : Rp g x v) (h : isDT S x = true) : ∃ (n : Nat) (a : Addr) (kvs : List (List Key × U)) (vs : List (List Key × V)), x = .cel n ∧ v = .ref a ∧ g.al[n]? = some a ∧ S[n]? = some (.dT kvs) ∧ H a = some (.dT vs) ∧ RpF g kvs vs := by
  unfold isDT at h
  split at h
  · rename_i n
    obtain ⟨a, ha, rfl⟩ := r.of_cel
    split at h
    · rename_i kvs e
      obtain ⟨vs, e2, hr⟩ := k.get ha e
      exact ⟨n, a, kvs, vs, rfl, rfl, ha, e, e2, hr⟩
    · cases h
  · cases h
theorem s_popT : SMt popTM rPopT := fun g H S d ds x xs Q E k r rs w => by
  unfold popTM at w
  split at w
  · rename_i n y z
    obtain ⟨a, ha, rfl⟩ := r.of_cel
    obtain ⟨v1, ws, rfl, r1, r2⟩ := rs.of_cons
    obtain ⟨v2, ws2, rfl, r3, r4⟩ := r2.of_cons
    rw [r4.of_nil]
    split at w
    · rename_i kvs e
      obtain ⟨vs, e2, hr⟩ := k.get ha e
      cases ek : kTof y with
      | none => rw [ek] at w; exact w.elim
      | some key =>
        rw [ek] at w
        dsimp only at w
        obtain ⟨b, rfl, _, hb⟩ := kTof_v k r1 ek
        obtain ⟨p1, p2⟩ := hr.val (k := key)
        cases ev : valG kvs key with
        | none =>
          rw [ev] at w
          refine ⟨a, vs, key, b, v2, rfl, rfl, e2, hb, fun v hv => ?_, fun _ => w.ok k r3⟩
          rw [p2 ev] at hv; cases hv
        | some u =>
          rw [ev] at w
          obtain ⟨v', q1, q2⟩ := p1 u ev
          refine ⟨a, vs, key, b, v2, rfl, rfl, e2, hb, fun v hv => ?_, fun hv => ?_⟩
          · rw [q1] at hv; cases hv
            obtain ⟨x4, k4⟩ := k.setC (o := .dT (dropK vs key)) (c := .dT (dropG kvs key)) ha ⟨_, upd_same, hr.drop⟩ e
            exact w _ _ _ x4 k4 (x4.rp q2)
          · rw [q1] at hv; cases hv
    · exact w.elim
  · exact w.elim
section
variable {ω : Om} {X : Cx} {E : WX} {e : Expr} {ma : ME U} {mr : ME (List U)} {c : Bool}
theorem x_bd {o : U → List U → Sto → Out U} {r : V → List V → Hp → VK → Prop} (h : PE X e (tBM X.K "dict" r (rdE ω E ma) (rdA ω E mr))) (s : SMt o r) : PE X e (rdE ω E (mBD o ma mr)) := h.to fun σ H Q h => by
  refine (rd_bind (R := Rp) (m := ma) (kk := fun ρ x S1 => match isDT S1 x with
    | true => (mr ρ S1).bind (o x)
    | false => .bad) h).mono ?_
  rintro x H1 ⟨g1, ρ, S1, d, a1, r1, w1⟩
  cases ed : isDT S1 d with
  | false => rw [ed] at w1; exact w1.elim
  | true =>
    rw [ed] at w1
    obtain ⟨n, a, kvs, vs, rfl, rfl, ha, e1, e2, hr⟩ := isDT_of a1.c r1 ed
    refine ⟨Or.inr (Or.inr (Or.inl ⟨rfl, Or.inr ⟨vs, e2⟩⟩)), g1, ρ, S1, a1, (Wp.bind (R := Rps) w1).mono ?_⟩
    rintro xs H2 ⟨g2, S2, ds, x2, c2, r2, w2⟩
    exact s g2 H2 S2 _ ds _ xs Q _ c2 (x2.rp r1) r2 w2
/-! ### list(d.items()) -/
def itmsOf (S : Sto) (x : U) : Option (List U) := match x with
  | .cel n => match S[n]? with
    | some (.dT kvs) => some (kvs.map fun kv => .tup [ktU kv.1, kv.2])
    | _ => none
  | _ => none
@[simp] def mItemsL (c : Bool) (a : ME U) : ME U := fun ρ S => (a ρ S).bind fun x S1 => match itmsOf S1 x with
  | some us => newLst c us S1
  | none => .bad
theorem Cor.sub {g : Gd} {H H' : Hp} {S : Sto} (k : Cor g H S) (h : ∀ b o, H b = some o → H' b = some o) : Gr g H g H' ∧ Cor g H' S := by
  have x : Gr g H g H' := ⟨rfl, ⟨[], by simp, by simp⟩, ⟨Same.refl _, fun a u e => h a u (k.fh a u e), fun a u _ e => h a u e, fun _ _ e => Or.inl e, fun a n => by
    cases e : H a with
    | none => exact absurd e n
    | some u => exact some_ne (h a u e)⟩⟩
  exact ⟨x, k.step x rfl fun a m => by
    cases e : H a with
    | none => exact absurd e (k.there m).1
    | some u => exact h a u e⟩
theorem x_itemsL (h : PE X e (tCB rItemsLT (tCons (tBM0 X.K "dict" rItemsT (rdE ω E ma)) tNil))) : PE X e (rdE ω E (mItemsL c ma)) := h.to fun σ H Q h => by
  refine (rd_bind (R := Rp) (m := ma) (kk := fun ρ x S1 => match itmsOf S1 x with
    | some us => newLst c us S1
    | none => .bad) h).mono ?_
  rintro x H1 ⟨g1, ρ, S1, d, a1, r1, w1⟩
  unfold itmsOf at w1
  split at w1
  · rename_i us e
    split at e
    · rename_i n
      obtain ⟨a, ha, rfl⟩ := r1.of_cel
      split at e
      · rename_i kvs e1
        cases e
        obtain ⟨vs, e2, hr⟩ := a1.c.get ha e1
        refine ⟨Or.inr (Or.inr (Or.inl ⟨rfl, Or.inr ⟨vs, e2⟩⟩)), a, vs, rfl, rfl, e2, fun p hp => ?_⟩
        have np : p ∉ g1.al := fun m => (a1.c.there m).1 hp
        have fp : g1.F p = none := fnone a1.c.fh hp
        have pa : a ≠ p := fun z => by rw [z, hp] at e2; cases e2
        have x2 : Gr g1 H1 g1 (upd H1 p (itemsO p a)) := ⟨rfl, ⟨[], by simp, by simp⟩, (Ext.cellNew a1.c.fh hp).any⟩
        have c2 : Cor g1 (upd H1 p (itemsO p a)) S1 := a1.c.hid np fp
        refine ⟨p, a, vs, rfl, upd_same, Rd.of (by rw [upd_ne pa]; exact e2), fun H' l bs ts sub ik hl nl len nin at_ => ?_⟩
        obtain ⟨x3, c3⟩ := c2.sub sub
        have nil' : H1 l = none := by
          by_cases z : l = p
          · rw [z]; exact hp
          · rw [upd_ne z] at nl; exact nl
        have fl : g1.F l = none := fnone a1.c.fh nil'
        have npl : l ∉ g1.al := fun m => (a1.c.there m).1 nil'
        have tb : ∀ b ∈ bs ++ ts, ∃ ws, H' b = some (.tup ws) := by
          intro b m
          rcases List.mem_append.mp m with m | m
          · obtain ⟨j, hj⟩ := List.mem_iff_getElem?.mp m
            have : ∀ {kvs : List (List Key × V)} {bs : List Addr}, IsKeys (upd H1 p (itemsO p a)) kvs bs → ∀ b ∈ bs, ∃ ws, (upd H1 p (itemsO p a)) b = some (.tup ws) := by
              intro kvs bs ik
              unfold IsKeys at ik
              induction ik with
              | nil => intro b m; exact nomatch m
              | cons h t ih =>
                intro b m
                rcases List.mem_cons.mp m with rfl | m
                · exact ⟨_, h⟩
                · exact ih b m
            obtain ⟨ws, q⟩ := this ik b m
            exact ⟨ws, sub b _ q⟩
          · obtain ⟨j, hj⟩ := List.mem_iff_getElem?.mp m
            obtain ⟨b', kv, _, _, q⟩ := at_ j b hj
            exact ⟨_, q⟩
        obtain ⟨g4, x4, c4, f4⟩ := learn_all c3 (bs := bs ++ ts) tb
        have x14 : Gr g1 H1 g4 H' := (x2.trans x3).trans x4
        have np4 : l ∉ g4.al := fun m => by
          obtain ⟨t, et, _⟩ := x4.al
          rw [et] at m
          rcases List.mem_append.mp m with m | m
          · exact npl m
          · rename_i ht
            exact absurd hl (by rw [ht l m]; simp)
        have fp4 : g4.F l = none := x4.x.out fl (some_ne hl) (fun u lr e => by rw [hl] at e; cases e; exact lr)
        have hrp : Rps g4 (kvs.map fun kv => .tup [ktU kv.1, kv.2]) (ts.map V.ref) := by
          have hr4 : RpF g4 kvs vs := x14.rpf hr
          have at4 : ∀ (j : Nat) (t : Addr), ts[j]? = some t → ∃ b kv, bs[j]? = some b ∧ vs[j]? = some kv ∧ g4.F t = some (.tup [.ref b, kv.2]) := fun j t hj => by
            obtain ⟨b, kv, q1, q2, q3⟩ := at_ j t hj
            exact ⟨b, kv, q1, q2, by rw [f4 t (List.mem_append_right _ (List.mem_of_getElem? hj))]; exact q3⟩
          have ik4 : ∀ (j : Nat) (b : Addr) (kv : List Key × V), bs[j]? = some b → vs[j]? = some kv → g4.F b = some (.tup (kv.1.map kV)) := by
            have gen : ∀ {kvs : List (List Key × V)} {bs : List Addr}, IsKeys (upd H1 p (itemsO p a)) kvs bs → ∀ (j : Nat) (b : Addr) (kv : List Key × V), bs[j]? = some b → kvs[j]? = some kv → (upd H1 p (itemsO p a)) b = some (.tup (kv.1.map kV)) := by
              intro kvs bs ik
              unfold IsKeys at ik
              induction ik with
              | nil => intro j b kv e; simp at e
              | cons h t ih =>
                intro j b kv e1 e2
                cases j with
                | zero => simp at e1 e2; subst e1 e2; exact h
                | succ j => exact ih j b kv (by simpa using e1) (by simpa using e2)
            intro j b kv e1 e2
            rw [f4 b (List.mem_append_left _ (List.mem_of_getElem? e1))]
            exact sub _ _ (gen ik j b kv e1 e2)
          clear at_ ik tb w1 h
          have gen2 : ∀ (ts bs : List Addr) (kvs : List (List Key × U)) (vs : List (List Key × V)), RpF g4 kvs vs → ts.length = vs.length → (∀ (j : Nat) (t : Addr), ts[j]? = some t → ∃ b kv, bs[j]? = some b ∧ vs[j]? = some kv ∧ g4.F t = some (.tup [.ref b, kv.2])) →
              (∀ (j : Nat) (b : Addr) (kv : List Key × V), bs[j]? = some b → vs[j]? = some kv → g4.F b = some (.tup (kv.1.map kV))) → Rps g4 (kvs.map fun kv => U.tup [ktU kv.1, kv.2]) (ts.map V.ref) := by
            intro ts
            induction ts with
            | nil =>
              intro bs kvs vs r l _ _
              cases r with
              | nil => exact rps_nil
              | cons _ _ => cases l
            | cons t ts ih =>
              intro bs kvs vs r l h1 h2
              cases r with
              | nil => cases l
              | @cons kv kw kvs' vs' r0 r1 =>
                obtain ⟨b, kv', q1, q2, q3⟩ := h1 0 t rfl
                have e0 : kv' = kw := by simpa using q2.symm
                subst e0
                have hb := h2 0 b _ q1 rfl
                refine rps_cons (rp_tup q3 (rps_cons ?_ (rps_cons r0.2 rps_nil))) ?_
                · have := rp_ktU hb
                  rw [← r0.1] at this
                  exact this
                · cases bs with
                  | nil => cases q1
                  | cons b0 bs => exact ih bs kvs' vs' r1 (by simpa using l) (fun j t hj => by simpa using h1 (j + 1) t (by simpa using hj)) fun j b kv e1 e2 => h2 (j + 1) b kv (by simpa using e1) (by simpa using e2)
          exact gen2 ts bs kvs vs hr4 len at4 ik4
        exact end_lst x14 c4 nil' np4 fp4 hl hrp w1
      · cases e
    · cases e
  · exact w1.elim
end
end Z

namespace L2
open PySem PySem.Spec PyProof.Rows
/-- the keys of the dict; it stays locked -/
def uKeysD (td : TE) : TI := fun σ H R => td σ H fun x H1 => ∃ d kvs, x = .ref d ∧ ((H1 d = some (.dT kvs) ∧ ∀ o, R (Itkt d o kvs) (upd H1 d (.frz o (.dT kvs)))) ∨ ∃ o, H1 d = some (.frz o (.dT kvs)) ∧ R (Itkt d o kvs) H1)
section
variable {X : Cx} {tg e : Expr} {td : TE} {t : TE} {st : Stmt} {ts : TS}
theorem u_keysD (he : PE X e td) : PI X tg e (uKeysD td) := by
  refine ⟨fun pins s σ H R I h => ?_⟩
  refine thn (he.run pins s σ H _ I h) fun u s1 ⟨x, H1, I1, rx, d, kvs, ex, q⟩ => ?_
  subst ex
  obtain rfl : u = Value.ref d := rx
  have go : ∀ {o : Obj} {H2 : Hp}, Inv X pins σ H2 s1 → H2 d = some (.frz o (.dT kvs)) → R (Itkt d o kvs) H2 → wpAny (model X.prog X.w) X.A (pyIter (.ref d)) (PIE X pins σ tg R) X.xe s1 := fun {o H2} I2 hd q => by
    obtain ⟨hs, hgd, hx, es, ep, hdt, hsz, ent⟩ := I2.frzT hd
    refine iter_keys hs hgd hx hdt (pi_one (tk := s1.toks) I2 _ (turn_keysT _ hdt) ⟨_, Heap.get?_push_size _ rfl, rfl, ?_⟩ q)
    rw [hsz] <;> rfl
  rcases q with ⟨hd, q⟩ | ⟨o, hd, q⟩
  · obtain ⟨o, I2⟩ := I1.lock hd trivial
    exact go I2 upd_same (q o)
  · exact go I1 hd q
/-- what was locked within is open again behind -/
def tUnlE (t : TE) : TE := fun σ H Q => ∃ d u, H d = some u ∧ Mut (some u) ∧ t σ H fun v H' => ∃ o u', H' d = some (.frz o u') ∧ Q v (upd H' d u')
def tUnlS (t : TS) : TS := fun D σ H => ∃ d u, H d = some u ∧ Mut (some u) ∧ t ⟨fun σ' H' => ∃ o u', H' d = some (.frz o u') ∧ D.nx σ' (upd H' d u'), fun v H' => ∃ o u', H' d = some (.frz o u') ∧ D.rt v (upd H' d u'),
  fun σ' H' => ∃ o u', H' d = some (.frz o u') ∧ D.bk σ' (upd H' d u'), fun σ' H' => ∃ o u', H' d = some (.frz o u') ∧ D.ct σ' (upd H' d u')⟩ σ H
theorem pe_unl (h : PE X e t) : PE X e (tUnlE t) := by
  refine ⟨fun pins s σ H Q I hw => ?_⟩
  obtain ⟨d, u, hd, mu, hw⟩ := hw
  refine thn (h.run pins s σ _ _ I hw) fun v s1 ⟨x, H1, I2, r, o, u', e2, q⟩ => ?_
  exact ⟨x, _, I2.unlock e2 (I.nofrz hd mu), r, q⟩
theorem ps_unl (h : PS X st ts) : PS X st (tUnlS ts) := by
  refine ⟨fun pins s σ H D I hw => ?_⟩
  obtain ⟨d, u, hd, mu, hw⟩ := hw
  refine thn (h.run pins s σ _ _ I hw) fun f s1 q => ?_
  cases f with
  | next => obtain ⟨σ', H', I2, o, u', e, q⟩ := q; exact ⟨σ', _, I2.unlock e (I.nofrz hd mu), q⟩
  | brk => obtain ⟨σ', H', I2, o, u', e, q⟩ := q; exact ⟨σ', _, I2.unlock e (I.nofrz hd mu), q⟩
  | cont => obtain ⟨σ', H', I2, o, u', e, q⟩ := q; exact ⟨σ', _, I2.unlock e (I.nofrz hd mu), q⟩
  | ret v => obtain ⟨x, σ', H', I2, r, o, u', e, q⟩ := q; exact ⟨x, σ', _, I2.unlock e (I.nofrz hd mu), r, q⟩
end
end L2
namespace Z
open PySem PySem.Spec PyProof.Rows L2
/-! ### what is open again -/
/-- all is known as it was, but for dicts that were walked -/
def SameD (F F' : Hp) : Prop := ∀ a u, F a = some u → (∀ o kvs, u ≠ .frz o (.dT kvs)) → F' a = some u
section
variable {g g' : Gd} {n : Nat}
theorem XdAt.drop {F F' : Hp} {ks : List Str} {vs : List V} {d : Option Addr} (s : SameD F F') (h : XdAt F ks vs d) : XdAt F' ks vs d := by
  rcases h with h | ⟨dx, e, h⟩
  · exact Or.inl h
  · exact Or.inr ⟨dx, e, s dx _ h fun _ _ z => nomatch z⟩
mutual
theorem Rp.drop (s : SameD g.F g'.F) (c : g'.ca = g.ca) (l : g'.al = g.al) : ∀ (d : U) (v : V), Rp g d v → Rp g' d v
  | .non, _, h => by unfold Rp at h ⊢; exact h
  | .bl _, _, h => by unfold Rp at h ⊢; exact h
  | .int _, _, h => by unfold Rp at h ⊢; exact h
  | .str _, _, h => by unfold Rp at h ⊢; exact h
  | .lst ds, _, h => by
    unfold Rp at h ⊢
    obtain ⟨a, vs, e, ha, hs⟩ := h
    exact ⟨a, vs, e, s a _ ha (fun _ _ z => nomatch z), Rps.dropD s c l ds vs hs⟩
  | .tup ds, _, h => by
    unfold Rp at h ⊢
    obtain ⟨a, vs, e, ha, hs⟩ := h
    exact ⟨a, vs, e, s a _ ha (fun _ _ z => nomatch z), Rps.dropD s c l ds vs hs⟩
  | .dct ks ds, _, h => by
    unfold Rp at h ⊢
    obtain ⟨a, vs, e, ha, hl, hs⟩ := h
    exact ⟨a, vs, e, s a _ ha (fun _ _ z => nomatch z), hl, Rps.dropD s c l ds vs hs⟩
  | .dtt ks ds, _, h => by
    unfold Rp at h ⊢
    obtain ⟨a, vs, e, ha, hl, hs⟩ := h
    exact ⟨a, vs, e, s a _ ha (fun _ _ z => nomatch z), hl, Rps.dropD s c l ds vs hs⟩
  | .exc nm tx ks ds, _, h => by
    unfold Rp at h ⊢
    obtain ⟨kc, a, t, dx, vs, e, ha, ht, hd, hl, hs⟩ := h
    exact ⟨by rw [c]; exact kc, a, t, dx, vs, e, by rw [c]; exact s a _ ha (fun _ _ z => nomatch z), s t _ ht (fun _ _ z => nomatch z), hd.drop s, hl, Rps.dropD s c l ds vs hs⟩
  | .cel n, _, h => by
    unfold Rp at h ⊢
    obtain ⟨a, ha, e⟩ := h
    exact ⟨a, by rw [l]; exact ha, e⟩
  | .scr ns, _, h => by
    unfold Rp at h ⊢
    obtain ⟨a, e, h⟩ := h
    refine ⟨a, e, ?_⟩
    rcases h with ⟨o, h⟩ | h
    · exact Or.inl ⟨o, s a _ h fun _ _ z => nomatch z⟩
    · exact Or.inr (by rw [c]; exact h)
theorem Rps.dropD (s : SameD g.F g'.F) (c : g'.ca = g.ca) (l : g'.al = g.al) : ∀ (ds : List U) (vs : List V), Rps g ds vs → Rps g' ds vs
  | [], _, h => by unfold Rps at h ⊢; exact h
  | d :: ds, _, h => by
    unfold Rps at h ⊢
    obtain ⟨v, ws, e, h1, h2⟩ := h
    exact ⟨v, ws, e, Rp.drop s c l d v h1, Rps.dropD s c l ds ws h2⟩
end
theorem RpF.dropD {κ : Type} (s : SameD g.F g'.F) (c : g'.ca = g.ca) (l : g'.al = g.al) {xs : List (κ × U)} {ys : List (κ × V)} (h : RpF g xs ys) : RpF g' xs ys :=
  Paired.mapP h fun p q r => ⟨r.1, r.2.drop s c l _ _⟩
theorem CelAt.drop {H H' : Hp} {a : Addr} (s : SameD g.F g'.F) (c : g'.ca = g.ca) (l : g'.al = g.al) (e : H' a = H a) : ∀ {cl : Cl}, CelAt g H cl a → CelAt g' H' cl a
  | .lst _, ⟨vs, h, r⟩ => ⟨vs, e.trans h, r.dropD s c l _ _⟩
  | .dK _, ⟨vs, h, r⟩ => ⟨vs, e.trans h, r.dropD s c l⟩
  | .dT _, ⟨vs, h, r⟩ => ⟨vs, e.trans h, r.dropD s c l⟩
  | .ins _ _, ⟨ki, dx, vs, h, r⟩ => ⟨by rw [c]; exact ki, dx, vs, by rw [c]; exact e.trans h, r.dropD s c l⟩
  | .fK _, ⟨vs, ⟨o, h⟩, r⟩ => ⟨vs, ⟨o, e.trans h⟩, r.dropD s c l⟩
  | .fT _, ⟨vs, ⟨o, h⟩, r⟩ => ⟨vs, ⟨o, e.trans h⟩, r.dropD s c l⟩
/-- a is not known any more -/
abbrev Gd.del (g : Gd) (a : Addr) : Gd := { g with F := fun b => if b = a then none else g.F b }
theorem del_same {a : Addr} : (g.del a).F a = none := by show (if a = a then none else g.F a) = none; rw [if_pos rfl]
theorem del_ne {a b : Addr} (h : b ≠ a) : (g.del a).F b = g.F b := by show (if b = a then none else g.F b) = _; rw [if_neg h]
end
section
variable {g g1 : Gd} {H H1 : Hp} {S S1 : Sto} {a : Addr} {n : Nat} {kvs kvs1 : List (List Key × U)} {vs : List (List Key × V)} {o : Obj}
/-- a dict is locked -/
theorem Cor.lock (k : Cor g H S) (ha : g.al[n]? = some a) (h : S[n]? = some (.dT kvs)) (e : H a = some (.dT vs)) (r : RpF g kvs vs) :
    Gr g H (g.put a (.frz o (.dT vs))) (upd H a (.frz o (.dT vs))) ∧ Cor (g.put a (.frz o (.dT vs))) (upd H a (.frz o (.dT vs))) (S.set n (.fT kvs)) := by
  have m : a ∈ g.al := List.mem_of_getElem? ha
  have fa : g.F a = none := (k.at_ n a _ ha h).1.no rfl
  have s : Same g.F (upd g.F a (.frz o (.dT vs))) := fun b u e => by rw [upd_ne (ne_of_none e fa)]; exact e
  have fh : Same (upd g.F a (.frz o (.dT vs))) (upd H a (.frz o (.dT vs))) := fun b u e => by
    by_cases z : b = a
    · subst z; rw [upd_same] at e ⊢; exact e
    · rw [upd_ne z] at e ⊢; exact k.fh b u e
  have x : Gr g H (g.put a (.frz o (.dT vs))) (upd H a (.frz o (.dT vs))) := ⟨rfl, ⟨[], by simp, by simp⟩, ⟨s, fh, fun b u nb e => by
    rw [upd_ne fun z => nb (by rw [z]; exact m)]; exact e, fun b h1 h2 => by
    by_cases z : b = a
    · subst z; exact Or.inr ⟨_, upd_same, trivial⟩
    · exact Or.inl (by show upd g.F a _ b = none; rw [upd_ne z]; exact h2), fun b h1 => by
    by_cases z : b = a
    · subst z; rw [upd_same]; exact some_ne rfl
    · rw [upd_ne z]; exact h1⟩⟩
  refine ⟨x, fh, by rw [List.length_set]; exact k.len, fun n' a' c' h1 h2 => ?_, k.nd⟩
  by_cases en : n' = n
  · subst en
    have l := (List.getElem?_eq_some_iff.mp h1).1
    rw [k.len] at l
    rw [List.getElem?_set_self l] at h2
    cases h2
    rw [ha] at h1
    cases h1
    refine ⟨?_, vs, ⟨o, upd_same⟩, x.rpf r⟩
    show (if true = true then (upd g.F a (.frz o (.dT vs))) a = upd H a (.frz o (.dT vs)) a else _)
    rw [if_pos rfl, upd_same, upd_same]
  · rw [List.getElem?_set_ne (Ne.symm en)] at h2
    obtain ⟨q1, q2⟩ := k.at_ n' a' c' h1 h2
    have ne : a' ≠ a := fun e2 => en (by
      subst e2
      exact (List.getElem?_inj (List.getElem?_eq_some_iff.mp h1).1 k.nd).mp (h1.trans ha.symm))
    exact ⟨q1.mono (upd_ne ne) q2.ne s fun f => by show upd g.F a _ a' = none; rw [upd_ne ne]; exact q1.no f, q2.mono x (upd_ne ne)⟩
/-- .. and opened again -/
theorem Cor.unlock (k : Cor g H S) (ha : g.al[n]? = some a) (h : S[n]? = some (.dT kvs)) (x : Gr g H g1 H1) (k1 : Cor g1 H1 S1) (h1 : S1[n]? = some (.fT kvs1)) :
    ∃ vs1, (∃ o, H1 a = some (.frz o (.dT vs1))) ∧ SameD g1.F (g1.del a).F ∧ Gr g H (g1.del a) (upd H1 a (.dT vs1)) ∧ Cor (g1.del a) (upd H1 a (.dT vs1)) (S1.set n (.dT kvs1)) := by
  have m : a ∈ g.al := List.mem_of_getElem? ha
  have fa : g.F a = none := (k.at_ n a _ ha h).1.no rfl
  have ha1 : g1.al[n]? = some a := x.ix n a ha
  obtain ⟨q1, vs1, ⟨o, e1⟩, r1⟩ := k1.at_ n a _ ha1 h1
  have fa1 : g1.F a = H1 a := by unfold Fx at q1; exact q1
  have sd : SameD g1.F (g1.del a).F := fun b u e ne => by
    by_cases z : b = a
    · subst z; rw [fa1, e1] at e; cases e; exact absurd rfl (ne o vs1)
    · rw [del_ne z]; exact e
  have fh : Same (g1.del a).F (upd H1 a (.dT vs1)) := fun b u e => by
    by_cases z : b = a
    · subst z; rw [del_same] at e; cases e
    · rw [del_ne z] at e; rw [upd_ne z]; exact k1.fh b u e
  have x2 : Gr g H (g1.del a) (upd H1 a (.dT vs1)) := ⟨x.ca, x.al, ⟨fun b u e => by
    have z : b ≠ a := fun z => by rw [z, fa] at e; cases e
    rw [del_ne z]; exact x.x.ff b u e, fh, fun b u nb e => by
    rw [upd_ne fun z => nb (by rw [z]; exact m)]; exact x.x.hh b u nb e, fun b n1 n2 => by
    by_cases z : b = a
    · subst z; exact Or.inl del_same
    · rw [del_ne z]; exact x.x.nw b n1 n2, fun b n1 => by
    by_cases z : b = a
    · subst z; rw [upd_same]; exact some_ne rfl
    · rw [upd_ne z]; exact x.x.st b n1⟩⟩
  refine ⟨vs1, ⟨o, e1⟩, sd, x2, fh, by rw [List.length_set]; exact k1.len, fun n' a' c' i1 i2 => ?_, k1.nd⟩
  by_cases en : n' = n
  · subst en
    have l := (List.getElem?_eq_some_iff.mp i1).1
    rw [show (g1.del a).al = g1.al from rfl, k1.len] at l
    rw [List.getElem?_set_self l] at i2
    cases i2
    rw [show (g1.del a).al = g1.al from rfl, ha1] at i1
    cases i1
    exact ⟨Fx.of del_same rfl, vs1, upd_same, r1.dropD sd rfl rfl⟩
  · rw [List.getElem?_set_ne (Ne.symm en)] at i2
    obtain ⟨p1, p2⟩ := k1.at_ n' a' c' i1 i2
    have ne : a' ≠ a := fun e2 => en (by
      subst e2
      exact (List.getElem?_inj (List.getElem?_eq_some_iff.mp i1).1 k1.nd).mp (i1.trans ha1.symm))
    refine ⟨?_, p2.drop sd rfl rfl (upd_ne ne)⟩
    unfold Fx at p1 ⊢
    rw [del_ne ne, upd_ne ne]
    exact p1
end
/-! ### the walk -/
/-- the keys of the dict, which is locked from now on -/
@[simp] def mItK (a : ME U) : ME IT := fun ρ S => (a ρ S).bind fun x S1 => match x with
  | .cel n => match S1[n]? with
    | some (.dT kvs) => .ok ⟨kvs.map fun kv => ktU kv.1, none⟩ (S1.set n (.fT kvs))
    | some (.fT kvs) => .ok ⟨kvs.map fun kv => ktU kv.1, none⟩ S1
    | _ => .bad
  | _ => .bad
/-- m, behind which the dict that a tells (nothing being changed) is open again -/
@[simp] def mUnl (a : ME U) (m : ME U) : ME U := fun ρ S => match a ρ S with
  | .ok (.cel n) _ => match S[n]? with
    | some (.dT _) => (m ρ S).bind fun v S1 => match S1[n]? with
      | some (.fT kvs) => .ok v (S1.set n (.dT kvs))
      | _ => .bad
    | _ => .bad
  | _ => .bad
def opN (n : Nat) (S1 : Sto) (k : Sto → SO) : SO := match S1[n]? with
  | some (.fT kvs) => k (S1.set n (.dT kvs))
  | _ => .bad
def opS (n : Nat) : SO → SO
  | .nx ρ S1 => opN n S1 (.nx ρ)
  | .rt d S1 => opN n S1 (.rt d)
  | .ex e ρ S1 => .ex e ρ S1
  | .bad => .bad
@[simp] def mUnlS (a : ME U) (m : MS) : MS := fun ρ S => match a ρ S with
  | .ok (.cel n) _ => match S[n]? with
    | some (.dT _) => opS n (m ρ S)
    | _ => .bad
  | _ => .bad
theorem drv_keys {g : Gd} {H : Hp} {d : Addr} {o : Obj} {kvs : List (List Key × U)} {vs : List (List Key × V)} (hF : g.F d = some (.frz o (.dT vs))) (r : RpF g kvs vs) : DrvU (Itkt d o vs) g H ⟨kvs.map fun kv => ktU kv.1, none⟩ := by
  have hl : vs.length = kvs.length := (Paired.length r).symm
  have at_ : ∀ {g' H' S'}, Gr g H g' H' → Cor g' H' S' → H' d = some (.frz o (.dT vs)) := fun x c => c.fh d _ (x.x.ff d _ hF)
  refine ⟨fun i g' H' S' x c _ h => ⟨at_ x c, by simpa [hl] using h⟩, fun i g' H' S' v H2 x c _ h y => ?_, fun i g' H' S' x c _ h => ⟨at_ x c, by simpa [hl] using h⟩⟩
  obtain ⟨rfl, k, w, q, e1, rfl, e2⟩ := y
  obtain ⟨x2, c2⟩ := c.learn e2
  refine ⟨_, ktU k, x2, c2, ?_, rp_ktU upd_same⟩
  have gen : ∀ {kvs : List (List Key × U)} {vs : List (List Key × V)} {i : Nat}, RpF g kvs vs → vs[i]? = some (k, w) → (kvs.map fun kv => ktU kv.1)[i]? = some (ktU k) := by
    intro kvs vs i r
    induction r generalizing i with
    | nil => intro e; simp at e
    | cons h t ih =>
      intro e
      cases i with
      | zero => simp at e; simp [h.1, e]
      | succ i => simpa using ih (by simpa using e)
  exact gen r e1
section
variable {ω : Om} {X : Cx} {E : WX} {ma mm : ME U} {ms : MS} {e : Expr} {st : Stmt}
theorem si_keysD : ∀ σ H R, rdI ω E (mItK ma) σ H R → uKeysD (rdE ω E ma) σ H R := fun σ H R h => by
  refine (rdI_bind (R := Rp) (m := ma) (kk := fun ρ x S1 => match x with
    | .cel n => (match S1[n]? with
      | some (.dT kvs) => Out.ok (⟨kvs.map fun kv => ktU kv.1, none⟩ : IT) (S1.set n (.fT kvs))
      | some (.fT kvs) => Out.ok (⟨kvs.map fun kv => ktU kv.1, none⟩ : IT) S1
      | _ => Out.bad)
    | _ => Out.bad) h).mono ?_
  rintro x H1 ⟨g1, ρ, S1, u, a1, r1, w1⟩
  split at w1
  · rename_i n
    obtain ⟨a, ha, rfl⟩ := r1.of_cel
    split at w1
    · rename_i kvs e1
      obtain ⟨vs, e2, hr⟩ := a1.c.get ha e1
      refine ⟨a, vs, rfl, Or.inl ⟨e2, fun o => ?_⟩⟩
      obtain ⟨x2, c2⟩ := a1.c.lock (o := o) ha e1 e2 hr
      exact w1 _ _ _ x2 c2 (drv_keys upd_same (x2.rpf hr))
    · rename_i kvs e1
      obtain ⟨q1, vs, ⟨o, e2⟩, hr⟩ := a1.c.at_ n a _ ha e1
      have q2 : g1.F a = H1 a := by unfold Fx at q1; exact q1
      exact ⟨a, vs, rfl, Or.inr ⟨o, e2, w1 _ _ _ a1.c.rfl_ a1.c (drv_keys (q2.trans e2) hr)⟩⟩
    · exact w1.elim
  · exact w1.elim
theorem x_unl (h : PE X e (rdE ω E mm)) : PE X e (rdE ω E (mUnl ma mm)) := (pe_unl h).to fun σ H Q ⟨g, ρ, S, a, w⟩ => by
  unfold mUnl at w
  split at w
  · rename_i n S0 _
    split at w
    · rename_i kvs e1
      have l : n < g.al.length := by rw [a.c.len]; exact (List.getElem?_eq_some_iff.mp e1).1
      have ha : g.al[n]? = some (g.al[n]) := List.getElem?_eq_getElem l
      obtain ⟨vs, e2, hr⟩ := a.c.get ha e1
      refine ⟨_, _, e2, trivial, g, ρ, S, a, ?_⟩
      cases em : mm ρ S with
      | bad => rw [em] at w; exact w
      | ex x S1 => rw [em] at w; exact w
      | ok u S1 =>
        rw [em, bind_ok] at w
        intro g1 H1 v x1 c1 r1
        split at w
        · rename_i kvs1 e3
          obtain ⟨vs1, ⟨o, e4⟩, sd, x2, c2⟩ := a.c.unlock ha e1 x1 c1 e3
          exact ⟨o, _, e4, w _ _ _ x2 c2 (r1.drop sd rfl rfl _ _)⟩
        · exact w.elim
    · exact w.elim
  · exact w.elim
theorem EnvR.drop {g g' : Gd} {ρ : Rho} {σ : St} (s : SameD g.F g'.F) (c : g'.ca = g.ca) (l : g'.al = g.al) (h : EnvR ω g ρ σ) : EnvR ω g' ρ σ := ⟨c.trans h.k, h.len, fun i d e => let ⟨v, e1, r⟩ := h.at_ i d e; ⟨v, e1, r.drop s c l _ _⟩⟩
theorem xs_unl (h : PS X st (rdS ω E ms)) : PS X st (rdS ω E (mUnlS ma ms)) := (ps_unl h).to fun D σ H ⟨g, ρ, S, a, w⟩ => by
  unfold mUnlS at w
  split at w
  · rename_i n S0 _
    split at w
    · rename_i kvs e1
      have l : n < g.al.length := by rw [a.c.len]; exact (List.getElem?_eq_some_iff.mp e1).1
      have ha : g.al[n]? = some (g.al[n]) := List.getElem?_eq_getElem l
      obtain ⟨vs, e2, hr⟩ := a.c.get ha e1
      refine ⟨_, _, e2, trivial, g, ρ, S, a, ?_⟩
      cases em : ms ρ S with
      | bad => rw [em] at w; exact w
      | ex x ρ1 S1 => rw [em] at w; exact w
      | nx ρ1 S1 =>
        rw [em] at w
        replace w : Ws ω g H D E (opN n S1 (.nx ρ1)) := w
        unfold opN at w
        intro g1 H1 σ1 x1 a1
        split at w
        · rename_i kvs1 e3
          obtain ⟨vs1, ⟨o, e4⟩, sd, x2, c2⟩ := a.c.unlock ha e1 x1 a1.c e3
          exact ⟨o, _, e4, w _ _ _ x2 ⟨a1.e.drop sd rfl rfl, c2⟩⟩
        · exact w.elim
      | rt d S1 =>
        rw [em] at w
        replace w : Ws ω g H D E (opN n S1 (.rt d)) := w
        unfold opN at w
        intro g1 H1 v x1 c1 r1
        split at w
        · rename_i kvs1 e3
          obtain ⟨vs1, ⟨o, e4⟩, sd, x2, c2⟩ := a.c.unlock ha e1 x1 c1 e3
          exact ⟨o, _, e4, w _ _ _ x2 c2 (r1.drop sd rfl rfl _ _)⟩
        · exact w.elim
    · exact w.elim
  · exact w.elim
end
end Z

namespace L2
open PySem PySem.Spec PyProof.Rows
def rClearT : V → List V → Hp → VK → Prop := fun x vs H Q => ∃ (a : Addr) (kvs : List (List Key × V)), x = .ref a ∧ vs = [] ∧ H a = some (.dT kvs) ∧ Q .non (upd H a (.dT []))
theorem mt_clearT {X : Cx} : MtR X "dict.clear" rClearT := by
  intro pins s σ H x vs v us Q I rx rv h
  obtain ⟨a, kvs, ex, ev, e, q⟩ := h
  subst ex
  subst ev
  obtain rfl : v = Value.ref a := rx
  have hus := rv.zero
  subst hus
  obtain ⟨z, hd, xs', rel, o, es, ep, ho, hx, hdat, hes, _⟩ := dt_of I.hok e
  have hz : es.size ≤ sizeLine := by
    have l1 : es.size = xs'.length := size_of_entries hes
    rw [l1, ← Paired.length rel]; exact z
  refine call_meetsIn PySem.F.slot_dict_clear ⟨o, ho, hx.1⟩ PySem.F.entry_dict_clear (PySem.F.args_dict_clear_1 _) (meets_dict_clear_raw a) ⟨es, ep, ⟨o, ho, hx, hdat⟩, hz, fun h' hr hs => ?_⟩
  obtain ⟨o2, h1, h2, h3⟩ := hr
  refine ⟨.non, upd H a (.dT []), d_write (t' := s.toks) I (by rw [e]; exact True.intro) hs ⟨o2, h1⟩ ⟨Nat.zero_le _, hd, [], .nil, o2, #[], ep + 1, h1, h2, h3, by simp, List.Pairwise.nil⟩, rfl, q⟩
end L2
namespace Z
open PySem PySem.Spec PyProof.Rows L2
@[simp] def mBD0 (o : U → Sto → Out U) (a : ME U) : ME U := fun ρ S => (a ρ S).bind o
def clearTM (x : U) (S : Sto) : Out U := match x with
  | .cel n => match S[n]? with
    | some (.dT _) => .ok .non (S.set n (.dT []))
    | _ => .bad
  | _ => .bad
section
variable {ω : Om} {X : Cx} {E : WX} {e : Expr} {ma : ME U}
theorem x_clearT (h : PE X e (tBM0 X.K "dict" rClearT (rdE ω E ma))) : PE X e (rdE ω E (mBD0 clearTM ma)) := h.to fun σ H Q h => by
  refine (rd_bind (R := Rp) (m := ma) (kk := fun _ x S1 => clearTM x S1) h).mono ?_
  rintro x H1 ⟨g1, ρ, S1, d, a1, r1, w1⟩
  unfold clearTM at w1
  split at w1
  · rename_i n
    obtain ⟨a, ha, rfl⟩ := r1.of_cel
    split at w1
    · rename_i kvs e1
      obtain ⟨vs, e2, hr⟩ := a1.c.get ha e1
      refine ⟨Or.inr (Or.inr (Or.inl ⟨rfl, Or.inr ⟨vs, e2⟩⟩)), a, vs, rfl, rfl, e2, ?_⟩
      obtain ⟨x4, k4⟩ := a1.c.setC (o := .dT []) (c := .dT []) ha ⟨_, upd_same, .nil⟩ e1
      exact w1 _ _ _ x4 k4 rp_non
    · exact w1.elim
  · exact w1.elim
end
section
variable {ω : Om} {X : Cx} {E : WX} {k j n i : Nat} {c x nm : Str} {ks : List Str} {gM : List U → List U → List U} {gV : List V → List V → List V} {m : MF} {e o : Expr} {es : List Expr} {kws : List Keyword} {mo : ME U} {mr mk : ME (List U)} {p pos apos : Pos} {pl : Sem Bool}
theorem x_callMF (C : Met (wdOf X) k (ω.ad c) nm (n + 1) ks gV (spM ω m)) (hr : Rm j X.A) (hj : k ≤ j) (hl : ks.length = i) (hx : ∀ σ, PassesAt (L2.CX X.prog X.w) X σ (fun cls d H => E cls d σ H))
    (ho : PE X o (rdE ω E mo)) (ha : PA X (e :: es) (rdA ω E mr)) (hkw : PK X kws (rdA ω E mk)) (gk : GOk (n + 1) i gM gV) (hks : (backToKw pos (keywordEach kws X.env)).filterMap (·.1) = ks := by rfl)
    (hall : (backToKw pos (keywordEach kws X.env)).all (·.1.isSome) = true := by rfl)
    (hst : starEach (e :: es) X.env = (false, eval e X.env) :: starEach es X.env := by rfl)
    (hpl : ((backTo pos (starEach (e :: es) X.env)).any (·.1) || (backToKw pos (keywordEach kws X.env)).any (·.1.isNone)) = false := by rfl)
    (hev : eval (.Call (.Attribute o nm apos) (e :: es) kws pos) X.env = (eval o X.env >>= fun ov => standAt apos.atName >>= fun _ =>
      holding [ov] (getMethod ov nm pl) >>= fun fx => callWith pos fx.1 fx.2 (backTo pos (starEach (e :: es) X.env)) (backToKw pos (keywordEach kws X.env))) := by rfl) :
    PE X (.Call (.Attribute o nm apos) (e :: es) kws pos) (rdE ω E (mCallM c nm n i m gM mo mr mk)) := by
  subst hl
  exact x_callM (c_mt (E := fun σ cls d H => E cls d σ H) C hr hj hx ho ha hkw hks hall hst hpl hev) gk
theorem x_callMF0 (C : Met (wdOf X) k (ω.ad c) nm (n + 1) ks gV (spM ω m)) (hr : Rm j X.A) (hj : k ≤ j) (hl : ks.length = i) (hx : ∀ σ, PassesAt (L2.CX X.prog X.w) X σ (fun cls d H => E cls d σ H))
    (ho : PE X o (rdE ω E mo)) (hkw : PK X kws (rdA ω E mk)) (gk : GOk (n + 1) i gM gV) (hks : (backToKw pos (keywordEach kws X.env)).filterMap (·.1) = ks := by rfl)
    (hall : (backToKw pos (keywordEach kws X.env)).all (·.1.isSome) = true := by rfl)
    (hpl : ((backTo pos (starEach [] X.env)).any (·.1) || (backToKw pos (keywordEach kws X.env)).any (·.1.isNone)) = false := by rfl)
    (hev : eval (.Call (.Attribute o nm apos) [] kws pos) X.env = (eval o X.env >>= fun ov => standAt apos.atName >>= fun _ =>
      holding [ov] (getMethod ov nm pl) >>= fun fx => callWith pos fx.1 fx.2 (backTo pos (starEach [] X.env)) (backToKw pos (keywordEach kws X.env))) := by rfl) :
    PE X (.Call (.Attribute o nm apos) [] kws pos) (rdE ω E (mCallM c nm n i m gM mo mNil mk)) := by
  subst hl
  refine x_callM ((c_mt0 (E := fun σ cls d H => E cls d σ H) C hr hj hx ho hkw hks hall hpl hev).to fun σ H Q h => h.mono ?_) gk
  rintro v H0 ⟨a, dx, fs, e1, e2, e3, h⟩
  refine ⟨a, dx, fs, e1, e2, e3, ?_⟩
  obtain ⟨g, ρ, S, a, w⟩ := h
  exact w.ok a.c rps_nil
theorem x_newIF (C : Mak (wdOf X) k c (ω.ad c) (n + 1) ks gV (spM ω m)) (ki : ω.ki c) (hr : Rm j X.A) (hj : k + 1 ≤ j) (hl : ks.length = i) (hg : Gl X c) (hx : ∀ σ, PassesAt (L2.CX X.prog X.w) X σ (fun cls d H => E cls d σ H))
    (ha : PA X (e :: es) (rdA ω E mr)) (hkw : PK X kws (rdA ω E mk)) (gk : GOk (n + 1) i gM gV) (hks : (backToKw pos (keywordEach kws X.env)).filterMap (·.1) = ks := by rfl)
    (hall : (backToKw pos (keywordEach kws X.env)).all (·.1.isSome) = true := by rfl) (hdb : (c == ("__debug__" : Str)) = false := by decide)
    (hst : starEach (e :: es) X.env = (false, eval e X.env) :: starEach es X.env := by rfl)
    (hpl : ((backTo pos (starEach (e :: es) X.env)).any (·.1) || (backToKw pos (keywordEach kws X.env)).any (·.1.isNone)) = false := by rfl) :
    PE X (.Call (.Name c p) (e :: es) kws pos) (rdE ω E (mNewI c n i m gM mr mk)) := by
  subst hl
  exact x_newI ki (c_mk (E := fun σ cls d H => E cls d σ H) C hr hj hg hx ha hkw hks hall hdb hst hpl) gk
theorem x_newIF0 (C : Mak (wdOf X) k c (ω.ad c) (n + 1) ks gV (spM ω m)) (ki : ω.ki c) (hr : Rm j X.A) (hj : k + 1 ≤ j) (hl : ks.length = i) (hg : Gl X c) (hx : ∀ σ, PassesAt (L2.CX X.prog X.w) X σ (fun cls d H => E cls d σ H))
    (hkw : PK X kws (rdA ω E mk)) (gk : GOk (n + 1) i gM gV) (hks : (backToKw pos (keywordEach kws X.env)).filterMap (·.1) = ks := by rfl)
    (hall : (backToKw pos (keywordEach kws X.env)).all (·.1.isSome) = true := by rfl) (hdb : (c == ("__debug__" : Str)) = false := by decide)
    (hpl : ((backTo pos (starEach [] X.env)).any (·.1) || (backToKw pos (keywordEach kws X.env)).any (·.1.isNone)) = false := by rfl) :
    PE X (.Call (.Name c p) [] kws pos) (rdE ω E (mNewI c n i m gM mNil mk)) := by
  subst hl
  refine x_newI ki ((c_mk0 (E := fun σ cls d H => E cls d σ H) C hr hj hg hx hkw hks hall hdb hpl).to fun σ H Q h => ?_) gk
  obtain ⟨g, ρ, S, a, w⟩ := h
  exact w.ok a.c rps_nil
end
end Z

namespace Z
open PySem PySem.Spec PyProof.Rows L2
def Kd.isC (c : Str) : Kd → Bool
  | .i m => m == c
  | _ => false
structure IcC (K : PySem.W.Frag) (o : Om) (c : Str) : Prop where
  k : ∀ d, KdOk o d → PySem.W.kitOne K (d.cv o) (.ref (o.ad c)) = some (d.isC c)
@[simp] def mIsC (c : Str) (a : ME U) : ME U := fun ρ S => (a ρ S).bind fun x S1 => match kdOf S1 x with
  | some d => .ok (.bl (d.isC c)) S1
  | none => .bad
section
variable {ω : Om} {X : Cx} {E : WX} {e : Expr} {ma : ME U} {c : Str}
theorem x_isC (kn : Kn X.K ω) (ic : IcC X.K ω c) (h : PE X e (tCB (rIsU X.K) (tCons (rdE ω E ma) (tCons (tC (.ref (ω.ad c))) tNil)))) : PE X e (rdE ω E (mIsC c ma)) := h.to fun σ H Q h => by
  refine (rd_bind (R := Rp) (m := ma) (kk := fun ρ x S1 => match kdOf S1 x with
    | some d => .ok (U.bl (d.isC c)) S1
    | none => .bad) h).mono ?_
  rintro x H1 ⟨g1, ρ, S1, u, a1, r1, w1⟩
  cases ek : kdOf S1 u with
  | none => rw [ek] at w1; exact w1.elim
  | some d =>
    rw [ek] at w1
    have ec := a1.e.k
    subst ec
    exact Or.inl ⟨x, .ref (g1.ca.ad c), _, _, _, rfl, .own _, ty_of kn a1.c r1 ek, ic.k d (kind_ok a1.c r1 ek), w1.ok a1.c rp_bl⟩
end
end Z

namespace Z
open PySem PySem.Spec PyProof.Rows L2
def rngD (lo : Int) (n : Nat) : List U := (List.range n).map fun i : Nat => .int (lo - (i : Int))
@[simp] theorem rngD_len (lo : Int) (n : Nat) : (rngD lo n).length = n := by simp [rngD]
@[simp] def mRange3 (r : ME (List U)) : ME IT := fun ρ S => (r ρ S).bind fun us S1 => match us with
  | [.int i, .int j, .int (-1)] => if (-(2 ^ 62) ≤ i ∧ i < 2 ^ 62) ∧ -(2 ^ 62) ≤ j ∧ j < 2 ^ 62 then .ok ⟨rngD i (i - j).toNat, none⟩ S1 else .bad
  | _ => .bad
section
variable {ω : Om} {E : WX} {g : Gd} {H : Hp} {mr : ME (List U)}
theorem dv_rngD {lo : Int} {n : Nat} : DrvU (Itc lo (-1) n) g H ⟨rngD lo n, none⟩ where
  go := fun i g' H' S' x c _ l => by dsimp only at l; simp at l; exact l
  yl := fun i g' H' S' v H2 x c _ l y => by
    obtain ⟨e, e2⟩ := y
    rw [e, e2]
    have l' : i < n := by simpa using l
    refine ⟨g', .int (lo - i), c.rfl_, c, by unfold rngD; rw [List.getElem?_map, List.getElem?_range l']; rfl, ?_⟩
    rw [show lo + (i : Nat) * (-1 : Int) = lo - i by omega]
    exact rp_int
  st := fun i g' H' S' x c _ l => by dsimp only at l; simp at l; exact l
theorem si_range3 : ∀ σ H R, rdI ω E (mRange3 mr) σ H R → iRng3 (rdA ω E mr) σ H R := fun σ H R h => by
  refine (rdI_bind (R := Rps) (m := mr) (kk := fun ρ us S1 => match us with
    | [.int i, .int j, .int (-1)] => if (-(2 ^ 62) ≤ i ∧ i < 2 ^ 62) ∧ -(2 ^ 62) ≤ j ∧ j < 2 ^ 62 then .ok ⟨rngD i (i - j).toNat, none⟩ S1 else .bad
    | _ => .bad) h).mono ?_
  rintro x H1 ⟨g1, ρ, S1, d, a1, r1, w1⟩
  split at w1
  · rename_i i j
    split at w1
    · rename_i h
      obtain ⟨v, ws, rfl, q1, q2⟩ := r1.of_cons
      obtain ⟨v2, ws2, rfl, q3, q4⟩ := q2.of_cons
      obtain ⟨v3, ws3, rfl, q5, q6⟩ := q4.of_cons
      rw [q6.of_nil, q1.of_int, q3.of_int, q5.of_int]
      exact ⟨i, j, -1, (i - j).toNat, rfl, RgC.neg h.1.1 h.1.2 h.2.1 h.2.2, w1 _ _ _ a1.c.rfl_ a1.c dv_rngD⟩
    · exact w1.elim
  · exact w1.elim
end
end Z

namespace L2
open PySem PySem.Spec PyProof.Rows
section
variable {P : Program} {w : World} {A : Around} {E : Value → Shared → Prop} {s : Shared}
theorem set_from_list {l : Addr} {items : Array Value} (ns : List Int) {Q : Value → Shared → Prop} (hh : A.handled = none) (hl : s.heap.IsList l items) (hit : IntsAre items.toList ns) (hb : ns.length + 1 < scanBound)
    (h : ∀ (h' : Heap) (tk c : Nat), SetR w h' s.heap.objs.size (fun j => decide (j ∈ ns)) c → (∀ b o, s.heap.get? b = some o → h'.get? b = some o) → Q (.ref s.heap.objs.size) { s with heap := h', toks := tk }) :
    wpAny (model P w) A (call (.type "set") [.ref l]) Q E s := by
  have hisz : items.size = ns.length := by have q := IntsAre.length hit; rw [Array.length_toList] at q; exact q
  obtain ⟨c, tl, hmro⟩ := F.called_set.mro
  have hmade := F.called_set.made
  have hsub := F.called_set.sub
  refine wpAny_call (codeAny_of_tree ?_)
  show wpAny _ _ (callAny (.type "set") _) _ _ _
  refine wpAny_pure ⟨Code.quiet_builtin _ (by decide +kernel), codeAny_builtin F.entry_type_call ?_⟩
  rw [Around.under_plain (weight_type_call_type "set" [.ref l] []) rfl]
  have h1 := F.called_set.notType
  have h2 := F.called_set.canCreate
  have hct := F.typeCall_set_1 (.ref l)
  repeat (any_goals (first | assumption | wp_step))
  refine codeAny_mono (code_set_led1 (.ref l) (E := E) (Q₁ := fun obj s₁ => obj = .ref s.heap.objs.size ∧ s₁ = { s with heap := s.heap.push { cls := .type "set", dict := none, data := .set #[] 0 (.fresh 0 0 (!w.params.followText "set-order")) } }) ⟨rfl, rfl⟩) fun r s₁ hr => ?_
  cases r with
  | error e => exact hr
  | ok fl =>
    cases fl with
    | ret obj =>
      obtain ⟨rfl, rfl⟩ := hr
      generalize hN : s.heap.push { cls := .type "set", dict := none, data := .set #[] 0 (.fresh 0 0 (!w.params.followText "set-order")) } = hp
      have sz : hp.objs.size = s.heap.objs.size + 1 := by rw [← hN]; exact Heap.size_push ..
      have hS : hp.get? s.heap.objs.size = some { cls := .type "set", dict := none, data := .set #[] 0 (.fresh 0 0 (!w.params.followText "set-order")) } := by rw [← hN]; exact Heap.get?_push_size _ rfl
      have old : ∀ b o, s.heap.get? b = some o → hp.get? b = some o := fun b o e => by rw [← hN]; exact Heap.get?_push_of_some _ e
      have hT : Shared.TypeIs { s with heap := hp } (.ref s.heap.objs.size) "set" := ⟨_, hS, rfl⟩
      have hli := F.called_set.init.lookup
      have hbi := F.called_set.init.bind (.ref s.heap.objs.size)
      repeat (any_goals (first | assumption | wp_step))
      refine codeAny_mono (codeAny_call_builtin (R := wants (fun r s₂ => r = .none ∧ ∃ h' tk c, s₂ = { s with heap := h', toks := tk } ∧ SetR w h' s.heap.objs.size (fun j => decide (j ∈ ns)) c ∧
          (∀ b o, s.heap.get? b = some o → h'.get? b = some o)) E) F.called_set.init.plain F.entry_set_init (check_set_init_1 hT ?_)) fun r₂ s₂ hr₂ => ?_
      · obtain ⟨ol, hol, hcl, nl, hdl⟩ := hl
        obtain ⟨ocls, odict, odata, oslots⟩ := ol
        simp only at hcl hdl
        subst hcl; subst hdl
        have hol' := old l _ hol
        have hsls := F.sub_list_set
        have hslf := F.sub_list_frozenset
        have hne : (Value.type "list" == Value.type "dict") = false := by decide
        have hl1 : hp.IsList l items := ⟨_, hol', rfl, nl, rfl⟩
        unfold Builtin.«set.__init__» noKeywords Builtin.Frozenset.updateFrom
        generalize hPI : pyIter = PI
        wp_walk
        subst hPI
        refine wpAny_pyIter_list hl1 ?_
        refine wpAny_bind (wpAny_runValue ?_)
        have hlS : l < s.heap.objs.size := Heap.lt_size hol
        have hh3 : A.in1.in1.in1.handled = none := by simp [hh]
        have hneI : l ≠ hp.objs.size := by rw [sz]; exact Nat.ne_of_lt (Nat.lt_succ_of_lt hlS)
        have hSf : s.heap.objs.size ∉ [hp.objs.size, l] := by
          rw [sz]; simp only [List.mem_cons, List.mem_singleton, List.not_mem_nil, or_false, not_or]
          exact ⟨Nat.ne_of_lt (Nat.lt_succ_self _), Nat.ne_of_gt hlS⟩
        have hval : ∀ (i : Nat) (v : Value), items[i]? = some v → ∃ k t, ns[i]? = some k ∧ v = .int k t := fun i v hv => by
          have hi : i < ns.length := by rw [← hisz]; exact (Array.getElem?_eq_some_iff.mp hv).1
          obtain ⟨t, e⟩ := PyProof.Rows.IntsAre.int_at hit i v (by rw [Array.getElem?_toList]; exact hv)
          refine ⟨ns[i], t, List.getElem?_eq_getElem hi, ?_⟩
          rw [e, List.getD_eq_getElem?_getD, List.getElem?_eq_getElem hi] <;> rfl
        refine set_update_ints ((Walks.list hh3 _ l hneI items).toS) s.heap.objs.size hSf ns hisz hb hval (items.size - 0) 0 _ (by omega) (Nat.zero_le _) ⟨⟨_, Heap.get?_push_size _ rfl, rfl, rfl⟩, (hl1.push _)⟩ ?hS0 ?hR
        case hS0 => exact ⟨0, Nat.le_refl 0, setR_new_at (Heap.get?_push_of_some _ hS)⟩
        case hR =>
          intro s' c' hm hc' hS'
          obtain ⟨h', g2, d', tk', os'⟩ := s'
          have eg : g2 = s.gens := hm.gens
          have ed : d' = s.drawn := hm.drawn
          have eo : os' = s.os := hm.os
          subst eg; subst ed; subst eo
          show wpAny _ _ _ _ _ _
          refine wpAny_pure ?_
          show wpAny _ _ (ret Value.none) _ _ _
          refine wpAny_pure ⟨rfl, h', tk', c', rfl, hS', fun b o e => ?_⟩
          have hb0 : b < s.heap.objs.size := Heap.lt_size e
          refine hm.heap b o ?_ (Heap.get?_push_of_some _ (old b o e))
          simp only [List.mem_cons, List.mem_singleton, List.not_mem_nil, or_false, not_or]
          exact ⟨Nat.ne_of_lt hb0, by rw [sz]; exact Nat.ne_of_lt (Nat.lt_succ_of_lt hb0)⟩
      · cases r₂ with
        | error e => exact hr₂
        | ok fl₂ =>
          cases fl₂ with
          | ret r =>
            obtain ⟨rfl, h', tk, c', rfl, hS', hk'⟩ := hr₂
            repeat (any_goals (first | assumption | wp_step))
            exact h _ _ _ hS' hk'
          | _ => exact hr₂.elim
    | _ => exact hr.elim
end
/-- few numbers that are all different -/
theorem few_keys : ∀ (n : Nat) (l : List Int), l.Nodup → (∀ x ∈ l, 0 ≤ x ∧ x < n) → l.length ≤ n
  | 0, l, _, h => by
    cases l with
    | nil => simp
    | cons x r => exact absurd (h x List.mem_cons_self) (by omega)
  | n + 1, l, nd, h => by
    have e := few_keys n (l.erase (n : Int)) (nd.erase _) fun x m => by
      have q := (List.Nodup.mem_erase_iff nd).mp m
      have := h x q.2
      have := q.1
      omega
    have := List.length_erase (a := (n : Int)) (l := l)
    split at this <;> omega
def rSetI (K : PySem.W.Frag) (w : World) : List V → Hp → VK → Prop := fun xs H Q => ∃ (l : Addr) (ns : List Int), xs = [.ref l] ∧ SqL K H l (ns.map V.int) ∧ ns.length ≤ 1000 ∧ (∀ k ∈ ns, 0 ≤ k ∧ k < 60) ∧
  ∀ p c, H p = none → c < 64 → Q (.ref p) (upd H p (SetO w p (fun j => decide (j ∈ ns)) c))
theorem cr_setI {X : Cx} (hc : X.calm = true) : CallR X (.type "set") (rSetI X.K X.w) := by
  intro pins s σ H xs us Q I r q
  obtain ⟨l, ns, ex, hq, hl, hk, q⟩ := q
  subst ex
  obtain ⟨u, eu, rx⟩ := vals1 r
  subst eu
  cases rx
  obtain ⟨its, rv, pl, hz⟩ := I.list hq
  have sb : (2000 : Nat) < scanBound := by decide +kernel
  refine set_from_list ns (I.ok.hd hc) pl.isList (Vals.ints rv) (by omega) fun h' tk c R hk' => ?_
  have c64 : c < 64 := by
    obtain ⟨o, es, ep, t, ho, hx, hd, g, nd, hm, hb, hf, hn, _⟩ := R
    have := few_keys 60 _ nd fun x m => by
      have := (hm x).mpr m
      exact hk x (of_decide_eq_true this)
    rw [List.length_map, Array.length_toList] at this
    omega
  exact ⟨.ref _, upd H s.heap.objs.size (SetO X.w s.heap.objs.size (fun j => decide (j ∈ ns)) c), I.laid (t' := tk) hk' (Nat.le_refl _) (setO_new R), rfl, q _ _ (I.hok.fresh (Nat.le_refl _)) c64⟩
end L2
namespace Z
open PySem PySem.Spec PyProof.Rows L2
/-- the numbers of the list, rising, each once -/
def dedI (ns : List Int) : List Int := ((List.range 60).filter fun k : Nat => decide ((k : Int) ∈ ns)).map fun k : Nat => (k : Int)
theorem dedI_pw (ns : List Int) : (dedI ns).Pairwise (· < ·) := by
  unfold dedI
  rw [List.pairwise_map]
  exact (List.Pairwise.filter _ List.pairwise_lt_range).imp fun {a b} h => by omega
theorem dedI_mem {ns : List Int} (h : ∀ k ∈ ns, 0 ≤ k ∧ k < 60) {k : Int} : k ∈ dedI ns ↔ k ∈ ns := by
  unfold dedI
  rw [List.mem_map]
  constructor
  · rintro ⟨j, m, rfl⟩
    exact of_decide_eq_true (List.mem_filter.mp m).2
  · intro m
    have := h k m
    refine ⟨k.toNat, List.mem_filter.mpr ⟨List.mem_range.mpr (by omega), decide_eq_true ?_⟩, by omega⟩
    rw [show ((k.toNat : Nat) : Int) = k by omega]
    exact m
theorem rise_one : ∀ {a b : List Int}, a.Pairwise (· < ·) → b.Pairwise (· < ·) → (∀ k, k ∈ a ↔ k ∈ b) → a = b
  | [], [], _, _, _ => rfl
  | [], y :: b, _, _, h => absurd ((h y).mpr List.mem_cons_self) (by simp)
  | x :: a, [], _, _, h => absurd ((h x).mp List.mem_cons_self) (by simp)
  | x :: a, y :: b, h1, h2, h => by
    obtain ⟨a1, a2⟩ := List.pairwise_cons.mp h1
    obtain ⟨b1, b2⟩ := List.pairwise_cons.mp h2
    have e : x = y := by
      rcases List.mem_cons.mp ((h x).mp List.mem_cons_self) with m | m
      · exact m
      · rcases List.mem_cons.mp ((h y).mpr List.mem_cons_self) with n | n
        · exact n.symm
        · have := b1 x m; have := a1 y n; omega
    subst e
    rw [rise_one a2 b2 fun k => ?_]
    constructor
    · intro m
      rcases List.mem_cons.mp ((h k).mp (List.mem_cons_of_mem _ m)) with n | n
      · have := a1 k m; omega
      · exact n
    · intro m
      rcases List.mem_cons.mp ((h k).mpr (List.mem_cons_of_mem _ m)) with n | n
      · have := b1 k m; omega
      · exact n
@[simp] def mSortSet (c : Bool) (a : ME U) : ME U := fun ρ S => (a ρ S).bind fun x S1 => match (lsOf S1 x).bind intsOf with
  | some ns => if ns.length ≤ 1000 ∧ (ns.all fun k => decide (0 ≤ k ∧ k < 60)) = true then newLst c ((dedI ns).map U.int) S1 else .bad
  | none => .bad
section
variable {ω : Om} {X : Cx} {E : WX} {e : Expr} {ma : ME U} {c : Bool}
theorem x_sortSet (h : PE X e (tCB (rSortedSet X.w) (tCons (tCB (rSetI X.K X.w) (tCons (rdE ω E ma) tNil)) tNil))) : PE X e (rdE ω E (mSortSet c ma)) := h.to fun σ H Q h => by
  refine (rd_bind (R := Rp) (m := ma) (kk := fun ρ x S1 => match (lsOf S1 x).bind intsOf with
    | some ns => if ns.length ≤ 1000 ∧ (ns.all fun k => decide (0 ≤ k ∧ k < 60)) = true then newLst c ((dedI ns).map U.int) S1 else .bad
    | none => .bad) h).mono ?_
  rintro x H1 ⟨g1, ρ, S1, d, a1, r1, w1⟩
  split at w1
  · rename_i ns e1
    obtain ⟨us, e2, e3⟩ := Option.bind_eq_some_iff.mp e1
    obtain ⟨a, vs, rfl, ha, hr⟩ := ls_of a1.c r1 e2
    split at w1
    · rename_i hb
      obtain ⟨h1, h2⟩ := hb
      have hk : ∀ k ∈ ns, 0 ≤ k ∧ k < 60 := fun k m => of_decide_eq_true (List.all_eq_true.mp h2 k m)
      refine ⟨a, ns, rfl, SqL.of (by rw [← ints_of e3 hr]; exact ha), h1, hk, fun p c' hp c64 => ⟨p, _, c', rfl, upd_same, c64, fun ns' p2 pw mem ln hp2 => ?_⟩⟩
      have np : p ∉ g1.al := fun m => (a1.c.there m).1 hp
      have fp : g1.F p = none := fnone a1.c.fh hp
      have x2 : Gr g1 H1 g1 (upd H1 p (SetO X.w p (fun j => decide (j ∈ ns)) c')) := ⟨rfl, ⟨[], by simp, by simp⟩, (Ext.cellNew a1.c.fh hp).any⟩
      have c2 : Cor g1 (upd H1 p (SetO X.w p (fun j => decide (j ∈ ns)) c')) S1 := a1.c.hid np fp
      have en : ns' = dedI ns := rise_one pw (dedI_pw ns) fun k => by rw [mem, dedI_mem hk]; simp
      subst en
      have hr2 : Rps g1 ((dedI ns).map U.int) ((dedI ns).map V.int) := by
        generalize dedI ns = l
        induction l with
        | nil => exact rps_nil
        | cons x r ih => exact rps_cons rp_int ih
      exact (new_lst c2 hr2 (Wp.base w1 x2)).2 p2 hp2
    · exact w1.elim
  · exact w1.elim
end
end Z

namespace Z
open PySem PySem.Spec PyProof.Rows L2
@[simp] def mKeysL (c : Bool) (a : ME U) : ME U := fun ρ S => (a ρ S).bind fun x S1 => match dcOf S1 x with
  | some (.t kvs) => newLst c (kvs.map fun kv => ktU kv.1) S1
  | _ => .bad
theorem rps_kts {g : Gd} {H : Hp} : ∀ {kvs : List (List Key × U)} {vs : List (List Key × V)} {bs : List Addr}, RpF g kvs vs → IsKeys H vs bs → (∀ b ∈ bs, g.F b = H b) → Rps g (kvs.map fun kv => ktU kv.1) (bs.map V.ref)
  | _, _, _, .nil, ik, _ => by
    cases ik
    exact rps_nil
  | p :: _, q :: _, bs, .cons r t, ik, h => by
    cases ik with
    | @cons _ b _ bs h1 h2 =>
      rw [List.map_cons, List.map_cons]
      refine rps_cons ?_ (rps_kts t h2 fun x m => h x (List.mem_cons_of_mem _ m))
      have e : p.1 = q.1 := r.1
      rw [e]
      exact rp_ktU ((h b List.mem_cons_self).trans h1)
theorem tups_of {H : Hp} : ∀ {vs : List (List Key × V)} {bs : List Addr}, IsKeys H vs bs → ∀ b ∈ bs, ∃ ws, H b = some (.tup ws)
  | [], bs, ik, b, m => by
    cases ik
    cases m
  | v :: vs, bs, ik, b, m => by
    cases ik with
    | cons h1 h2 =>
      rcases List.mem_cons.mp m with rfl | m
      · exact ⟨_, h1⟩
      · exact tups_of h2 b m
section
variable {ω : Om} {X : Cx} {E : WX} {e : Expr} {ma : ME U} {c : Bool}
theorem x_keysL (h : PE X e (tCB (fun xs H Q => ∃ d kvs, xs = [V.ref d] ∧ Rd H d (.dT kvs) ∧ ∀ p bs, H p = none → IsKeys H kvs bs → Q (.ref p) (upd H p (.lst (bs.map V.ref)))) (tCons (rdE ω E ma) tNil))) : PE X e (rdE ω E (mKeysL c ma)) := h.to fun σ H Q h => by
  refine (rd_bind (R := Rp) (m := ma) (kk := fun ρ x S1 => match dcOf S1 x with
    | some (.t kvs) => newLst c (kvs.map fun kv => ktU kv.1) S1
    | _ => .bad) h).mono ?_
  rintro x H1 ⟨g1, ρ, S1, d, a1, r1, w1⟩
  split at w1
  · rename_i kvs e1
    obtain ⟨a, rfl, vs, ha, hr⟩ := dc_at a1.c r1 e1
    refine ⟨a, vs, rfl, ha, fun p bs hp ik => ?_⟩
    obtain ⟨g2, x2, c2, f2⟩ := learn_all a1.c (tups_of ik)
    exact (new_lst c2 (rps_kts (x2.rpf hr) ik f2) (Wp.base w1 x2)).2 p hp
  · exact w1.elim
end
end Z

namespace Z
open PySem PySem.Spec PyProof.Rows L2
def keyD : Key → D
  | .inl i => .int i
  | .inr x => .str x
def ktD (k : List Key) : D := .tup (k.map keyD)
def entryTs : List (List Key) → List Str → List Str
  | k :: ks, t :: ts => (txt (ktD k) ++ ": " ++ t) :: entryTs ks ts
  | _, _ => []
def txtT (ks : List (List Key)) (ds : List D) : Str := dictText (entryTs ks (txts ds))
section
variable {κ : Str → Addr} {P : Program} {w : World} {K : PySem.W.Frag} {H : Hp} {h : Heap}
theorem reps_key : ∀ (k : List Key), Reps κ H (k.map keyD) (k.map kV)
  | [] => reps_nil
  | .inl i :: k => reps_cons rep_int (reps_key k)
  | .inr x :: k => reps_cons rep_str (reps_key k)
theorem rep_ktD {k : List Key} {b : Addr} (e : H b = some (.tup (k.map kV))) : Rep κ H (ktD k) (.ref b) := rep_tup e (reps_key k)
theorem sm_key : ∀ (k : List Key), k.all smK = true → sms (k.map keyD) = true ∧ xcss (k.map keyD) = [] ∧ deps (k.map keyD) = 0
  | [], _ => ⟨by unfold sms; rfl, by unfold xcss; rfl, by unfold deps; rfl⟩
  | x :: k, h => by
    have h' : smK x = true ∧ k.all smK = true := by simpa using h
    obtain ⟨a, b, c⟩ := sm_key k h'.2
    have q := h'.1
    cases x with
    | inl i =>
      refine ⟨?_, ?_, ?_⟩
      · show sms (.int i :: k.map keyD) = true
        unfold sms sm
        rw [a, show smI i = true from q]; rfl
      · show xcss (.int i :: k.map keyD) = []
        unfold xcss xcs
        rw [b]; rfl
      · show deps (.int i :: k.map keyD) = 0
        unfold deps dep
        rw [c]; rfl
    | inr x =>
      refine ⟨?_, ?_, ?_⟩
      · show sms (.str x :: k.map keyD) = true
        unfold sms sm
        rw [a, show PyData.strOk x = true from q]; rfl
      · show xcss (.str x :: k.map keyD) = []
        unfold xcss xcs
        rw [b]; rfl
      · show deps (.str x :: k.map keyD) = 0
        unfold deps dep
        rw [c]; rfl
theorem sm_ktD {k : List Key} (h : k.all smK = true) : sm (ktD k) = true ∧ xcs (ktD k) = [] ∧ dep (ktD k) = 1 := by
  obtain ⟨a, b, c⟩ := sm_key k h
  refine ⟨?_, ?_, ?_⟩
  · unfold ktD sm; exact a
  · unfold ktD xcs; exact b
  · unfold ktD dep; rw [c]
theorem entryT_mem {ks : List (List Key)} {ts : List Str} {t : Str} (l : ks.length = ts.length) (m : (∃ k ∈ ks, txt (ktD k) = t) ∨ t ∈ ts) : ∃ p ∈ entryTs ks ts, t.length ≤ p.length := by
  induction ks generalizing ts with
  | nil =>
    cases ts with
    | nil => rcases m with ⟨_, m, _⟩ | m <;> cases m
    | cons _ _ => simp at l
  | cons k ks ih =>
    cases ts with
    | nil => simp at l
    | cons s ts =>
      have e : (txt (ktD k) ++ ": " ++ s).length = (txt (ktD k)).length + 2 + s.length := by rw [PySem.strLen_append, PySem.strLen_append]; rfl
      have go : ((∃ k ∈ ks, txt (ktD k) = t) ∨ t ∈ ts) → ∃ p ∈ entryTs (k :: ks) (s :: ts), t.length ≤ p.length := fun m => by
        obtain ⟨p, h1, h2⟩ := ih (by simpa using l) m
        exact ⟨p, by unfold entryTs; exact List.mem_cons_of_mem _ h1, h2⟩
      have here : t.length ≤ (txt (ktD k) ++ ": " ++ s).length → ∃ p ∈ entryTs (k :: ks) (s :: ts), t.length ≤ p.length := fun q => ⟨_, by unfold entryTs; exact List.mem_cons_self, q⟩
      rcases m with ⟨q, m, rfl⟩ | m
      · rcases List.mem_cons.mp m with rfl | m
        · exact here (by omega)
        · exact go (Or.inl ⟨q, m, rfl⟩)
      · rcases List.mem_cons.mp m with rfl | m
        · exact here (by omega)
        · exact go (Or.inr m)
theorem entriesK_up {bs bs' : List Addr} {d d' : Nat} (hsub : ∀ b ∈ bs, b ∈ bs') (hd : d ≤ d') : ∀ {es : List DictEntry} {ps : List Str}, ReprEntriesK P w bs h d es ps → ReprEntriesK P w bs' h d' es ps
  | _, _, .nil => .nil
  | _, _, .cons a b c => .cons ((a.more hsub).level_le hd) ((b.more hsub).level_le hd) (entriesK_up hsub hd c)
theorem entriesT_show (ok : HOk P w H h) (KI : K.In h) : ∀ {kvs : List (List Key × V)} {ds : List D} {xs : List (List Key × Addr × Value)},
    Paired (fun (p : List Key × V) (q : List Key × Addr × Value) => p.1 = q.1 ∧ H q.2.1 = some (.tup (p.1.map kV)) ∧ RelV p.2 q.2.2) kvs xs → Reps κ H ds (kvs.map (·.2)) →
    (∀ k ∈ kvs, k.1.all smK = true) → sms ds = true → xcss ds = [] → (∀ t ∈ txts ds, t.length ≤ sizeLine) → (∀ k ∈ kvs, (txt (ktD k.1)).length ≤ sizeLine) →
    ∃ bs, Low κ H (max 1 (deps ds)) bs ∧ ReprEntriesK P w bs h (max 1 (deps ds)) (xs.map (entryOfKey (tupleKind (mixKind P w)))) (entryTs (kvs.map (·.1)) (txts ds))
  | [], ds, _, r, hr, _, _, _, _, _ => by
    cases ds with
    | cons d ds => obtain ⟨_, _, z, _⟩ := hr.of_cons; cases z
    | nil =>
      cases r
      refine ⟨[], ⟨(fun _ m => by cases m), ?_⟩⟩
      unfold txts
      exact .nil
  | k :: ks, ds, _, r, hr, sk, sd, xd, zt, zk => by
    cases ds with
    | nil => have z := hr.of_nil; cases z
    | cons d ds =>
      obtain ⟨v, vs, ev, r1, r2⟩ := hr.of_cons
      rw [List.map_cons] at ev
      injection ev with e1 e2
      subst e1
      subst e2
      cases r with
      | @cons p q ps qs e t =>
        unfold sms at sd
        unfold xcss at xd
        unfold txts at zt
        obtain ⟨s1, s2⟩ := Bool.and_eq_true_iff.mp sd
        obtain ⟨x1, x2⟩ := List.append_eq_nil_iff.mp xd
        obtain ⟨b1, l1, k1⟩ := entriesT_show ok KI t r2 (fun k m => sk k (List.mem_cons_of_mem _ m)) s2 x2 (fun t m => zt t (List.mem_cons_of_mem _ m)) (fun k m => zk k (List.mem_cons_of_mem _ m))
        obtain ⟨b2, l2, k2⟩ := shows (κ := κ) (K := K) ok KI d k.2 _ r1 e.2.2 (by rw [x1]; intro p m; cases m) s1 (zt _ List.mem_cons_self)
        obtain ⟨y1, y2, y3⟩ := sm_ktD (sk k List.mem_cons_self)
        obtain ⟨b3, l3, k3⟩ := shows (κ := κ) (K := K) ok KI (ktD k.1) (.ref _) (.ref _) (rep_ktD e.2.1) rfl (by rw [y2]; intro p m; cases m) y1 (zk k List.mem_cons_self)
        rw [y3] at l3 k3
        have m0 : deps (d :: ds) = max (dep d) (deps ds) := by conv => lhs; unfold deps
        have m1 : max 1 (deps ds) ≤ max 1 (deps (d :: ds)) := by omega
        have m2 : dep d ≤ max 1 (deps (d :: ds)) := by omega
        have m3 : 1 ≤ max 1 (deps (d :: ds)) := Nat.le_max_left _ _
        refine ⟨b1 ++ (b2 ++ b3), (l1.le m1).app ((l2.le m2).app (l3.le m3)), ?_⟩
        unfold txts
        rw [List.map_cons, List.map_cons]
        unfold entryTs
        refine .cons ((k3.more fun b m => List.mem_append_right _ (List.mem_append_right _ m)).level_le m3) ((k2.more fun b m => List.mem_append_right _ (List.mem_append_left _ m)).level_le m2) ?_
        exact entriesK_up (fun b m => List.mem_append_left _ m) m1 k1
theorem low_not {n : Nat} {bs : List Addr} {a : Addr} {kvs : List (List Key × V)} (l : Low κ H n bs) (e : Rd H a (.dT kvs)) : a ∉ bs := fun m => by
  obtain ⟨d, r, _⟩ := l a m
  have go : ∀ u : HO, H a = some u → (∀ x, u ≠ .lst x) → (∀ x, u ≠ .tup x) → (∀ x, u ≠ .dK x) → (∀ x, u ≠ .ext x) → False := fun u e n1 n2 n3 n4 => by
    cases d with
    | lst ds => obtain ⟨_, _, z, q, _⟩ := r.of_lst; cases z; rw [e] at q; exact n1 _ (Option.some.inj q)
    | tup ds => obtain ⟨_, _, z, q, _⟩ := r.of_tup; cases z; rw [e] at q; exact n2 _ (Option.some.inj q)
    | dct ks ds => obtain ⟨_, _, z, q, _⟩ := r.of_dct; cases z; rw [e] at q; exact n3 _ (Option.some.inj q)
    | exc nm tx => obtain ⟨_, _, _, z, q, _⟩ := r.of_exc; cases z; rw [e] at q; exact n4 _ (Option.some.inj q)
    | non => have z := r.of_non; cases z
    | bl b => have z := r.of_bl; cases z
    | int b => have z := r.of_int; cases z
    | str b => have z := r.of_str; cases z
  rcases e with e | ⟨o, e⟩
  · exact go _ e (fun _ z => nomatch z) (fun _ z => nomatch z) (fun _ z => nomatch z) (fun _ z => nomatch z)
  · exact go _ e (fun _ z => nomatch z) (fun _ z => nomatch z) (fun _ z => nomatch z) (fun _ z => nomatch z)
end
def rRpT (κ : Str → Addr) : List V → Hp → VK → Prop := fun vs H Q => ∃ a kvs ds, vs = [.ref a] ∧ Rd H a (.dT kvs) ∧ Reps κ H ds (kvs.map (·.2)) ∧ (∀ k ∈ kvs, k.1.all smK = true) ∧ sms ds = true ∧ xcss ds = [] ∧
  (txtT (kvs.map (·.1)) ds).length ≤ sizeLine ∧ deps ds ≤ 60 ∧ Q (.str (txtT (kvs.map (·.1)) ds)) H
section
variable {κ : Str → Addr} {X : Cx}
theorem u_reprT (hr : Rm 1 X.A) : CallR X (.builtin "repr") (rRpT κ) := by
  intro pins s σ H vs us Q I r h
  obtain ⟨a, kvs, ds, rfl, ha, hrs, sk, sd, xd, hz, hdep, q⟩ := h
  obtain ⟨u, rfl, ru⟩ := vals1 r
  cases ru
  have hg : X.A.in1.guards = some [] := hr.g
  have lv : (kvs.map (·.1)).length = (txts ds).length := by rw [txts_len, ← hrs.len, List.length_map, List.length_map]
  obtain ⟨_, hsys, xs, rel, o, es, ep, ho, hex, hdat, hes, _⟩ := (show ObjOk X.prog X.w H s.heap a (.dT kvs) from ha.ok I.hok)
  have le : ∀ t, ((∃ k ∈ kvs.map (·.1), txt (ktD k) = t) ∨ t ∈ txts ds) → t.length ≤ sizeLine := fun t m => by
    obtain ⟨p, h1, h2⟩ := entryT_mem lv m
    exact Nat.le_trans h2 (Nat.le_trans (dictText_mem_le h1) hz)
  obtain ⟨bs, lw, K1⟩ := entriesT_show I.hok I.kIn rel hrs sk sd xd (fun t m => le t (.inr m)) fun k m => le _ (.inl ⟨k.1, List.mem_map_of_mem m, rfl⟩)
  have na : a ∉ bs := low_not lw ha
  have hT : s.TypeIs (.ref a) "dict" := ⟨o, ho, hex.1⟩
  have hu := hr.r.un
  refine call_repr_slot (by omega) hT F.slot_dict_repr ?_
  exact call_dict_reprK ho hex.1 hdat hsys na (by rw [hes]; exact K1) hg (fun b _ => Clear.nil b) (by show X.A.units + 1 + _ < _; omega) (fun _ _ e => e)
    (fun h' u tk k => ⟨_, _, rfl, ⟨V.str (txtT (kvs.map (·.1)) ds), H, I.kept (t' := tk) k, ⟨u, rfl⟩, q⟩⟩) hz
end
def okRT (ks : List (List Key)) (ds : List D) : Prop := (∀ k ∈ ks, k.all smK = true) ∧ sms ds = true ∧ xcss ds = [] ∧ (txtT ks ds).length ≤ 10000000 ∧ deps ds ≤ 60
open Classical in
noncomputable def reprTM (x : U) (S : Sto) : Out U := match dcOf S x with
  | some (.t kvs) => match optMap (res S 8) (kvs.map (·.2)) with
    | some ds => if okRT (kvs.map (·.1)) ds then .ok (.str (txtT (kvs.map (·.1)) ds)) S else .bad
    | none => .bad
  | _ => .bad
section
variable {ω : Om}
theorem reps_res2 {g : Gd} {H : Hp} {S : Sto} (k : Cor g H S) : ∀ {kvs : List (List Key × U)} {vs : List (List Key × V)} {ds : List D}, RpF g kvs vs → optMap (res S 8) (kvs.map (·.2)) = some ds → Reps g.ca.ad H ds (vs.map (·.2)) ∧ kvs.map (·.1) = vs.map (·.1)
  | _, _, ds, .nil, h => by
    cases h
    exact ⟨reps_nil, rfl⟩
  | p :: _, q :: _, ds, .cons r t, h => by
    rw [List.map_cons] at h
    unfold optMap at h
    split at h
    · cases h
      rename_i h1 h2
      obtain ⟨a, b⟩ := reps_res2 k t h2
      exact ⟨reps_cons (rep_res k 8 _ _ _ r.2 h1).1 a, by rw [List.map_cons, List.map_cons, b, r.1]⟩
    · cases h
theorem s_reprT : SCBw ω (on1 reprTM) (rRpT ω.ad) := s_on1 fun g H S d x Q E o k r w => by
  unfold reprTM at w
  split at w
  · rename_i kvs e
    obtain ⟨a, rfl, vs, ha, hr⟩ := dc_at k r e
    split at w
    · rename_i ds e2
      by_cases h : okRT (kvs.map (·.1)) ds
      · rw [if_pos h] at w
        obtain ⟨h1, h2, h3, h4, h5⟩ := h
        obtain ⟨q1, q2⟩ := reps_res2 k hr e2
        subst o
        rw [q2] at h1 h4 w
        exact ⟨a, vs, ds, rfl, ha, q1, fun k m => h1 _ (List.mem_map_of_mem m), h2, h3, Nat.le_trans h4 ten, h5, w.ok k rp_str⟩
      · rw [if_neg h] at w; exact w.elim
    · exact w.elim
  · exact w.elim
end
end Z

namespace L2
open PySem PySem.Spec PyProof.Rows
def mergeTa (kvs : List (List Key × V)) (more : List (List Key × Addr × V)) : List (List Key × V) := more.foldl (fun acc m => putK acc m.1 m.2.2) kvs
theorem KT.mergeTb {H : Hp} : ∀ {more : List (List Key × Addr × V)} {rs : List (List Key × Addr × Value)} {kvs : List (List Key × V)} {xs : List (List Key × Addr × Value)},
    Paired (fun (m : List Key × Addr × V) (p : List Key × Addr × Value) => m.1 = p.1 ∧ m.2.1 = p.2.1 ∧ RelV m.2.2 p.2.2) more rs → (∀ m ∈ more, H m.2.1 = some (.tup (m.1.map kV))) → KT H kvs xs → KT H (mergeTa kvs more) (storedAllH xs rs)
  | _, _, _, _, .nil, _, q => q
  | m :: _, p :: _, kvs, xs, .cons h t, ht, q => by
    have e := q.put m.1 (ht m List.mem_cons_self) h.2.2
    rw [h.2.1] at e
    have e2 : KT H (putK kvs m.1 m.2.2) (storedH xs p.1 p.2.1 p.2.2) := by rw [← h.1]; exact e
    have r := KT.mergeTb t (fun m mm => ht m (List.mem_cons_of_mem _ mm)) e2
    exact r
theorem len_mergeTa : ∀ (more : List (List Key × Addr × V)) (kvs : List (List Key × V)), (mergeTa kvs more).length ≤ kvs.length + more.length
  | [], kvs => by show kvs.length ≤ kvs.length + 0; omega
  | p :: r, kvs => by
    have h1 := len_mergeTa r (putK kvs p.1 p.2.2)
    have h2 := length_putK kvs p.1 p.2.2
    show (mergeTa (putK kvs p.1 p.2.2) r).length ≤ _
    rw [List.length_cons]; omega
theorem carriesH_of {P : Program} {w : World} {H : Hp} {h : Heap} (ok : HOk P w H h) : ∀ {kvs : List (List Key × Addr × V)} {ws : List (Value × Value)}, VV (kvs.map fun kv => (V.ref kv.2.1, kv.2.2)) ws → (∀ m ∈ kvs, H m.2.1 = some (.tup (m.1.map kV))) →
    ∃ rs, CarriesH (tupleKind (mixKind P w)) h ws rs ∧ Paired (fun (m : List Key × Addr × V) (p : List Key × Addr × Value) => m.1 = p.1 ∧ m.2.1 = p.2.1 ∧ RelV m.2.2 p.2.2) kvs rs
  | [], _, r, _ => by rw [List.map_nil] at r; cases r; exact ⟨[], True.intro, .nil⟩
  | p :: kvs, _, r, ht => by
    rw [List.map_cons] at r
    cases r with
    | @cons a b as bs h t =>
      obtain ⟨rs, c, q⟩ := carriesH_of ok t fun m mm => ht m (List.mem_cons_of_mem _ mm)
      obtain ⟨b1, b2⟩ := b
      have e : b1 = .ref p.2.1 := h.1
      exact ⟨(p.1, p.2.1, b2) :: rs, ⟨e, rfl, key_of ok (ht p List.mem_cons_self), c⟩, .cons ⟨rfl, rfl, h.2⟩ q⟩
def tDispT (trs : List (TE × TE)) : TE := fun σ H Q => ∀ p, H p = none → tPairs trs σ (upd H p (.dT [])) fun ps H2 => H2 p = some (.dT []) ∧ ∃ kvs : List (List Key × Addr × V), ps = kvs.map (fun kv => (V.ref kv.2.1, kv.2.2)) ∧
  (∀ m ∈ kvs, H2 m.2.1 = some (.tup (m.1.map kV))) ∧ kvs.length ≤ 15 ∧ Q (.ref p) (upd H2 p (.dT (mergeTa [] kvs)))
theorem pe_dispT {X : Cx} {pos : Pos} {keys : List (Option Expr)} {values : List Expr} {trs : List (TE × TE)} (hu : X.A.units + 1 < cLine) (h : PPs X pos keys values trs) (hall : keys.all (·.isSome) = true) (hl : keys.length = values.length) (h0 : keys ≠ [])
    (h15 : keys.length ≤ 15) : PE X (.Dict keys values pos) (tDispT trs) := by
  refine ⟨fun pins s σ H Q I q => ?_⟩
  have hn := I.hok.fresh (Nat.le_refl s.heap.objs.size)
  have I1 := I.laid (a := s.heap.objs.size) (o := .dT []) (h' := s.heap.push { cls := .type "dict", data := .dict #[] }) (t' := s.toks) (fun _ _ q => Heap.get?_push_of_some _ q) (Nat.le_refl _) (dt_empty s.heap I.big)
  have hp := pairTrees_length keys values X.env pos hall hl
  have h0' : pairTrees keys values X.env pos ≠ [] := fun he => by
    rw [he] at hp
    exact h0 (List.length_eq_zero_iff.mp hp.symm)
  rw [arm_eval_Dict, zip_pairTrees keys values X.env pos hall hl, dictDisplay_pairs _ h0' (by omega)]
  refine wpAny_bind (wpAny_standAt (wpAny_bind (wpAny_subDictH (knd := tupleKind (mixKind X.prog X.w)) (Q := fun d s' => wpAny (model X.prog X.w) X.A (pure (Value.ref d)) _ X.xe s') (show X.A.units < cLine by omega) (by omega) ?_)))
  refine thn (h.run pins _ σ _ _ I1 (q _ hn)) fun ws s2 ⟨ps, H2, I2, rel, e, kvs, ep, ht, lk, q2⟩ => ?_
  subst ep
  obtain ⟨rs, c, rk⟩ := carriesH_of (P := X.prog) (w := X.w) I2.hok rel ht
  obtain ⟨z, hd, vs0, r0, dd⟩ := dt_of I2.hok e
  cases r0
  refine ⟨rs, c, dd, fun h' tk dd' hs => wpAny_pure ⟨.ref s.heap.objs.size, _, ?_, rfl, q2⟩⟩
  have hz : (mergeTa [] kvs).length ≤ sizeLine := by
    have h1 := len_mergeTa kvs []
    rw [List.length_nil] at h1
    rw [sizeLine_eq]; omega
  have km := KT.mergeTb (H := H2) (kvs := []) (xs := []) rk ht .nil
  obtain ⟨o, es, ep, hq, h2, h3, h4, _, h5⟩ := dd'
  refine d_write I2 (by rw [e]; exact True.intro) hs ⟨o, hq⟩ ⟨hz, hd, _, km.keeps fun c ys ec => ?_, o, es, ep, hq, h2, h3, h4, h5⟩
  rw [upd_ne (ne_of ec e (fun z => nomatch z))]
  exact ec
end L2
namespace Z
open PySem PySem.Spec PyProof.Rows L2
def tKs : List Key → TA
  | [] => tNil
  | x :: r => tCons (tC (kV x)) (tKs r)
theorem tKs_ok {σ : St} {H : Hp} : ∀ (k : List Key) (Q : List V → Hp → Prop), Q (k.map kV) H → tKs k σ H Q
  | [], _, h => h
  | x :: r, Q, h => tKs_ok r (fun xs H2 => Q (kV x :: xs) H2) h
def trsT (kvs : List (List Key × V)) : List (TE × TE) := kvs.map fun kv => (tTup (tKs kv.1), tC kv.2)
theorem tPairs_T {g0 g : Gd} {H0 : Hp} {S : Sto} {σ : St} {p : Addr} : ∀ (kvs : List (List Key × V)) (H : Hp) (R : List (V × V) → Hp → Prop), Gr g0 H0 g H → Cor g H S → p ∉ g.al → g.F p = none → H p = some (.dT []) → (∀ kv ∈ kvs, kv.1.length ≤ 100) →
    (∀ (ms : List (List Key × Addr × V)) H2, ms.map (fun m => (m.1, m.2.2)) = kvs → (∀ m ∈ ms, H2 m.2.1 = some (.tup (m.1.map kV))) → (∀ a u, H a = some u → H2 a = some u) → Gr g0 H0 g H2 → Cor g H2 S → H2 p = some (.dT []) → R (ms.map fun m => (V.ref m.2.1, m.2.2)) H2) →
    tPairs (trsT kvs) σ H R
  | [], H, R, x, c, np, fp, e, _, h => h [] H rfl (fun _ m => by cases m) (fun _ _ z => z) x c e
  | kv :: r, H, R, x, c, np, fp, e, hl, h => by
    refine tKs_ok kv.1 _ ⟨?_, fun q hq => ?_⟩
    · rw [List.length_map, sizeLine_eq]
      have := hl kv List.mem_cons_self
      omega
    have fq : g.F q = none := fnone c.fh hq
    have nq : q ∉ g.al := fun m => (c.there m).1 hq
    have x1 : Gr g H g (upd H q (.tup (kv.1.map kV))) := ⟨rfl, ⟨[], by simp, by simp⟩, (Ext.cellNew c.fh hq).any⟩
    have pq : p ≠ q := fun z => by rw [z, hq] at e; cases e
    refine tPairs_T r _ _ (x.trans x1) (c.hid nq fq) np fp (by rw [upd_ne pq]; exact e) (fun k m => hl k (List.mem_cons_of_mem _ m)) fun ms H2 e1 e2 e3 x2 c2 e4 => ?_
    refine h ((kv.1, q, kv.2) :: ms) H2 (by rw [List.map_cons, e1]) (fun m mm => ?_) (fun a u z => e3 a u ?_) x2 c2 e4
    · rcases List.mem_cons.mp mm with rfl | mm
      · exact e3 q _ upd_same
      · exact e2 m mm
    · have : a ≠ q := fun y => by rw [y, hq] at z; cases z
      rw [upd_ne this]; exact z
def mergeP (kvs : List (List Key × V)) (more : List (List Key × V)) : List (List Key × V) := more.foldl (fun acc m => putK acc m.1 m.2) kvs
theorem mergeTa_P : ∀ (ms : List (List Key × Addr × V)) (kvs : List (List Key × V)), mergeTa kvs ms = mergeP kvs (ms.map fun m => (m.1, m.2.2))
  | [], _ => rfl
  | m :: r, kvs => mergeTa_P r _
def mDispT (us : List (List Key × U)) : ME U := fun _ S => .ok (.cel S.length) (S ++ [.dT us])
@[simp] theorem mDispT_ok (us : List (List Key × U)) (ρ : Rho) (S : Sto) : mDispT us ρ S = .ok (.cel S.length) (S ++ [.dT us]) := rfl
section
variable {ω : Om} {X : Cx} {E : WX}
theorem x_dispT {e : Expr} {trs : List (TE × TE)} (kvs : List (List Key × V)) {us : List (List Key × U)} (h : PE X e (tDispT trs)) (hr : ∀ g : Gd, RpF g us kvs) (ht : trs = trsT kvs := by rfl) (hl : kvs.length ≤ 15 := by decide) (h2 : ∀ kv ∈ kvs, kv.1.length ≤ 100 := by decide) (hm : mergeP [] kvs = kvs := by first | rfl | (simp [mergeP, putK]; done) | (simp [mergeP, putK]; decide +kernel)) :
    PE X e (rdE ω E (mDispT us)) := h.to fun σ H Q ⟨g, ρ, S, a, w⟩ p hp => by
  subst ht
  have np : p ∉ g.al := fun m => (a.c.there m).1 hp
  have fp : g.F p = none := fnone a.c.fh hp
  have x0 : Gr g H g (upd H p (.dT [])) := ⟨rfl, ⟨[], by simp, by simp⟩, (Ext.cellNew a.c.fh hp).any⟩
  have c0 : Cor g (upd H p (.dT [])) S := a.c.hid np fp
  refine tPairs_T kvs _ _ x0 c0 np fp upd_same h2 fun ms H2 e1 e2 e3 x2 c2 e4 => ?_
  have lm : ms.length = kvs.length := by rw [← e1, List.length_map]
  refine ⟨e4, ms, rfl, e2, by omega, ?_⟩
  rw [mergeTa_P, e1, hm]
  have ct : CelAt g (upd H2 p (.dT kvs)) (.dT us) p := ⟨_, upd_same, hr g⟩
  obtain ⟨xe, ce⟩ := end_cel (x2.hid hp fp) (c2.hid np fp) hp np fp ct
  refine w (g.push p) _ _ xe ce ?_
  rw [← a.c.len]
  exact rp_cel (by simp)
end
end Z

namespace L2
open PySem PySem.Spec PyProof.Rows
section
variable {prog : Program} {w : World} {A : Around} {E : Value → Shared → Prop} {s : Shared}
theorem samePairs_e {nm : String} {a b : Addr} {oa ob : Obj} {es es' : Array DictEntry} {ep ep' : Nat} {Q : Bool → Shared → Prop} (ha : (a == sysModules) = false) (hb : (b == sysModules) = false)
    (hoa : s.heap.get? a = some oa) (hda : oa.data = .dict es ep) (hob : s.heap.get? b = some ob) (hdb : ob.data = .dict es' ep') (h0 : es'.size = 0) (h : Q (es.size == 0) s) :
    wpAny (model prog w) A (Builtin.Dict.samePairs nm a b) Q E s := by
  unfold Builtin.Dict.samePairs Builtin.Dict.showsAll
  rw [if_neg (show ¬ (a == sysModules) = true by rw [ha]; exact Bool.false_ne_true), if_neg (show ¬ (b == sysModules) = true by rw [hb]; exact Bool.false_ne_true)]
  refine wpAny_bind (wpAny_pure (wpAny_bind (wpAny_pure ?_)))
  refine wpAny_bind (wpAny_dictEntries hoa hda ?_)
  dsimp only
  refine wpAny_bind (wpAny_dictEntries hob hdb ?_)
  by_cases hsz : es.size = es'.size
  case neg =>
    rw [if_pos (by simpa using hsz)]
    have hbf : (es.size == 0) = false := by rw [h0] at hsz; simpa using hsz
    rw [hbf] at h
    exact wpAny_bind (wpAny_rule (wpAny_pure h))
  case pos =>
    have e0 : es.size = 0 := hsz.trans h0
    have h' : Q true s := by simpa [e0] using h
    rw [if_neg (by rw [hsz]; simp)]
    refine wpAny_bind (wpAny_dictEpoch hoa hda ?_)
    refine wpAny_bind ?_
    rw [Std.Legacy.Range.forIn_eq_forIn_range']
    simp only [Std.Legacy.Range.size, Nat.sub_zero, Nat.add_sub_cancel, Nat.div_one, e0]
    exact wpAny_pure (wpAny_pure h')
theorem ne_empty {a b : Addr} {oa ob : Obj} {es es' : Array DictEntry} {ep ep' : Nat} {Q : Value → Shared → Prop} (ha : (a == sysModules) = false) (hb : (b == sysModules) = false)
    (hoa : s.heap.get? a = some oa) (ca : oa.cls = .type "dict") (hda : oa.data = .dict es ep) (hob : s.heap.get? b = some ob) (cb : ob.cls = .type "dict") (hdb : ob.data = .dict es' ep') (h0 : es'.size = 0) (hu : A.units < cLine)
    (h : Q (.bool (!(es.size == 0))) s) : wpAny (model prog w) A (compareOp .NotEq (.ref a) (.ref b)) Q E s := by
  have ta : s.TypeIs (.ref a) "dict" := ⟨_, hoa, ca⟩
  have tb : s.TypeIs (.ref b) "dict" := ⟨_, hob, cb⟩
  refine wpAny_richCompare_same_room (op := .NotEq) ta tb PySem.F.slot_dict_ne (wpAny_call_entry PySem.F.slot_dict_ne ta PySem.F.entry_dict_ne ?_ (PySem.F.args_dict_ne_2 _ _)) hu
  show wpAny _ _ (Builtin.Dict.dictSlotArgs "__ne__" ⟨[.ref a, .ref b], []⟩ >>= _) _ _ s
  refine wpAny_bind ?_
  unfold Builtin.Dict.dictSlotArgs
  refine wpAny_bind (wpAny_notOrdered_dict ta ?_)
  show wpAny _ _ (pure (Value.ref a, Value.ref b)) _ _ s
  refine wpAny_pure ?_
  refine wpAny_bind (wpAny_isInstance (T := "dict") tb PySem.F.sub_dict_dict ?_)
  simp only [Bool.not_true, Bool.false_eq_true, if_false]
  refine wpAny_bind (wpAny_pure (wpAny_bind (wpAny_pure ?_)))
  refine wpAny_bind (samePairs_e ha hb hoa hda hob hdb h0 ?_)
  refine wpAny_pure ⟨_, rfl, ?_, ?_⟩
  · exact fun x => nomatch x
  · simpa using h
end
def rNeDe : V → V → Hp → VK → Prop := fun x y H Q => ∃ a b kvs, x = .ref a ∧ y = .ref b ∧ Rd H a (.dT kvs) ∧ Rd H b (.dT []) ∧ Q (.bl (!kvs.isEmpty)) H
theorem op_neDe {X : Cx} (hu : X.A.units + 1 < cLine) : OpR X (compareOp .NotEq) rNeDe := by
  intro pins s σ H x y v u Q I rx ry h
  obtain ⟨a, b, kvs, rfl, rfl, ha, hb, q⟩ := h
  cases rx
  cases ry
  obtain ⟨_, h1, xs, r, o, es, ep, ho, hc, hd, he, _⟩ := (show ObjOk X.prog X.w H s.heap a (.dT kvs) from ha.ok I.hok)
  obtain ⟨_, h2, xs2, r2, o2, es2, ep2, ho2, hc2, hd2, he2, _⟩ := (show ObjOk X.prog X.w H s.heap b (.dT []) from hb.ok I.hok)
  cases r2
  have e2 : es2.size = 0 := by rw [← Array.length_toList, he2]; rfl
  have e1 : es.size = kvs.length := by rw [← Array.length_toList, he, List.length_map, Paired.length r]
  refine ne_empty h1 h2 ho hc.1 hd ho2 hc2.1 hd2 e2 (by omega) ?_
  refine ⟨.bl (!kvs.isEmpty), H, I, ?_, q⟩
  rw [e1]
  cases kvs <;> rfl
end L2
namespace Z
open PySem PySem.Spec PyProof.Rows L2
def neDM (x y : U) (S : Sto) : Out U := match dcOf S x, dcOf S y with
  | some (.t kvs), some (.t []) => .ok (.bl (!kvs.isEmpty)) S
  | _, _ => .bad
section
variable {ω : Om}
theorem rpf_empty {g : Gd} {kvs : List (List Key × U)} {vs : List (List Key × V)} (r : RpF g kvs vs) : kvs.isEmpty = vs.isEmpty := by
  cases r <;> rfl
theorem s_neD : SOpw ω neDM rNeDe := fun g H S d e x y Q E hk k r1 r2 w => by
  unfold neDM at w
  split at w
  · rename_i kvs e1 e2
    obtain ⟨a, rfl, vs, ha, hr⟩ := dc_at k r1 e1
    obtain ⟨b, rfl, ws, hb, hs⟩ := dc_at k r2 e2
    cases hs
    exact ⟨a, b, vs, rfl, rfl, ha, hb, by rw [← rpf_empty hr]; exact w.ok k rp_bl⟩
  · exact w.elim
end
end Z

namespace DT
open PySem PySem.W PySem.Calls PyProof.Rows PyProof.V PySem.Spec
section
variable {K : Type} [DecidableEq K] {prog : Program} {w : World} {knd : HeapKind prog w K} {A : Around} {E : Value → Shared → Prop} {s : Shared}
theorem meetsPop1 {d b : Addr} {k : K} (hd : (d == sysModules) = false) :
    MeetsIn prog w (Builtin.«dict.pop» ⟨[.ref d, .ref b], []⟩) (fun A R s => ∃ xs p, knd.room A.in1 ∧ knd.is s.heap k b ∧ s.heap.DictOfH knd d xs ∧ xs.length ≤ sizeLine ∧ atKey xs k = some p ∧
      ∀ h' tk, h'.DictOfH knd d (dropH xs k) → Heap.SameBut d s.heap h' → R (.ok (.ret p.2)) { s with heap := h', toks := tk }) :=
  .of_wp fun A R s ⟨xs, p, hu, hkey, hm, hsz, hat, hsome⟩ => by
    obtain ⟨o, es, ep, ho, hc, hdat, he, his, hn⟩ := id hm
    have hes : es.size = xs.length := size_of_entries he
    have hpart : (keyPart (Value.ref b)).isSome = false := rfl
    unfold Builtin.«dict.pop»
    refine wpAny_bind ?_
    unfold Builtin.Dict.keyAndDefault
    refine wpAny_bind (wpAny_notOrdered_dict hm.typeIs ?_)
    show wpAny _ _ (pure (d, Value.ref b, none)) _ _ s
    refine wpAny_pure ?_
    simp only [hpart, Bool.false_eq_true, if_false]
    refine wpAny_bind (wpAny_dictEntries ho hdat (wpAny_bind (wpAny_pure ?_)))
    cases hem : es.isEmpty with
    | true =>
      have h0 : xs = [] := by
        have z : es.size = 0 := by simpa using hem
        exact List.length_eq_zero_iff.mp (by omega)
      rw [h0] at hat
      exact nomatch (show (none : Option (Addr × Value)) = some p from hat)
    | false =>
      simp only [Bool.false_eq_true, if_false]
      refine wpAny_bind (takeH hu hkey hm hsz (fun hno => ?_) fun p' e hp hev h' hm' hs' => ?_)
      · rw [hno] at hat; exact nomatch hat
      · simp only [Option.isNone_some, Bool.false_eq_true, if_false]
        rw [hat] at hp
        have ep' : p = p' := Option.some.inj hp
        exact wpAny_bind (wpAny_letGo (wpAny_pure ⟨e.val, rfl, by rw [hev, ← ep']; exact hsome h' _ hm' hs'⟩))
end
end DT
namespace L2.DX
open PySem PySem.Spec PyProof.Rows
section
variable {X : Cx}
def rPop1T : V → List V → Hp → VK → Prop := fun x xs H Q => ∃ (a : Addr) (kvs : List (List L2.Key × V)) (k : List L2.Key) (b : Addr) (v : V), x = .ref a ∧ xs = [.ref b] ∧ H a = some (.dT kvs) ∧ H b = some (.tup (k.map kV)) ∧
  valV kvs k = some v ∧ Q v (upd H a (.dT (dropK kvs k)))
theorem mt_pop1T (hu : X.A.units + 1 < cLine) : MtR X "dict.pop" rPop1T := by
  intro pins s σ H x xs v us Q I rx rxs h
  obtain ⟨a, kvs, k, b, v0, rfl, rfl, ha, hb, ev, q1⟩ := h
  cases rx
  obtain ⟨u1, rfl, r1⟩ : ∃ u1, us = [u1] ∧ RelV (.ref b) u1 := by
    cases rxs with
    | cons h t => cases t with
      | nil => exact ⟨_, rfl, h⟩
  cases r1
  obtain ⟨z, hd, xs', rel, dd⟩ := dt_of I.hok ha
  have hz : xs'.length ≤ sizeLine := by rw [← Paired.length rel]; exact z
  have r := rel.val k
  obtain ⟨p, hp, rv⟩ : ∃ p, PySem.atKey xs' k = some p ∧ RelV v0 p.2 := by
    cases ep : PySem.atKey xs' k with
    | none =>
      rw [ev, ep] at r
      exact (show False from r).elim
    | some p0 =>
      rw [ev, ep] at r
      exact ⟨p0, rfl, r⟩
  refine call_meetsIn PySem.F.slot_dict_pop dd.typeIs PySem.F.entry_dict_pop (PySem.F.args_dict_pop_2 _ _) (DT.meetsPop1 (knd := tupleKind (mixKind X.prog X.w)) (k := k) hd)
    ⟨xs', p, tupleKind_room_in1 hu, key_of I.hok hb, dd, hz, hp, fun h' tk dd' hs => ?_⟩
  obtain ⟨o, es, ep, hq, h2, h3, h4, _, h5⟩ := dd'
  have I2 : Inv X pins σ (upd H a (.dT (dropK kvs k))) { s with heap := h', toks := tk } :=
    d_write I (by rw [ha]; exact True.intro) hs ⟨o, hq⟩ ⟨Nat.le_trans (dropK_le kvs k) z, hd, _, (KT_drop k rel).keeps (fun c ys ec => (by rw [upd_ne (ne_of ec ha (fun z => nomatch z))]; exact ec)), o, es, ep, hq, h2, h3, h4, h5⟩
  show EP X pins σ Q p.2 _
  exact ⟨v0, _, I2, rv, q1⟩
end
end L2.DX
namespace Z
open PySem PySem.Spec PyProof.Rows L2 L2.DX
def pop1TM (x : U) (us : List U) (S : Sto) : Out U := match x, us with
  | .cel n, [y] => match S[n]? with
    | some (.dT kvs) => match kTof y with
      | some k => match valG kvs k with
        | some v => .ok v (S.set n (.dT (dropG kvs k)))
        | none => .bad
      | none => .bad
    | _ => .bad
  | _, _ => .bad
theorem s_pop1T : SMt pop1TM rPop1T := fun g H S d ds x xs Q E k r rs w => by
  unfold pop1TM at w
  split at w
  · rename_i n y
    obtain ⟨a, ha, rfl⟩ := r.of_cel
    obtain ⟨v1, ws, rfl, r1, r2⟩ := rs.of_cons
    rw [r2.of_nil]
    split at w
    · rename_i kvs e
      obtain ⟨vs, e2, hr⟩ := k.get ha e
      cases ek : kTof y with
      | none => rw [ek] at w; exact w.elim
      | some key =>
        rw [ek] at w
        dsimp only at w
        obtain ⟨b, rfl, _, hb⟩ := kTof_v k r1 ek
        obtain ⟨p1, p2⟩ := hr.val (k := key)
        cases ev : valG kvs key with
        | none => rw [ev] at w; exact w.elim
        | some u =>
          rw [ev] at w
          obtain ⟨v', q1, q2⟩ := p1 u ev
          refine ⟨a, vs, key, b, v', rfl, rfl, e2, hb, q1, ?_⟩
          obtain ⟨x4, k4⟩ := k.setC (o := .dT (dropK vs key)) (c := .dT (dropG kvs key)) ha ⟨_, upd_same, hr.drop⟩ e
          exact w _ _ _ x4 k4 (x4.rp q2)
    · exact w.elim
  · exact w.elim
end Z

namespace Z
open PySem PySem.Spec PyProof.Rows L2
def maxLM (x : U) (S : Sto) : Out U := match (lsOf S x).bind intsOf with
  | some ns => (match maxI ns with
    | some m => .ok (.int m) S
    | none => .bad)
  | none => .bad
theorem foldl_max_le : ∀ (ns : List Int) (n : Int), n ≤ ns.foldl max n ∧ ∀ y ∈ ns, y ≤ ns.foldl max n
  | [], n => ⟨Int.le_refl _, fun y m => by cases m⟩
  | a :: ns, n => by
    obtain ⟨h1, h2⟩ := foldl_max_le ns (max n a)
    rw [List.foldl_cons]
    refine ⟨by omega, fun y m => ?_⟩
    rcases List.mem_cons.mp m with rfl | m
    · omega
    · exact h2 y m
theorem foldl_max_mem : ∀ (l : List Int) (n : Int), l.foldl max n = n ∨ l.foldl max n ∈ l
  | [], n => Or.inl rfl
  | b :: l, n => by
    rw [List.foldl_cons]
    rcases foldl_max_mem l (max n b) with h | h
    · rw [h]
      by_cases z : b ≤ n
      · left; omega
      · right; rw [show max n b = b by omega]; exact List.mem_cons_self
    · exact Or.inr (List.mem_cons_of_mem _ h)
section
variable {ω : Om} {K : PySem.W.Frag}
theorem s_maxL : SCBw ω (on1 maxLM) (uMax K) := s_on1 fun g H S d x Q E o k r w => by
  unfold maxLM at w
  cases e : lsOf S d with
  | none => rw [e] at w; exact w.elim
  | some us =>
    rw [e, Option.bind_some] at w
    obtain ⟨a, vs, rfl, ha, hr⟩ := ls_of k r e
    cases e2 : intsOf us with
    | none => rw [e2] at w; exact w.elim
    | some bs =>
      rw [e2] at w
      rw [ints_of e2 hr] at ha
      dsimp only at w
      cases bs with
      | nil => exact w.elim
      | cons n ns =>
        refine Or.inr ⟨a, n :: ns, rfl, SqL.of ha, by simp, fun m hm hl => ?_⟩
        have q := foldl_max_le ns n
        have e4 : m = ns.foldl max n := by
          have h1 : m ≤ ns.foldl max n := by
            rcases List.mem_cons.mp hm with rfl | hm
            · exact q.1
            · exact q.2 m hm
          have h2 : ns.foldl max n ≤ m := by
            rcases foldl_max_mem ns n with h | h
            · rw [h]; exact hl n List.mem_cons_self
            · exact hl _ (List.mem_cons_of_mem _ h)
          omega
        rw [e4]
        exact w.ok k rp_int
end
@[simp] def mPar3 (i j l : Nat) (r : ME (List U)) : MS := fun ρ S => (r ρ S).thenS ρ fun us S1 => match us with
  | [d, e, f] => .nx (((ρ.set i (some d)).set j (some e)).set l (some f)) S1
  | _ => .bad
section
variable {ω : Om} {X : Cx} {E : WX} {st : Stmt} {mr : ME (List U)}
theorem xs_par3 {i j l : Nat} (h : PS X st (tPar3 i j l (rdA ω E mr))) : PS X st (rdS ω E (mPar3 i j l mr)) := h.to fun D σ H ⟨g, ρ, S, a, w⟩ =>
  ⟨g, ρ, S, a, Ws.ofE (R := Rps) a w fun b H1 g1 S1 x y a1 r w1 => by
    match x, r, w1 with
    | [d, e, f], r, w1 =>
      obtain ⟨v, ws, rfl, r1, r2⟩ := r.of_cons
      obtain ⟨v2, ws2, rfl, r3, r4⟩ := r2.of_cons
      obtain ⟨v3, ws3, rfl, r5, r6⟩ := r4.of_cons
      rw [r6.of_nil]
      exact ⟨v, v2, v3, rfl, w1 _ _ _ a1.c.rfl_ ⟨((a1.e.set r1 i).set r3 j).set r5 l, a1.c⟩⟩
    | [], _, w1 => exact w1.elim
    | [_], _, w1 => exact w1.elim
    | [_, _], _, w1 => exact w1.elim
    | _ :: _ :: _ :: _ :: _, _, w1 => exact w1.elim⟩
end
end Z

namespace DT
open PySem PySem.W PySem.Calls PyProof.Rows PyProof.V PySem.Spec
section
variable {K : Type} [DecidableEq K] {prog : Program} {w : World} {knd : HeapKind prog w K} {A : Around} {E : Value → Shared → Prop} {s : Shared}
inductive HitsH {K : Type} [DecidableEq K] (A : Around) (s : Shared) (ys : List (K × Addr × Value)) : List (K × Addr × Value) → Bool → Prop
  | nil : HitsH A s ys [] true
  | miss {k : K} {p : Addr × Value} {r : List (K × Addr × Value)} : atKey ys k = none → HitsH A s ys ((k, p) :: r) false
  | hit {k : K} {p q : Addr × Value} {r : List (K × Addr × Value)} {e b : Bool} : atKey ys k = some q → SeqAt.EqAt A s p.2 q.2 e → HitsH A s ys r b → HitsH A s ys ((k, p) :: r) (e && b)
theorem HitsH.inv {ys : List (K × Addr × Value)} {k : K} {p : Addr × Value} {r : List (K × Addr × Value)} {b : Bool} (h : HitsH A s ys ((k, p) :: r) b) :
    (atKey ys k = none ∧ b = false) ∨ ∃ q e b', atKey ys k = some q ∧ SeqAt.EqAt A s p.2 q.2 e ∧ HitsH A s ys r b' ∧ b = (e && b') := by
  cases h with
  | miss hn => exact .inl ⟨hn, rfl⟩
  | hit hy he hr => exact .inr ⟨_, _, _, hy, he, hr, rfl⟩
theorem samePairsH {nm : String} {a b : Addr} {xs ys : List (K × Addr × Value)} {r : Bool} {Q : Bool → Shared → Prop} (hu : knd.room A) (ha : (a == sysModules) = false) (hb : (b == sysModules) = false)
    (da : s.heap.DictOfH knd a xs) (db : s.heap.DictOfH knd b ys) (hits : HitsH A s ys xs r) (h : Q (xs.length == ys.length && r) s) :
    wpAny (model prog w) A (Builtin.Dict.samePairs nm a b) Q E s := by
  obtain ⟨oa, es, ep, hoa, _, hda, hka, hpa, _⟩ := da
  obtain ⟨ob, es', ep', hob, _, hdb, hkb, hpb, hnb⟩ := db
  have hla : es.size = xs.length := size_of_entries hka
  have hlb : es'.size = ys.length := size_of_entries hkb
  rw [← hla, ← hlb] at h
  unfold Builtin.Dict.samePairs Builtin.Dict.showsAll
  rw [if_neg (show ¬ (a == sysModules) = true by rw [ha]; exact Bool.false_ne_true), if_neg (show ¬ (b == sysModules) = true by rw [hb]; exact Bool.false_ne_true)]
  refine wpAny_bind (wpAny_pure (wpAny_bind (wpAny_pure ?_)))
  refine wpAny_bind (wpAny_dictEntries hoa hda ?_)
  dsimp only
  refine wpAny_bind (wpAny_dictEntries hob hdb ?_)
  by_cases hsz : es.size = es'.size
  case neg =>
    rw [if_pos (by simpa using hsz)]
    have hbf : (es.size == es'.size) = false := by simpa using hsz
    rw [hbf, Bool.false_and] at h
    exact wpAny_bind (wpAny_rule (wpAny_pure h))
  case pos =>
    have h' : Q r s := by simpa [hsz] using h
    rw [if_neg (by rw [hsz]; simp)]
    refine wpAny_bind (wpAny_dictEpoch hoa hda ?_)
    refine wpAny_bind ?_
    rw [Std.Legacy.Range.forIn_eq_forIn_range']
    simp only [Std.Legacy.Range.size, Nat.sub_zero, Nat.add_sub_cancel, Nat.div_one]
    refine wpAny_forIn_list _
      (fun rest q s' => s' = s ∧ q = (none, ()) ∧ ∃ i, rest = List.range' i (es.size - i) ∧ i ≤ es.size ∧ HitsH A s ys (xs.drop i) r)
      _ ?_ ?_ _ _ ⟨rfl, rfl, 0, by simp, Nat.zero_le _, hits⟩
    · rintro x rest q s' ⟨rfl, rfl, i, hr, hi, hpre⟩
      have hlt : i < es.size := by
        rcases Nat.lt_or_ge i es.size with h | h
        · exact h
        · rw [Nat.sub_eq_zero_of_le h] at hr; simp at hr
      obtain ⟨rfl, hrest⟩ : x = i ∧ rest = List.range' (i + 1) (es.size - (i + 1)) := by
        have e : es.size - i = (es.size - (i + 1)) + 1 := by omega
        rw [e, List.range'_succ] at hr
        injection hr with h1 h2
        exact ⟨h1, h2⟩
      refine wpAny_bind (wpAny_dictEntries hoa hda ?_)
      have hlt' : x < xs.length := by omega
      obtain ⟨k, p, hkv⟩ : ∃ k p, xs[x] = (k, p) := ⟨_, _, rfl⟩
      have hdrop : xs.drop x = (k, p) :: xs.drop (x + 1) := by rw [← hkv]; exact List.drop_eq_getElem_cons hlt'
      have hex : es[x]? = some (entryOfKey knd (k, p)) := by rw [entry_at hka x, List.getElem?_eq_getElem hlt', hkv]; rfl
      have hkey := hpa (k, p) (by rw [← hkv]; exact List.getElem_mem _)
      rw [hdrop] at hpre
      rw [hex]
      show wpAny _ _ (holding [Value.ref p.1, p.2] _ >>= _) _ _ _
      refine wpAny_bind (wpAny_holding (wpAny_bind (wpAny_dictFind_heap hu hkey hob hdb hkb hpb hnb ?_ ?_)))
      · intro hno
        have hn : atKey ys k = none := atKey_none_of_get hno
        rcases hpre.inv with ⟨_, er⟩ | ⟨y, _, _, hy, _⟩
        · rw [er] at h'
          refine wpAny_pure ?_
          show wpAny _ _ (if (!false) = true then _ else _) _ _ _
          rw [if_pos (by decide)]
          exact wpAny_pure (wpAny_pure h')
        · rw [hn] at hy; exact nomatch hy
      · intro j q hj
        have hv' : atKey ys k = some q := atKey_of_get hnb hj
        have hej : es'[j]? = some (entryOfKey knd (k, q)) := by rw [entry_at hkb j, hj]; rfl
        refine wpAny_bind (wpAny_dictEntries hob hdb ?_)
        rw [hej]
        rcases hpre.inv with ⟨hn, _⟩ | ⟨y, e, b', hy, he, hrr, er⟩
        · rw [hv'] at hn; exact nomatch hn
        · have ey : q = y := Option.some.inj (hv'.symm.trans hy)
          rw [← ey] at he
          refine wpAny_holding (he prog w _ _ ?_)
          cases e with
          | false =>
            rw [er, Bool.false_and] at h'
            show wpAny _ _ (if (!false) = true then _ else _) _ _ _
            rw [if_pos (by decide)]
            exact wpAny_pure (wpAny_pure h')
          | true =>
            rw [Bool.true_and] at er
            rw [← er] at hrr
            show wpAny _ _ (if (!true) = true then _ else _) _ _ _
            rw [if_neg (by decide)]
            refine wpAny_bind (wpAny_dictEpoch hoa hda ?_)
            rw [if_neg (by simp)]
            exact wpAny_pure ⟨rfl, rfl, x + 1, hrest, hlt, hrr⟩
    · rintro q s' ⟨rfl, rfl, i, hr, hi, hpre⟩
      have hin : i = es.size := by
        rcases Nat.lt_or_ge i es.size with h | h
        · have e : es.size - i = (es.size - (i + 1)) + 1 := by omega
          rw [e, List.range'_succ] at hr; exact nomatch hr
        · exact Nat.le_antisymm hi h
      refine wpAny_pure ?_
      rw [hin, hla, List.drop_length] at hpre
      cases hpre
      exact h'
theorem eqH {a b : Addr} {xs ys : List (K × Addr × Value)} {r : Bool} {Q : Value → Shared → Prop} (hu1 : knd.room A.in1) (ha : (a == sysModules) = false) (hb : (b == sysModules) = false)
    (da : s.heap.DictOfH knd a xs) (db : s.heap.DictOfH knd b ys) (hu : A.units < cLine) (hits : HitsH A.in1 s ys xs r) (h : Q (.bool (xs.length == ys.length && r)) s) :
    wpAny (model prog w) A (compareOp .Eq (.ref a) (.ref b)) Q E s := by
  refine wpAny_richCompare_same_room (op := .Eq) da.typeIs db.typeIs PySem.F.slot_dict_eq (wpAny_call_entry PySem.F.slot_dict_eq da.typeIs PySem.F.entry_dict_eq ?_ (PySem.F.args_dict_eq_2 _ _)) hu
  show wpAny _ _ (Builtin.Dict.dictSlotArgs "__eq__" ⟨[.ref a, .ref b], []⟩ >>= _) _ _ s
  refine wpAny_bind ?_
  unfold Builtin.Dict.dictSlotArgs
  refine wpAny_bind (wpAny_notOrdered_dict da.typeIs ?_)
  show wpAny _ _ (pure (Value.ref a, Value.ref b)) _ _ s
  refine wpAny_pure ?_
  refine wpAny_bind (wpAny_isInstance (T := "dict") db.typeIs PySem.F.sub_dict_dict ?_)
  simp only [Bool.not_true, Bool.false_eq_true, if_false]
  refine wpAny_bind (wpAny_pure (wpAny_bind (wpAny_pure ?_)))
  refine wpAny_bind (samePairsH hu1 ha hb da db hits ?_)
  refine wpAny_pure ⟨_, rfl, ?_, ?_⟩
  · exact fun x => nomatch x
  · simpa using h
end
end DT
namespace L2
open PySem PySem.Spec PyProof.Rows
/-- each row of the first dict is found, with the same number, in the second one -/
def eqKI (ks ls : List (List Key × Int)) : Bool := ks.length == ls.length && ks.all fun kv => decide (valG' ls kv.1 = some kv.2)
where valG' (ls : List (List Key × Int)) (k : List Key) : Option Int := (ls.find? fun x => decide (x.1 = k)).map (·.2)
def kvI (ks : List (List Key × Int)) : List (List Key × V) := ks.map fun x => (x.1, V.int x.2)
theorem KT.atI {H : Hp} : ∀ {ls : List (List Key × Int)} {ys : List (List Key × Addr × Value)}, KT H (kvI ls) ys → ∀ k, match eqKI.valG' ls k with
    | none => atKey ys k = none
    | some n => ∃ p t, atKey ys k = some p ∧ p.2 = .int n t
  | [], _, .nil, k => rfl
  | (k0, n) :: ls, (k1, p) :: ys, .cons h t, k => by
    obtain ⟨e1, _, e2⟩ := h
    have e1' : k0 = k1 := e1
    subst e1'
    by_cases z : k0 = k
    · have a : eqKI.valG' ((k0, n) :: ls) k = some n := by simp [eqKI.valG', List.find?_cons, z]
      have b : atKey ((k0, p) :: ys) k = some p := by simp [atKey, List.find?_cons, z]
      rw [a, b]
      obtain ⟨t, et⟩ : ∃ t, p.2 = .int n t := by
        have e3 : RelV (.int n) p.2 := e2
        exact e3
      exact ⟨p, t, rfl, et⟩
    · have a : eqKI.valG' ((k0, n) :: ls) k = eqKI.valG' ls k := by simp [eqKI.valG', List.find?_cons, z]
      have b : atKey ((k0, p) :: ys) k = atKey ys k := by simp [atKey, List.find?_cons, z]
      rw [a, b]
      exact KT.atI t k
theorem KT.hits {A : Around} {s : Shared} {H : Hp} {ls : List (List Key × Int)} {ys : List (List Key × Addr × Value)} (hy : KT H (kvI ls) ys) : ∀ {ks : List (List Key × Int)} {xs : List (List Key × Addr × Value)}, KT H (kvI ks) xs →
    DT.HitsH A s ys xs (ks.all fun kv => decide (eqKI.valG' ls kv.1 = some kv.2))
  | [], _, .nil => .nil
  | (k0, n) :: ks, (k1, p) :: xs, .cons h t => by
    obtain ⟨e1, _, e2⟩ := h
    have e1' : k0 = k1 := e1
    subst e1'
    have ih := KT.hits (A := A) (s := s) hy (ks := ks) t
    obtain ⟨t1, et⟩ : ∃ t, p.2 = .int n t := by
      have e3 : RelV (.int n) p.2 := e2
      exact e3
    have q := KT.atI hy k0
    rw [List.all_cons]
    cases ev : eqKI.valG' ls k0 with
    | none =>
      rw [ev] at q
      have z : decide ((none : Option Int) = some n) = false := decide_eq_false (fun e => nomatch e)
      rw [z, Bool.false_and]
      exact .miss q
    | some m =>
      rw [ev] at q
      obtain ⟨p2, t2, q1, q2⟩ := q
      refine .hit q1 ?_ ih
      have := PySem.W.keq_flat (A := A) (s := s) (PyProof.V.Flat.int (i := n) (t := t1)) (PyProof.V.Flat.int (i := m) (t := t2))
      rw [et, q2]
      have e : PyData.eqv (.int n) (.int m) = decide (some m = some n) := by
        simp only [PyData.eqv]
        by_cases z : n = m
        · subst z; simp
        · rw [show (n == m) = false by simpa using z]
          exact (decide_eq_false fun e => z (Option.some.inj e).symm).symm
      rw [e] at this
      exact this
def rEqDT : V → V → Hp → VK → Prop := fun x y H Q => ∃ a b ks ls, x = .ref a ∧ y = .ref b ∧ Rd H a (.dT (kvI ks)) ∧ Rd H b (.dT (kvI ls)) ∧ Q (.bl (eqKI ks ls)) H
theorem op_eqDT {X : Cx} (hu : X.A.units + 2 < cLine) : OpR X (compareOp .Eq) rEqDT := by
  intro pins s σ H x y v u Q I rx ry h
  obtain ⟨a, b, ks, ls, rfl, rfl, ha, hb, q⟩ := h
  cases rx
  cases ry
  obtain ⟨_, h1, xs, r, dd⟩ := dt_rd I.hok ha
  obtain ⟨_, h2, ys, r2, dd2⟩ := dt_rd I.hok hb
  have l1 : xs.length = ks.length := by rw [← Paired.length r]; exact List.length_map ..
  have l2 : ys.length = ls.length := by rw [← Paired.length r2]; exact List.length_map ..
  refine DT.eqH (r := ks.all fun kv => decide (eqKI.valG' ls kv.1 = some kv.2)) (tupleKind_room_in1 (by omega)) h1 h2 dd dd2 (by omega) (KT.hits r2 r) ?_
  refine ⟨.bl (eqKI ks ls), H, I, ?_, q⟩
  rw [l1, l2]; rfl
end L2
namespace Z
open PySem PySem.Spec PyProof.Rows L2
def intV : U → Option Int
  | .int i => some i
  | _ => none
def kvOf : List (List Key × U) → Option (List (List Key × Int))
  | [] => some []
  | (k, u) :: r => match intV u, kvOf r with
    | some i, some t => some ((k, i) :: t)
    | _, _ => none
def eqDTM (x y : U) (S : Sto) : Out U := match dcOf S x, dcOf S y with
  | some (.t ks), some (.t ls) => match kvOf ks, kvOf ls with
    | some k2, some l2 => .ok (.bl (eqKI k2 l2)) S
    | _, _ => .bad
  | _, _ => .bad
section
variable {ω : Om}
theorem kvOf_v {g : Gd} : ∀ {ks : List (List Key × U)} {vs : List (List Key × V)} {is : List (List Key × Int)}, RpF g ks vs → kvOf ks = some is → vs = kvI is
  | _, _, is, .nil, e => by cases e; rfl
  | (k, u) :: r, (k2, v) :: vs, is, .cons h t, e => by
    unfold kvOf at e
    cases e1 : intV u with
    | none => rw [e1] at e; cases e
    | some i =>
      rw [e1] at e
      cases e2 : kvOf r with
      | none => rw [e2] at e; cases e
      | some t2 =>
        rw [e2] at e
        cases e
        have ih := kvOf_v t e2
        obtain ⟨h1, h2⟩ := h
        have h1' : k = k2 := h1
        subst h1'
        unfold intV at e1
        split at e1
        · cases e1
          have h2' : v = .int i := h2.of_int
          rw [ih, h2']; rfl
        · cases e1
theorem s_eqDT : SOpw ω eqDTM rEqDT := fun g H S d e x y Q E hk k r1 r2 w => by
  unfold eqDTM at w
  split at w
  · rename_i ks ls e1 e2
    obtain ⟨a, rfl, vs, ha, hr⟩ := dc_at k r1 e1
    obtain ⟨b, rfl, ws, hb, hs⟩ := dc_at k r2 e2
    cases f1 : kvOf ks with
    | none => rw [f1] at w; exact w.elim
    | some k2 =>
      rw [f1] at w
      cases f2 : kvOf ls with
      | none => rw [f2] at w; exact w.elim
      | some l2 =>
        rw [f2] at w
        rw [kvOf_v hr f1] at ha
        rw [kvOf_v hs f2] at hb
        exact ⟨a, b, k2, l2, rfl, rfl, ha, hb, w.ok k rp_bl⟩
  · exact w.elim
end
end Z

namespace NE
open PySem PySem.Spec PyProof.Rows PySem.SeqAt
section
variable {M : Model} {prog : Program} {w : World} {A : Around} {E : Value → Shared → Prop} {s : Shared} {K : PySem.W.Frag} {x y C f : Addr} {ox : Obj} {od : Option Obj} {tb : Value}
theorem ifBound_ne {args : List Value} {Q : Option Value → Shared → Prop} (X : K.In s.heap) (I : PySem.W.InstAt s.heap x ox C od) (hs : PySem.W.findIn K (.ref C) "__ne__" = some (some (.builtin "object.__ne__")))
    (h : wpAny M A (call (.builtin "object.__ne__") (.ref x :: args)) (fun v => Q (some v)) E s) : wpAny M A (callSpecialIfBound? (.ref x) "__ne__" args) Q E s := by
  simp only [callSpecialIfBound?, bindSpecialIfBound?]
  refine wpAny_holding (wpAny_bind (wpAny_bind (wpAny_bind (I.type.here ((PySem.W.looks_findIn X hs).here ?_)))))
  refine wpAny_bind (wpAny_askSetting (wpAny_ite ?_))
  have fin : wpAny M A (call (.builtin "object.__ne__") ([.ref x] ++ args) >>= fun v => pure (some v)) Q E s := wpAny_bind (wpAny_mono h (fun v s' h' => wpAny_pure h') fun _ _ h' => h')
  split
  · exact wpAny_bind (wpAny_of_eq (F.cmp_object.ne.bind _) (wpAny_pure (by exact fin)))
  · exact wpAny_tryCatch (wpAny_bind (wpAny_of_eq (F.cmp_object.ne.bind _) (wpAny_pure (by exact fin))))
theorem entry_ne {Q : Fin → Shared → Prop} (hu : A.units < cLine) (X : K.In s.heap) (I : PySem.W.InstAt s.heap x ox C od) (hs : PySem.W.findIn K (.ref C) "__eq__" = some (some (.ref f))) (hf : PySem.W.isFn K (.ref f) = true)
    (hcall : wpAny (model prog w) A (call (.ref f) [.ref x, .ref y]) (fun v s' => ∃ b, v = .bool b ∧ Q (.done (.ret (.bool (!b)))) s') E s) :
    wpAny (model prog w) A (Builtin.«object.__ne__» ⟨[.ref x, .ref y], []⟩) Q E s := by
  unfold Builtin.«object.__ne__»
  repeat (first
    | with_reducible refine wpAny_cRoomFor hu ?_
    | (refine wpAny_bind (m := callSpecialIfBound? (.ref x) (Str.ofString "__eq__") [.ref y])
        (PySem.W.ifBound_K X I hs hf (wpAny_mono hcall (fun r s' hr => by
          obtain ⟨b, rfl, hq⟩ := hr
          repeat (first | exact hq | exact wpAny_pure hq | exact wpAny_truthy_bool hq | (refine wpAny_bind (m := truthy (.bool _)) (wpAny_truthy_bool ?_)) | wp_step)) fun _ _ e => e)))
    | wp_step)
theorem cmp_ne {Q : Value → Shared → Prop} (hu : A.units + 1 < cLine) (X : K.In s.heap) (I : PySem.W.InstAt s.heap x ox C od) (hb : PySem.W.Looks (model prog w) s.heap (typeOf (.ref y)) (.ref C)) (hm : PySem.W.mroIn K C (.type "object") = some true)
    (hn : PySem.W.findIn K (.ref C) "__ne__" = some (some (.builtin "object.__ne__"))) (hs : PySem.W.findIn K (.ref C) "__eq__" = some (some (.ref f))) (hf : PySem.W.isFn K (.ref f) = true)
    (hcall : wpAny (model prog w) A.in1 (call (.ref f) [.ref x, .ref y]) (fun v s' => ∃ b, v = .bool b ∧ Q (.bool (!b)) s') E s) : wpAny (model prog w) A (richCompare .NotEq (.ref x) (.ref y)) Q E s := by
  have one : wpAny (model prog w) A (tryCompare (.ref x) "__ne__" (.ref y)) (fun r s' => ∃ v, r = some v ∧ Q v s') E s := by
    unfold tryCompare
    refine wpAny_bind (ifBound_ne X I hn (wpAny_call (codeAny_call_builtin F.cmp_object.ne.plain F.cmpEntry_ne (PySem.W.check_slot F.cmpKind_ne F.cmpSplit_ne (I.type.andThen (PySem.W.looks_mroIn X hm)) (F.cmpArgs_ne _ _)
      (entry_ne (A := A.in1) (by show A.units + 1 < cLine; omega) X I hs hf (wpAny_mono hcall (fun v s' hv => ?_) fun _ _ e => e))))))
    obtain ⟨b, rfl, hq⟩ := hv
    first | exact ⟨b, rfl, wpAny_pure ⟨_, rfl, hq⟩⟩ | exact ⟨b, rfl, wpAny_pure (wpAny_pure ⟨_, rfl, hq⟩)⟩
  unfold richCompare
  simp only [oneThing_ref]
  refine wpAny_holding (wpAny_bind (wpAny_cRoomFor (by omega) ?_))
  rw [cmpInfo_NotEq]
  dsimp only
  refine wpAny_bind (I.type.here (wpAny_bind (hb.here ?_)))
  rw [show (Value.ref C != Value.ref C) = false from by simp]
  simp only [Bool.false_eq_true, if_false]
  refine wpAny_bind (wpAny_pure ?_)
  simp only [Bool.false_eq_true, if_false]
  refine wpAny_bind (wpAny_mono one (fun r s' z => ?_) fun _ _ e => e)
  obtain ⟨v, rfl, hq⟩ := z
  exact wpAny_pure hq
end
end NE
namespace Z
open PySem PySem.Spec PyProof.Rows L2
def rEqI (neg : Bool) (C : Addr) (sp : Sp) : V → V → Hp → VK → Prop := fun x y H Q => ∃ a b dx dy fs gs, x = .ref a ∧ y = .ref b ∧ H a = some (.ins C dx fs) ∧ H b = some (.ins C dy gs) ∧
  sp [x, y] H (fun v H' => ∃ r, v = .bl r ∧ Q (.bl (if neg = true then !r else r)) H') (fun _ _ _ => False)
theorem pass_no {X : Cx} {σ : St} : PassesAt (L2.CX X.prog X.w) X σ (fun _ _ _ => False) := fun pins H s e s' I c => by
  obtain ⟨_, _, _, _, _, _, _, _, _, _, _, _, z⟩ := c
  exact z.elim
theorem op_eqI {X : Cx} {k j : Nat} {C : Addr} {sp : Sp} {gV : List V → List V → List V} (M : Met (wdOf X) k C "__eq__" 2 [] gV sp) (hg : ∀ x y, gV [x, y] [] = [x, y]) (hr : Rm j X.A) (hj : k ≤ j) : OpR X (compareOp .Eq) (rEqI false C sp) := by
  intro pins s σ H x y v u Q I rx ry hq
  obtain ⟨a, b, dx, dy, fs, gs, rfl, rfl, ha, hb, hsp⟩ := hq
  cases rx
  cases ry
  obtain ⟨mA, J, _⟩ := ins_get I.hok ha
  obtain ⟨mB, J', _⟩ := ins_get I.hok hb
  obtain ⟨od, J, _⟩ := J.look
  obtain ⟨od', J', _⟩ := J'.look
  obtain ⟨m, hF⟩ := I.fr
  obtain ⟨f, fd, ps, g, F, hm, hbn⟩ := M.ex
  show wpAny (model X.prog X.w) X.A (richCompare .Eq (.ref a) (.ref b)) (EP X pins σ Q) X.xe s
  refine PySem.W.cmp_K (op := .Eq) (tb := .ref C) hr.r.units0 hF I.ok.mod.kin J J'.type (by simp [PySem.W.notFirst]) hm.at_ hm.fn ?_
  rw [← hg] at hsp
  refine wpAny_mono (run2 (us := [.ref a, .ref b]) (vs := [.ref a, .ref b]) (ws := []) (zs := []) (E := fun _ => fun _ _ _ => False) (σ := σ) F (hr.less hj) hbn pass_no I (.cons rfl (.cons rfl .nil)) .nil rfl rfl hsp) (fun r s' z => ?_) fun _ _ e => e
  obtain ⟨v, H', I', rv, r', rfl, q⟩ := z
  cases rv
  exact ⟨.bl r', H', I', rfl, q⟩
theorem run2i {X : Cx} {k n : Nat} {f : Addr} {fd : FuncData} {ps ks : List Str} {sp : Sp} {gV : List V → List V → List V} {g : List Value → List Value → List Value} {pins : List (Addr × Obj)} {σ : St} {H : Hp} {s : Shared} {Q : VK} {E : XK}
    {us ws : List Value} {vs zs : List V} (F : Fn (wdOf X) k f fd ps sp) (hr : Rm k X.A.in1) (hb : KBn X.K fd ps n ks g gV)
    (hx : PassesAt (L2.CX X.prog X.w) X σ E) (I : Inv X pins σ H s) (r : Vals vs us) (rz : Vals zs ws) (l1 : vs.length = n) (l2 : zs.length = ks.length)
    (h : sp (gV vs zs) H Q E) : wpAny (model X.prog X.w) X.A.in1 (call (.ref f) us (ks.zip ws)) (EP X pins σ Q) X.xe s := by
  have e1 : us.length = n := r.length ▸ l1
  have e2 : ws.length = ks.length := rz.length ▸ l2
  have e0 : Env0 X.prog X.w X.K X.mg X.base X.A.in1 X.stack s H := by
    have e := I.env0
    exact ⟨e.frames, e.mod, e.bs, e.bsz, e.funs, e.frf, e.hok, e.bare⟩
  refine wpAny_call (codeAny_mono (F.go X.A.in1 X.stack s H ⟨us, ks.zip ws⟩ (g us ws) (gV vs zs) Q E hr e0 (hb.to s us ws I.kIn e1 e2) (hb.rel r rz) h)
    fun r s' hq => ?_)
  have q := back (B := EP X pins σ Q) I (fun u s' c => hx pins H s u s' I c) (fun _ _ z => z) hq
  match r, q with
  | .error u, q => exact q
  | .ok (.ret u), q => exact q
theorem op_neI {X : Cx} {k j : Nat} {C : Addr} {sp : Sp} {gV : List V → List V → List V} (M : Met (wdOf X) k C "__eq__" 2 [] gV sp) (hg : ∀ x y, gV [x, y] [] = [x, y]) (hr : Rm j X.A) (hj : k + 1 ≤ j)
    (hm : PySem.W.mroIn X.K C (.type "object") = some true) (hn : PySem.W.findIn X.K (.ref C) "__ne__" = some (some (.builtin "object.__ne__"))) : OpR X (compareOp .NotEq) (rEqI true C sp) := by
  intro pins s σ H x y v u Q I rx ry hq
  obtain ⟨a, b, dx, dy, fs, gs, rfl, rfl, ha, hb, hsp⟩ := hq
  cases rx
  cases ry
  obtain ⟨mA, J, _⟩ := ins_get I.hok ha
  obtain ⟨mB, J', _⟩ := ins_get I.hok hb
  obtain ⟨od, J, _⟩ := J.look
  obtain ⟨od', J', _⟩ := J'.look
  obtain ⟨f, fd, ps, g, F, hmt, hbn⟩ := M.ex
  have hr1 : Rm (k + 1) X.A := hr.less hj
  show wpAny (model X.prog X.w) X.A (richCompare .NotEq (.ref a) (.ref b)) (EP X pins σ Q) X.xe s
  refine NE.cmp_ne (show X.A.in1.units < cLine from hr1.r.in1.units0) I.kIn J J'.type hm hn hmt.at_ hmt.fn ?_
  rw [← hg] at hsp
  refine wpAny_mono (run2i (us := [.ref a, .ref b]) (vs := [.ref a, .ref b]) (ws := []) (zs := []) (E := fun _ _ _ => False) (σ := σ) F ⟨hr1.r.in1, hr1.g⟩ hbn pass_no I (.cons rfl (.cons rfl .nil)) .nil rfl rfl hsp) (fun r s' z => ?_) fun _ _ e => e
  obtain ⟨v, H', I', rv, r', rfl, q⟩ := z
  cases rv
  exact ⟨r', rfl, .bl (!r'), H', I', rfl, q⟩
def eqIM (c : Str) (m : MF) (neg : Bool) (x y : U) (S : Sto) : Out U := if insM c "__eq__" x S = true ∧ insM c "__eq__" y S = true then (match m [x, y] S with
  | .ok (.bl b) S1 => .ok (.bl (if neg = true then !b else b)) S1
  | _ => .bad) else .bad
section
variable {ω : Om}
theorem ins_of {g : Gd} {H : Hp} {S : Sto} {c nm : Str} {d : U} {x : V} (k : Cor g H S) (r : Rp g d x) (h : insM c nm d S = true) (hk : g.ca = ω) : ∃ a dx vs, x = .ref a ∧ H a = some (.ins (ω.ad c) dx vs) := by
  unfold insM at h
  split at h
  · rename_i n'
    obtain ⟨a, ha, rfl⟩ := r.of_cel
    split at h
    · rename_i c' fs e1
      rw [Bool.and_eq_true, decide_eq_true_eq, Option.isNone_iff_eq_none] at h
      obtain ⟨hc, hl⟩ := h
      subst hc
      obtain ⟨ki, dx, vs, e2, hr⟩ := k.get ha e1
      exact ⟨a, dx, vs, rfl, by rw [← hk]; exact e2⟩
    · cases h
  · cases h
theorem s_eqI {c : Str} {m : MF} {neg : Bool} : SOpw ω (eqIM c m neg) (rEqI neg (ω.ad c) (spM ω m)) := fun g H S d e x y Q E hk k r1 r2 w => by
  unfold eqIM at w
  split at w
  · rename_i hh
    obtain ⟨a, dx, fs, rfl, ha⟩ := ins_of k r1 hh.1 hk
    obtain ⟨b, dy, gs, rfl, hb⟩ := ins_of k r2 hh.2 hk
    refine ⟨a, b, dx, dy, fs, gs, rfl, rfl, ha, hb, g, S, [d, e], hk, k, rps_cons r1 (rps_cons r2 rps_nil), ?_⟩
    cases q : m [d, e] S with
    | bad => rw [q] at w; exact w.elim
    | ex u S1 => rw [q] at w; exact w.elim
    | ok u S1 =>
      rw [q] at w
      cases u with
      | bl b =>
        intro g' H' v xx cc rr
        have ev : v = .bl b := rr.of_bl
        subst ev
        exact ⟨b, rfl, w g' H' _ xx cc rp_bl⟩
      | _ => exact w.elim
  · exact w.elim
end
end Z
namespace Z
open PySem PySem.Spec PyProof.Rows L2
theorem hu3 {A : Around} (h : Rm 1 A) : A.units + 2 < cLine := by have := h.r.un; omega
end Z

namespace Z
open PySem PySem.Spec PyProof.Rows L2

/-! ### what stays -/
/-- all that P does not name stands as it stood -/
def Fr (P : Nat → Prop) (S S' : Sto) : Prop := S.length ≤ S'.length ∧ ∀ i, i < S.length → ¬ P i → S'[i]? = S[i]?
abbrev nop : Nat → Prop := fun _ => False
section
variable {P P' : Nat → Prop} {S S1 S2 S' : Sto} {i n : Nat} {c : Cl}
theorem Fr.rfl : Fr P S S := ⟨Nat.le_refl _, fun _ _ _ => Eq.refl _⟩
theorem Fr.trans (x : Fr P S S1) (y : Fr P' S1 S2) (h : ∀ i, i < S.length → P' i → P i) : Fr P S S2 :=
  ⟨Nat.le_trans x.1 y.1, fun i l n => (y.2 i (Nat.lt_of_lt_of_le l x.1) fun q => n (h i l q)).trans (x.2 i l n)⟩
theorem Fr.tr (x : Fr P S S1) (y : Fr P S1 S2) : Fr P S S2 := x.trans y fun _ _ h => h
theorem Fr.wide (x : Fr P S S1) (h : ∀ i, i < S.length → P i → P' i) : Fr P' S S1 := ⟨x.1, fun i l n => x.2 i l fun q => n (h i l q)⟩
theorem Fr.any (x : Fr nop S S1) : Fr P S S1 := x.wide fun _ _ h => h.elim
theorem Fr.app {t : Sto} : Fr P S (S ++ t) := ⟨by simp, fun i l _ => List.getElem?_append_left l⟩
theorem Fr.set (h : P n) : Fr P S (S.set n c) := ⟨by simp, fun i l q => List.getElem?_set_ne (fun e => q (by rw [← e]; exact h))⟩
theorem Fr.get (x : Fr P S S') (h : S[i]? = some c) (n : ¬ P i) : S'[i]? = some c := (x.2 i (List.getElem?_eq_some_iff.mp h).1 n).trans h
theorem lt_of_get (h : S[i]? = some c) : i < S.length := (List.getElem?_eq_some_iff.mp h).1
theorem get_set (h : i < S.length) : (S.set i c)[i]? = some c := List.getElem?_set_self h
theorem get_new {t : Sto} : (S ++ c :: t)[S.length]? = some c := by simp
end

/-! ### loops -/
section
variable {gm : MG} {m : MS} {chk : Sto → Prop} {us : List U} {ρ : Rho} {S S1 : Sto}
theorem forL_inv (P : Nat → Rho → Sto → Prop) (hc : ∀ i ρ S, P i ρ S → chk S)
    (hs : ∀ i d ρ S, us[i]? = some d → P i ρ S → ∃ ρ1 ρ' S', gm d ρ = some ρ1 ∧ m ρ1 S = .nx ρ' S' ∧ P (i + 1) ρ' S') :
    ∀ (k i : Nat) (ρ : Rho) (S : Sto), i + k = us.length → P i ρ S → ∃ ρ' S', forL gm m chk (us.drop i) ρ S = .nx ρ' S' ∧ P us.length ρ' S'
  | 0, i, ρ, S, e, h => by
    have e' : i = us.length := by omega
    subst e'
    rw [List.drop_length, forL_nil, if_pos (hc _ _ _ h)]
    exact ⟨ρ, S, rfl, h⟩
  | k + 1, i, ρ, S, e, h => by
    have l : i < us.length := by omega
    rw [List.drop_eq_getElem_cons l, forL_cons, if_pos (hc _ _ _ h)]
    obtain ⟨ρ1, ρ', S', e1, e2, h2⟩ := hs i us[i] ρ S (List.getElem?_eq_getElem l) h
    rw [e1]
    dsimp only
    rw [e2, andThen_nx]
    exact forL_inv P hc hs k (i + 1) ρ' S' (by omega) h2
theorem mFor_inv {mi : ME IT} {src : Option Nat} (P : Nat → Rho → Sto → Prop) (e : mi ρ S = .ok ⟨us, src⟩ S1) (h0 : P 0 ρ S1) (hc : ∀ i ρ S, P i ρ S → (IT.mk us src).chk S)
    (hs : ∀ i d ρ S, us[i]? = some d → P i ρ S → ∃ ρ1 ρ' S', gm d ρ = some ρ1 ∧ m ρ1 S = .nx ρ' S' ∧ P (i + 1) ρ' S') :
    ∃ ρ' S', mFor mi gm m ρ S = .nx ρ' S' ∧ P us.length ρ' S' := by
  unfold mFor
  rw [e, thenS_ok]
  exact forL_inv P hc hs us.length 0 ρ S1 (by omega) h0
theorem chk_none {us : List U} : (IT.mk us none).chk S = True := rfl
theorem while_inv {t : ME Bool} {b : MS} (P Q : Rho → Sto → Prop) (μ : Rho → Sto → Nat)
    (h : ∀ ρ S, P ρ S → (t ρ S = .ok false S ∧ Q ρ S) ∨ (t ρ S = .ok true S ∧ ∃ ρ' S', b ρ S = .nx ρ' S' ∧ P ρ' S' ∧ μ ρ' S' < μ ρ S)) :
    ∀ (n : Nat) (ρ : Rho) (S : Sto), μ ρ S ≤ n → P ρ S → ∃ ρ' S', mWhile t b ρ S = .nx ρ' S' ∧ Q ρ' S'
  | n, ρ, S, l, p => by
    rcases h ρ S p with ⟨e, q⟩ | ⟨e, ρ', S', e2, p2, lt⟩
    · exact ⟨ρ, S, mWhile_f e, q⟩
    · rw [mWhile_t e, e2, andThen_nx]
      match n, l with
      | 0, l => omega
      | n + 1, l => exact while_inv P Q μ h n ρ' S' (by omega) p2
theorem lcL_fm {tt : ME Bool} {te : ME U} (p : U → Bool) (f : U → U) (hc : chk S) : ∀ {us : List U}, (∀ d ∈ us, ∃ ρ1, gm d ρ = some ρ1 ∧ tt ρ1 S = .ok (p d) S ∧ (p d = true → te ρ1 S = .ok (f d) S)) → lcL gm tt te chk ρ us S = .ok ((us.filter p).map f) S
  | [], _ => by rw [lcL_nil, if_pos hc]; rfl
  | d :: us, h => by
    obtain ⟨ρ1, e1, e2, e3⟩ := h d List.mem_cons_self
    have ih := lcL_fm p f hc fun x m => h x (List.mem_cons_of_mem _ m)
    rw [lcL_cons, if_pos hc, e1]
    dsimp only
    rw [e2]
    cases ep : p d with
    | true => dsimp only; rw [e3 ep]; dsimp only; rw [ih, List.filter_cons_of_pos ep]; rfl
    | false => dsimp only; rw [ih, List.filter_cons_of_neg (by rw [ep]; exact Bool.false_ne_true)]
theorem lcL_map {te : ME U} (f : U → U) (hc : chk S) {us : List U} (h : ∀ d ∈ us, ∃ ρ1, gm d ρ = some ρ1 ∧ te ρ1 S = .ok (f d) S) : lcL gm mYes te chk ρ us S = .ok (us.map f) S := by
  have q := lcL_fm (tt := mYes) (te := te) (fun _ => true) f hc (us := us) fun d m => by
    obtain ⟨ρ1, e1, e2⟩ := h d m
    exact ⟨ρ1, e1, rfl, fun _ => e2⟩
  rw [q, List.filter_eq_self.mpr fun _ _ => rfl]
end

/-! ### what fits -/
mutual
def okD : D → Bool
  | .int i => decide (i.natAbs < 10 ^ 570)
  | .str x => PyData.strOk x
  | .lst xs => okDs xs
  | .tup xs => okDs xs
  | .non | .bl _ => true
  | .dct _ _ | .exc _ _ => false
def okDs : List D → Bool
  | [] => true
  | x :: xs => okD x && okDs xs
end
mutual
def wt : D → Nat
  | .str x => x.cps.size
  | .lst xs => wts xs
  | .tup xs => wts xs
  | .non | .bl _ | .int _ | .dct _ _ | .exc _ _ => 0
def wts : List D → Nat
  | [] => 0
  | x :: xs => wt x + 1 + wts xs
end
theorem p570 : (10 : Nat) ^ 570 < 2 ^ 1920 := by decide +kernel
theorem okDs_mem : ∀ {xs : List D}, okDs xs = true ↔ ∀ x ∈ xs, okD x = true
  | [] => by unfold okDs; simp
  | x :: xs => by unfold okDs; rw [Bool.and_eq_true_iff, okDs_mem]; simp
mutual
theorem sm_of : ∀ d : D, okD d = true → sm d = true
  | .non, _ => by unfold sm; rfl
  | .bl _, _ => by unfold sm; rfl
  | .int i, h => by
    unfold okD at h
    unfold sm smI
    have h1 := of_decide_eq_true h
    refine decide_eq_true ?_
    by_cases z : i.natAbs = 0
    · rw [z]; decide
    · exact (Nat.log2_lt z).mpr (Nat.lt_trans h1 p570)
  | .str x, h => by unfold okD at h; unfold sm; exact h
  | .lst xs, h => by unfold okD at h; unfold sm; exact sms_of xs h
  | .tup xs, h => by unfold okD at h; unfold sm; exact sms_of xs h
  | .dct _ _, h => by unfold okD at h; cases h
  | .exc _ _, h => by unfold okD at h; cases h
theorem sms_of : ∀ ds : List D, okDs ds = true → sms ds = true
  | [], _ => by unfold sms; rfl
  | d :: ds, h => by
    unfold okDs at h
    obtain ⟨h1, h2⟩ := Bool.and_eq_true_iff.mp h
    unfold sms
    rw [sm_of d h1, sms_of ds h2]; rfl
end
mutual
theorem txt_le : ∀ d : D, okD d = true → (txt d).length ≤ 573 * wt d + 571
  | .non, _ => by unfold txt; show 4 ≤ _; omega
  | .bl b, _ => by
    have e : (txt (.bl b)).length ≤ 5 := by unfold txt; cases b <;> decide
    omega
  | .int i, h => by
    unfold okD at h
    have e : (txt (.int i)).length ≤ 571 := by
      unfold txt
      have q := int_text_length_le10 (k := 570) (by decide) (of_decide_eq_true h)
      show (Str.ofString (toString i)).length ≤ 571
      rw [PySem.ofString_length]; exact q
    omega
  | .str x, h => by
    unfold okD PyData.strOk at h
    have hx : ∀ c ∈ x.cps.toList, c < 16 ^ 8 := by
      intro c hcm
      have := (Array.all_eq_true_iff_forall_mem.mp h) c (Array.mem_toList_iff.mp hcm)
      have e : (16 : Nat) ^ 8 = 4294967296 := by decide
      have h2 : c < 0x110000 := by simpa using this
      omega
    have e := StrLaws.reprText_len x hx
    have e2 : x.length = x.cps.size := rfl
    unfold txt wt
    omega
  | .lst xs, h => by
    unfold okD at h
    have h1 := txts_le xs h
    have h2 := listText_len_le (txts xs)
    have h3 := txts_len xs
    unfold txt wt
    omega
  | .tup xs, h => by
    unfold okD at h
    have h1 := txts_le xs h
    have h2 := tupleText_len_le (txts xs)
    have h3 := txts_len xs
    unfold txt wt
    omega
  | .dct _ _, h => by unfold okD at h; cases h
  | .exc _ _, h => by unfold okD at h; cases h
theorem txts_le : ∀ ds : List D, okDs ds = true → ((txts ds).map (·.length)).sum + 2 * ds.length ≤ 573 * wts ds
  | [], _ => by unfold txts wts; simp
  | d :: ds, h => by
    unfold okDs at h
    obtain ⟨h1, h2⟩ := Bool.and_eq_true_iff.mp h
    have e1 := txt_le d h1
    have e2 := txts_le ds h2
    unfold txts wts
    simp only [List.map_cons, List.sum_cons, List.length_cons]
    omega
end
mutual
theorem plE_of : ∀ d : D, okD d = true → plE d = true
  | .non, _ => by unfold plE; rfl
  | .bl _, _ => by unfold plE; rfl
  | .int _, _ => by unfold plE; rfl
  | .str _, _ => by unfold plE; rfl
  | .lst xs, h => by unfold okD at h; unfold plE; exact plEs_of xs h
  | .tup xs, h => by unfold okD at h; unfold plE; exact plEs_of xs h
  | .dct _ _, h => by unfold okD at h; cases h
  | .exc _ _, h => by unfold okD at h; cases h
theorem plEs_of : ∀ ds : List D, okDs ds = true → plEs ds = true
  | [], _ => by unfold plEs; rfl
  | d :: ds, h => by
    unfold okDs at h
    obtain ⟨h1, h2⟩ := Bool.and_eq_true_iff.mp h
    unfold plEs
    rw [plE_of d h1, plEs_of ds h2]; rfl
end
/-- data of moderate size may be compared and shown -/
structure Fi (d : D) : Prop where
  ok : okD d = true
  dp : dep d ≤ 64
  w : wt d ≤ 17000
theorem Fi.e {d : D} (h : Fi d) : okE d = true := by unfold okE; rw [plE_of d h.ok, sm_of d h.ok, decide_eq_true h.dp]; rfl
theorem Fi.r {d : D} (h : Fi d) : okR d := ⟨sm_of d h.ok, by have := txt_le d h.ok; have := h.w; omega, h.dp⟩
/-- data of any kind that may be shown: its text has at most B signs, it is at most n deep -/
structure Rk (B n : Nat) (d : D) : Prop where
  s : sm d = true
  l : (txt d).length ≤ B
  p : dep d ≤ n
theorem Rk.r {B n : Nat} {d : D} (h : Rk B n d) (hB : B ≤ 10000000) (hn : n ≤ 64) : okR d := ⟨h.s, Nat.le_trans h.l hB, Nat.le_trans h.p hn⟩
theorem Rk.le {B B' n n' : Nat} {d : D} (h : Rk B n d) (hB : B ≤ B') (hn : n ≤ n') : Rk B' n' d := ⟨h.s, Nat.le_trans h.l hB, Nat.le_trans h.p hn⟩
theorem rk_of {W n : Nat} {d : D} (h : okD d = true) (w : wt d ≤ W) (p : dep d ≤ n) : Rk (573 * W + 571) n d := ⟨sm_of d h, by have := txt_le d h; omega, p⟩
theorem rks {B n : Nat} : ∀ {ds : List D}, (∀ x ∈ ds, Rk B n x) → sms ds = true ∧ ((txts ds).map (·.length)).sum ≤ B * ds.length ∧ deps ds ≤ n
  | [], _ => ⟨by unfold sms; rfl, by unfold txts; simp, by unfold deps; exact Nat.zero_le _⟩
  | d :: ds, h => by
    obtain ⟨a, b, c⟩ := rks (ds := ds) fun x m => h x (List.mem_cons_of_mem _ m)
    have q := h d List.mem_cons_self
    refine ⟨by unfold sms; rw [q.s, a]; rfl, ?_, by unfold deps; have := q.p; omega⟩
    unfold txts
    have := q.l
    simp only [List.map_cons, List.sum_cons, List.length_cons, Nat.mul_add]
    omega
theorem rk_tup {B n : Nat} {ds : List D} (h : ∀ x ∈ ds, Rk B n x) : Rk (B * ds.length + 2 * ds.length + 3) (n + 1) (.tup ds) := by
  obtain ⟨a, b, c⟩ := rks h
  refine ⟨by unfold sm; exact a, ?_, by unfold dep; omega⟩
  have h2 := tupleText_len_le (txts ds)
  have h3 := txts_len ds
  unfold txt
  omega
theorem rk_lst {B n : Nat} {ds : List D} (h : ∀ x ∈ ds, Rk B n x) : Rk (B * ds.length + 2 * ds.length + 3) (n + 1) (.lst ds) := by
  obtain ⟨a, b, c⟩ := rks h
  refine ⟨by unfold sm; exact a, ?_, by unfold dep; omega⟩
  have h2 := listText_len_le (txts ds)
  have h3 := txts_len ds
  unfold txt
  omega
abbrev uI (ns : List Int) : List U := ns.map U.int
theorem okDs_ints {ns : List Int} (h : ∀ n ∈ ns, n.natAbs < 10 ^ 570) : okDs (dI ns) = true := by
  rw [okDs_mem]
  intro x hx
  obtain ⟨n, hn, rfl⟩ := List.mem_map.mp hx
  unfold okD
  exact decide_eq_true (h n hn)
theorem deps_ints : ∀ ns : List Int, deps (dI ns) = 0
  | [] => by unfold deps; rfl
  | n :: ns => by
    show deps (.int n :: dI ns) = 0
    unfold deps dep
    rw [deps_ints ns]; rfl
theorem wts_ints : ∀ ns : List Int, wts (dI ns) = ns.length
  | [] => by unfold wts; rfl
  | n :: ns => by
    show wts (.int n :: dI ns) = _
    unfold wts wt
    rw [wts_ints ns, List.length_cons]; omega
theorem fit_ints {ns : List Int} (h : ∀ n ∈ ns, n.natAbs < 10 ^ 570) (l : ns.length ≤ 17000) : Fi (.lst (dI ns)) :=
  ⟨by unfold okD; exact okDs_ints h, by unfold dep; rw [deps_ints]; omega, by unfold wt; rw [wts_ints]; exact l⟩
theorem fit_int {n : Int} (h : n.natAbs < 10 ^ 570) : Fi (.int n) := ⟨by unfold okD; exact decide_eq_true h, by unfold dep; omega, by unfold wt; omega⟩
theorem optMap_ints {S : Sto} {k : Nat} : ∀ ns : List Int, optMap (res S (k + 1)) (uI ns) = some (dI ns)
  | [] => rfl
  | n :: ns => by
    show optMap (res S (k + 1)) (.int n :: uI ns) = _
    unfold optMap
    rw [optMap_ints ns]; rfl
theorem res_intsC {S : Sto} {n k : Nat} {ns : List Int} (h : S[n]? = some (.lst (uI ns))) : res S (k + 2) (.cel n) = some (.lst (dI ns)) := by
  unfold res
  dsimp only
  rw [h]
  show (optMap (res S (k + 1)) (uI ns)).map D.lst = _
  rw [optMap_ints]; rfl
theorem res_intsL {S : Sto} {k : Nat} {ns : List Int} : res S (k + 2) (.lst (uI ns)) = some (.lst (dI ns)) := by
  show (optMap (res S (k + 1)) (uI ns)).map D.lst = _
  rw [optMap_ints]; rfl
theorem res_intsT {S : Sto} {k : Nat} {ns : List Int} : res S (k + 2) (.tup (uI ns)) = some (.tup (dI ns)) := by
  show (optMap (res S (k + 1)) (uI ns)).map D.tup = _
  rw [optMap_ints]; rfl
/-- equal things -/
theorem eqM_res {S : Sto} {x y : U} {d e : D} (hx : res S 9 x = some d) (hy : res S 9 y = some e) (fd : Fi d) (fe : Fi e) (hi : ∀ i j, x = .int i → y = .int j → eqD d e = decide (i = j) := by intro i j h; cases h) (hs : ∀ i j, x = .str i → y = .str j → eqD d e = decide (i = j) := by intro i j h; cases h) :
    eqM x y S = .ok (.bl (eqD d e)) S := by
  unfold eqM
  split
  · rename_i i j; rw [hi i j rfl rfl]
  · rename_i i j; rw [hs i j rfl rfl]
  · rw [hx, hy]; dsimp only; rw [if_pos ⟨fd.e, fe.e⟩]
theorem reprM_res {S : Sto} {x : U} {d : D} (hx : res S 9 x = some d) (fd : okR d) : reprM x S = .ok (.str (txt d)) S := by
  unfold reprM
  rw [hx]; dsimp only; rw [if_pos fd]
theorem eqM_str {S : Sto} {x y : Str} : eqM (.str x) (.str y) S = .ok (.bl (decide (x = y))) S := rfl
/-! ### items -/
theorem at3_0 {α : Type} {x y z : α} : atI [x, y, z] 0 = some x := rfl
theorem at3_1 {α : Type} {x y z : α} : atI [x, y, z] 1 = some y := rfl
theorem at3_2 {α : Type} {x y z : α} : atI [x, y, z] 2 = some z := rfl
theorem at_nat {α : Type} {xs : List α} {i : Int} {n : Nat} (h : i = n) (l : n < xs.length) : atI xs i = xs[n]? := by
  subst h
  unfold atI
  rw [show ixN xs.length (n : Int) = some n by unfold ixN; simp; omega]
  rfl
theorem setIx_cel {S : Sto} {n j : Nat} {k : Int} {d : U} {ws : List U} (h : S[n]? = some (.lst ws)) (e : ixN ws.length k = some j) : setIx (.cel n) (.int k) d S = some (S.set n (.lst (ws.set j d))) := by
  unfold setIx celL
  dsimp only
  rw [h]
  dsimp only
  rw [e]
theorem ixM_cel {S : Sto} {n : Nat} {k : Int} {d : U} {ws : List U} (h : S[n]? = some (.lst ws)) (e : atI ws k = some d) : ixM (.cel n) (.int k) S = .ok d S := by
  unfold ixM sqOf lsOf
  dsimp only
  rw [h]
  dsimp only
  rw [e]
theorem ixM_lst {S : Sto} {k : Int} {d : U} {ws : List U} (e : atI ws k = some d) : ixM (.lst ws) (.int k) S = .ok d S := by
  unfold ixM sqOf lsOf
  dsimp only
  rw [e]
theorem appM_cel {S : Sto} {n : Nat} {d : U} {ws : List U} (h : S[n]? = some (.lst ws)) (e : ws.length < 10000000) : appM (.cel n) [d] S = .ok .non (S.set n (.lst (ws ++ [d]))) := by
  unfold appM celL
  dsimp only
  rw [h]
  dsimp only
  rw [if_pos e]
theorem revM_cel {S : Sto} {n : Nat} {ws : List U} (h : S[n]? = some (.lst ws)) : revM (.cel n) S = .ok .non (S.set n (.lst ws.reverse)) := by
  unfold revM celL
  dsimp only
  rw [h]
theorem lsOf_cel {S : Sto} {n : Nat} {ws : List U} (h : S[n]? = some (.lst ws)) : lsOf S (.cel n) = some ws := by
  unfold lsOf
  dsimp only
  rw [h]
@[simp] theorem lsOf_lst {S : Sto} {ws : List U} : lsOf S (.lst ws) = some ws := rfl
theorem mDef_f {n m : Nat} {b : MS} {us : List U} {S : Sto} (h : us.length = n) : mDef false n m b us S = (b (us.map some ++ List.replicate m none) S).out := by
  unfold mDef
  rw [if_pos h, if_neg Bool.false_ne_true]
@[simp] theorem out_rt {d : U} {S : Sto} : (SO.rt d S).out = .ok d S := rfl
@[simp] theorem out_nx {ρ : Rho} {S : Sto} : (SO.nx ρ S).out = .ok .non S := rfl
@[simp] theorem out_ex {e : U} {ρ : Rho} {S : Sto} : (SO.ex e ρ S).out = .ex e S := rfl
@[simp] theorem addM_i {c : Bool} {i j : Int} {S : Sto} : addM c (.int i) (.int j) S = .ok (.int (i + j)) S := rfl
@[simp] theorem subM_i {i j : Int} {S : Sto} : subM (.int i) (.int j) S = .ok (.int (i - j)) S := rfl
@[simp] theorem negM_i {i : Int} {S : Sto} : negM (.int i) S = .ok (.int (-i)) S := rfl
@[simp] theorem ltM_i {i j : Int} {S : Sto} : ltM (.int i) (.int j) S = .ok (.bl (decide (i < j))) S := rfl
@[simp] theorem leM_i {i j : Int} {S : Sto} : leM (.int i) (.int j) S = .ok (.bl (decide (i ≤ j))) S := rfl
@[simp] theorem gtM_i {i j : Int} {S : Sto} : gtM (.int i) (.int j) S = .ok (.bl (decide (j < i))) S := rfl
@[simp] theorem geM_i {i j : Int} {S : Sto} : geM (.int i) (.int j) S = .ok (.bl (decide (j ≤ i))) S := rfl
@[simp] theorem eqM_i {i j : Int} {S : Sto} : eqM (.int i) (.int j) S = .ok (.bl (decide (i = j))) S := rfl
@[simp] theorem neM_i {i j : Int} {S : Sto} : neM (.int i) (.int j) S = .ok (.bl (!decide (i = j))) S := rfl
@[simp] theorem max2M_i {i j : Int} {S : Sto} : max2M (.int i) (.int j) S = .ok (.int (max i j)) S := by
  show Out.ok (U.int (if j > i then j else i)) S = _
  rw [show (if j > i then j else i) = max i j by split <;> omega]
@[simp] theorem min2M_i {i j : Int} {S : Sto} : min2M (.int i) (.int j) S = .ok (.int (min i j)) S := by
  show Out.ok (U.int (if j < i then j else i)) S = _
  rw [show (if j < i then j else i) = min i j by split <;> omega]
theorem mulM_i {c : Bool} {i j : Int} {S : Sto} (h : (-(10 ^ 75) < i ∧ i < 10 ^ 75) ∧ -(10 ^ 75) < j ∧ j < 10 ^ 75) : mulM c (.int i) (.int j) S = .ok (.int (i * j)) S := by
  unfold mulM
  dsimp only
  rw [if_pos ⟨ltBig_of h.1, ltBig_of h.2⟩]
theorem divM_i {i j : Int} {S : Sto} (h : 0 < j ∧ j < 10 ^ 75) : divM (.int i) (.int j) S = .ok (.int (i / j)) S := by
  unfold divM
  dsimp only
  rw [if_pos h]
theorem modM_i {i j : Int} {S : Sto} (h : 0 < j) : modM (.int i) (.int j) S = .ok (.int (i % j)) S := by
  unfold modM
  dsimp only
  rw [if_pos h]
theorem powM_i {i j : Int} {S : Sto} (h : (0 ≤ j ∧ j ≤ 1000000) ∧ -(2 ^ 64) < i ∧ i < 2 ^ 64) : powM (.int i) (.int j) S = .ok (.int (i ^ j.toNat)) S := by
  unfold powM
  dsimp only
  rw [if_pos ⟨h.1.1, h.1.2, by omega⟩]
theorem shlM_i {i j : Int} {S : Sto} (h : (0 ≤ j ∧ j ≤ 100000) ∧ -(10 ^ 75) < i ∧ i < 10 ^ 75) : shlM (.int i) (.int j) S = .ok (.int (i * 2 ^ j.toNat)) S := by
  unfold shlM
  dsimp only
  rw [if_pos ⟨h.1.1, h.1.2, ltBig_of h.2⟩]
@[simp] theorem repl_0 {α : Type} {a : α} : List.replicate 0 a = [] := rfl
@[simp] theorem repl_s {α : Type} {a : α} {n : Nat} : List.replicate (n + 1) a = a :: List.replicate n a := rfl
/-! ### what a run ends in -/
def Out.Sat {α : Type} (o : Out α) (Q : α → Sto → Prop) : Prop := match o with
  | .ok a S => Q a S
  | _ => False
def SO.Sat (o : SO) (N : Rho → Sto → Prop) (R : U → Sto → Prop) : Prop := match o with
  | .nx ρ S => N ρ S
  | .rt d S => R d S
  | _ => False
section
variable {α β : Type} {o : Out α} {k : α → Sto → Out β} {ks : α → Sto → SO} {Q Q1 : α → Sto → Prop} {Q' : β → Sto → Prop} {N N1 : Rho → Sto → Prop} {R R1 QU : U → Sto → Prop} {so : SO} {ρ : Rho} {S : Sto} {a : α} {d : U} {c : Bool} {i j : Int}
@[simp] theorem sat_ok : (Out.ok a S).Sat Q ↔ Q a S := Iff.rfl
@[simp] theorem sat_bad : (Out.bad : Out α).Sat Q ↔ False := Iff.rfl
@[simp] theorem sat_rt : (SO.rt d S).Sat N R ↔ R d S := Iff.rfl
@[simp] theorem sat_nx : (SO.nx ρ S).Sat N R ↔ N ρ S := Iff.rfl
@[simp] theorem sat_badS : SO.bad.Sat N R ↔ False := Iff.rfl
@[simp] theorem sat_bind : (o.bind k).Sat Q' ↔ o.Sat fun a S => (k a S).Sat Q' := by cases o <;> exact Iff.rfl
@[simp] theorem sat_thenS : (o.thenS ρ ks).Sat N R ↔ o.Sat fun a S => (ks a S).Sat N R := by cases o <;> exact Iff.rfl
@[simp] theorem sat_andThen {kk : Rho → Sto → SO} : (so.andThen kk).Sat N R ↔ so.Sat (fun ρ S => (kk ρ S).Sat N R) R := by cases so <;> exact Iff.rfl
@[simp] theorem sat_out : so.out.Sat R ↔ so.Sat (fun _ S => R .non S) R := by cases so <;> exact Iff.rfl
@[simp] theorem sat_ite {p : Prop} [Decidable p] {o : Out α} : (if p then o else .bad).Sat Q ↔ (p ∧ o.Sat Q) := by
  by_cases h : p
  · rw [if_pos h]; exact ⟨fun x => ⟨h, x⟩, fun x => x.2⟩
  · rw [if_neg h]; exact ⟨fun x => x.elim, fun x => h x.1⟩
theorem _root_.Z.Out.Sat.use (h : o.Sat Q) (w : ∀ a S, Q a S → Q1 a S) : o.Sat Q1 := by
  cases o with
  | ok a S => exact w a S h
  | ex e S => exact h
  | bad => exact h
theorem _root_.Z.SO.Sat.use (h : so.Sat N R) (w : ∀ a S, N a S → N1 a S) (w' : ∀ a S, R a S → R1 a S) : so.Sat N1 R1 := by
  cases so with
  | nx ρ S => exact w ρ S h
  | rt d S => exact w' d S h
  | ex e ρ S => exact h
  | bad => exact h
theorem _root_.Z.Out.Sat.eq (h : o.Sat Q) : ∃ a S, o = .ok a S ∧ Q a S := by
  cases o with
  | ok a S => exact ⟨a, S, rfl, h⟩
  | ex e S => exact h.elim
  | bad => exact h.elim
theorem sat_of (e : o = .ok a S) (h : Q a S) : o.Sat Q := by rw [e]; exact h
theorem satS_nx (e : so = .nx ρ S) (h : N ρ S) : so.Sat N R := by rw [e]; exact h
@[simp] theorem sat_mul : (mulM c (.int i) (.int j) S).Sat QU ↔ ((ltBig i ∧ ltBig j) ∧ QU (.int (i * j)) S) := by unfold mulM; exact sat_ite
@[simp] theorem sat_div : (divM (.int i) (.int j) S).Sat QU ↔ ((0 < j ∧ j < 10 ^ 75) ∧ QU (.int (i / j)) S) := by unfold divM; exact sat_ite
@[simp] theorem sat_mod : (modM (.int i) (.int j) S).Sat QU ↔ (0 < j ∧ QU (.int (i % j)) S) := by unfold modM; exact sat_ite
@[simp] theorem sat_pow : (powM (.int i) (.int j) S).Sat QU ↔ ((0 ≤ j ∧ j ≤ 1000000 ∧ i.natAbs < 2 ^ 64) ∧ QU (.int (i ^ j.toNat)) S) := by unfold powM; exact sat_ite
@[simp] theorem sat_shl : (shlM (.int i) (.int j) S).Sat QU ↔ ((0 ≤ j ∧ j ≤ 100000 ∧ ltBig i) ∧ QU (.int (i * 2 ^ j.toNat)) S) := by unfold shlM; exact sat_ite
@[simp] theorem sat_shr : (shrM (.int i) (.int j) S).Sat QU ↔ (0 ≤ j ∧ QU (.int (i / 2 ^ j.toNat)) S) := by unfold shrM; exact sat_ite
@[simp] theorem sat_newF {us : List U} : (newLst false us S).Sat QU ↔ (us.length ≤ 10000000 ∧ QU (.lst us) S) := by unfold newLst; rw [if_neg Bool.false_ne_true]; exact sat_ite
@[simp] theorem sat_newC {us : List U} : (newLst true us S).Sat QU ↔ (us.length ≤ 10000000 ∧ QU (.cel S.length) (S ++ [.lst us])) := by unfold newLst; rw [if_pos rfl]; exact sat_ite
theorem sat_ix {n : Nat} {k : Int} {d : U} {ws : List U} (h : S[n]? = some (.lst ws)) (e : atI ws k = some d) : (ixM (.cel n) (.int k) S).Sat QU ↔ QU d S := by rw [ixM_cel h e]; exact sat_ok
end
theorem mDef_sat {n m : Nat} {b : MS} {us : List U} {S : Sto} {Q : U → Sto → Prop} (h : us.length = n) : (mDef false n m b us S).Sat Q ↔ (b (us.map some ++ List.replicate m none) S).Sat (fun _ S => Q .non S) Q := by
  rw [mDef_f h, sat_out]
theorem while_sat {t : ME Bool} {b : MS} {N : Rho → Sto → Prop} {R : U → Sto → Prop} (P : Rho → Sto → Prop) (μ : Rho → Sto → Nat)
    (h : ∀ ρ S, P ρ S → (t ρ S).Sat fun c S1 => S1 = S ∧ (c = true → (b ρ S).Sat (fun ρ' S' => P ρ' S' ∧ μ ρ' S' < μ ρ S) R) ∧ (c = false → N ρ S)) :
    ∀ (n : Nat) (ρ : Rho) (S : Sto), μ ρ S ≤ n → P ρ S → (mWhile t b ρ S).Sat N R
  | n, ρ, S, l, p => by
    obtain ⟨c, S1, e, rfl, q1, q2⟩ := (h ρ S p).eq
    cases c with
    | false => rw [mWhile_f e]; exact q2 rfl
    | true =>
      rw [mWhile_t e, sat_andThen]
      have q := q1 rfl
      cases eb : b ρ S1 with
      | nx ρ' S' =>
        rw [eb] at q
        obtain ⟨p2, lt⟩ := q
        match n, l with
        | 0, l => omega
        | n + 1, l => exact while_sat P μ h n ρ' S' (by omega) p2
      | rt d S' => rw [eb] at q; exact q
      | ex e ρ' S' => rw [eb] at q; exact q
      | bad => rw [eb] at q; exact q
theorem forL_sat {gm : MG} {m : MS} {chk : Sto → Prop} {us : List U} {N : Rho → Sto → Prop} {R : U → Sto → Prop} (P : Nat → Rho → Sto → Prop) (hc : ∀ i ρ S, P i ρ S → chk S)
    (hs : ∀ i d ρ S, us[i]? = some d → P i ρ S → ∃ ρ1, gm d ρ = some ρ1 ∧ (m ρ1 S).Sat (fun ρ' S' => P (i + 1) ρ' S') R) (hN : ∀ ρ S, P us.length ρ S → N ρ S) :
    ∀ (k i : Nat) (ρ : Rho) (S : Sto), i + k = us.length → P i ρ S → (forL gm m chk (us.drop i) ρ S).Sat N R
  | 0, i, ρ, S, e, h => by
    have e' : i = us.length := by omega
    subst e'
    rw [List.drop_length, forL_nil, if_pos (hc _ _ _ h)]
    exact hN ρ S h
  | k + 1, i, ρ, S, e, h => by
    have l : i < us.length := by omega
    rw [List.drop_eq_getElem_cons l, forL_cons, if_pos (hc _ _ _ h)]
    obtain ⟨ρ1, e1, e2⟩ := hs i us[i] ρ S (List.getElem?_eq_getElem l) h
    rw [e1]
    dsimp only
    rw [sat_andThen]
    exact e2.use (fun ρ' S' h2 => forL_sat P hc hs hN k (i + 1) ρ' S' (by omega) h2) fun _ _ h => h
theorem for_sat {mi : ME IT} {gm : MG} {m : MS} {us : List U} {src : Option Nat} {ρ : Rho} {S S1 : Sto} {N : Rho → Sto → Prop} {R : U → Sto → Prop} (P : Nat → Rho → Sto → Prop) (e : mi ρ S = .ok ⟨us, src⟩ S1) (h0 : P 0 ρ S1) (hc : ∀ i ρ S, P i ρ S → (IT.mk us src).chk S)
    (hs : ∀ i d ρ S, us[i]? = some d → P i ρ S → ∃ ρ1, gm d ρ = some ρ1 ∧ (m ρ1 S).Sat (fun ρ' S' => P (i + 1) ρ' S') R) (hN : ∀ ρ S, P us.length ρ S → N ρ S) :
    (mFor mi gm m ρ S).Sat N R := by
  unfold mFor
  rw [e, thenS_ok]
  exact forL_sat P hc hs hN us.length 0 ρ S1 (by omega) h0
/-- over what is no list of the store -/
theorem for_satN {mi : ME IT} {gm : MG} {m : MS} {us : List U} {ρ : Rho} {S S1 : Sto} {N : Rho → Sto → Prop} {R : U → Sto → Prop} (P : Nat → Rho → Sto → Prop) (e : mi ρ S = .ok ⟨us, none⟩ S1) (h0 : P 0 ρ S1)
    (hs : ∀ i d ρ S, us[i]? = some d → P i ρ S → ∃ ρ1, gm d ρ = some ρ1 ∧ (m ρ1 S).Sat (fun ρ' S' => P (i + 1) ρ' S') R) (hN : ∀ ρ S, P us.length ρ S → N ρ S) :
    (mFor mi gm m ρ S).Sat N R := for_sat P e h0 (fun _ _ _ _ => trivial) hs hN
theorem rng_get {n i : Nat} {lo : Int} {d : U} (h : (rng lo n)[i]? = some d) : i < n ∧ d = .int (lo + i) := by
  unfold rng at h
  rw [List.getElem?_map] at h
  obtain ⟨j, e1, e2⟩ := Option.map_eq_some_iff.mp h
  obtain ⟨l, e⟩ := List.getElem?_eq_some_iff.mp e1
  rw [List.getElem_range] at e
  rw [List.length_range] at l
  subst e
  exact ⟨l, e2.symm⟩
@[simp] theorem lsOf_new {S t : Sto} {ws : List U} : lsOf (S ++ .lst ws :: t) (.cel S.length) = some ws := lsOf_cel get_new
@[simp] theorem set_new {S t : Sto} {c c' : Cl} : (S ++ c :: t).set S.length c' = S ++ c' :: t := by simp
theorem range_ok {ns : List Int} {a b : Int} {ρ : Rho} {S : Sto} (h0 : 0 ≤ a) (h1 : a ≤ b) (h2 : b < 2 ^ 40) : ∃ N : Nat, (N : Int) ≤ b ∧
    mRange1 (mCons (mCB (on2 max2M) (mCons (mC (.int a)) (mCons (mCB (on2 min2M) (mCons (mC (.int b)) (mCons (mLenS (mVar 0)) mNil))) mNil))) mNil) (some (.scr ns) :: ρ) S = .ok ⟨rng 0 N, none⟩ S := by
  refine ⟨(max a (min b ns.length)).toNat, by omega, ?_⟩
  simp [-Int.reducePow]
  omega
/-- a comprehension whose items are made one behind the other -/
theorem lcL_sat {gm : MG} {te : ME U} {ρ : Rho} {us0 : List U} (P : Nat → List U → Sto → Prop)
    (hs : ∀ i d ys S, us0[i]? = some d → P i ys S → ∃ ρ1, gm d ρ = some ρ1 ∧ (te ρ1 S).Sat (fun y S' => P (i + 1) (ys ++ [y]) S')) :
    ∀ (k i : Nat) (ys : List U) (S : Sto), i + k = us0.length → P i ys S → (lcL gm mYes te (fun _ => True) ρ (us0.drop i) S).Sat fun zs S' => P us0.length (ys ++ zs) S'
  | 0, i, ys, S, e, h => by
    have e' : i = us0.length := by omega
    subst e'
    rw [List.drop_length, lcL_nil, if_pos trivial]
    show P us0.length (ys ++ []) S
    rw [List.append_nil]; exact h
  | k + 1, i, ys, S, e, h => by
    have l : i < us0.length := by omega
    rw [List.drop_eq_getElem_cons l, lcL_cons, if_pos trivial]
    obtain ⟨ρ1, e1, e2⟩ := hs i us0[i] ys S (List.getElem?_eq_getElem l) h
    obtain ⟨y, S', e3, p⟩ := e2.eq
    obtain ⟨zs, S2, e4, q⟩ := (lcL_sat P hs k (i + 1) (ys ++ [y]) S' (by omega) p).eq
    rw [e1]
    dsimp only [mYes]
    rw [e3]
    dsimp only
    rw [e4]
    show P us0.length (ys ++ y :: zs) S2
    rw [show ys ++ y :: zs = ys ++ [y] ++ zs by simp]; exact q
/-! ### the seeded box -/
def Box (n k : Nat) (S : Sto) : Prop := ∃ a b c : Int, S[n]? = some (.lst [.int a, .int b, .int c]) ∧ 0 ≤ a ∧ 0 ≤ b ∧ b < 2147483647 ∧ 0 ≤ c ∧ c ≤ k
section
variable {n k k' : Nat} {S S' : Sto} {P : Nat → Prop}
theorem Box.le (h : Box n k S) (l : k ≤ k') : Box n k' S := by
  obtain ⟨a, b, c, h1, h2, h3, h4, h5, h6⟩ := h
  exact ⟨a, b, c, h1, h2, h3, h4, h5, by omega⟩
theorem Box.fr (h : Box n k S) (x : Fr P S S') (np : ¬ P n) : Box n k S' := by
  obtain ⟨a, b, c, h1, h2⟩ := h
  exact ⟨a, b, c, x.get h1 np, h2⟩
theorem Box.lt (h : Box n k S) : n < S.length := by
  obtain ⟨a, b, c, h1, h2⟩ := h
  exact lt_of_get h1
end
end Z

namespace Z
open PySem PySem.Spec PyProof.Rows L2

noncomputable def b_is_whole : MS := (mRet (mAndV (mIsT "int" (mVar 0)) (mAndV (mNotV (mIsT "bool" (mVar 0))) (mChain leM leM (mVar 1) (mVar 0) (mVar 2)))))
noncomputable def m_is_whole : MF := mDef false 3 0 b_is_whole
noncomputable def b_need_number : MS := (mIf (mNot (mTB (mCallN 3 0 m_is_whole (fun us _ => us) (mCons (mVar 0) (mCons (mVar 1) (mCons (mVar 2) mNil))) mNil))) (mRaise "NoNumber" "what is no number within its bounds" "found" (mVar 0)) mNx)
noncomputable def m_need_number : MF := mDef false 3 0 b_need_number
noncomputable def b_Board_init : MS := (mSeq (mFor (mIt (mTup (mCons (mVar 1) (mCons (mVar 2) mNil)))) (gN 3) (mIf (mNot (mTB (mCallN 3 0 m_is_whole (fun us _ => us) (mCons (mVar 3) (mCons (mC (.int 1)) (mCons (mC (.int 16)) mNil))) mNil))) (mRaise "NoNumber" "what is no number within its bounds" "found" (mVar 3)) mNx))
    (mSeq (mSetAt "Board" "columns" (mVar 1) (mVar 0))
    (mSeq (mSetAt "Board" "lines" (mVar 2) (mVar 0))
    (mSeq (mSetAt "Board" "kept" mDNewT (mVar 0))
    (mSetAt "Board" "total" (mC (.int 0)) (mVar 0))))))
noncomputable def m_Board_init : MF := mDef false 3 1 b_Board_init
noncomputable def b_ones_of : MS := (mSeq (mSet 1 (mLst true mNil))
    (mSeq (mSet 2 (mC (.int 0)))
    (mSeq (mWhile (mTB (mOp gtM (mVar 0) (mC (.int 0)))) (mSeq (mIf (mTB (mOp eqM (mOp modM (mVar 0) (mC (.int 2))) (mC (.int 1)))) (mExpr (mBL appM (mVar 1) (mCons (mVar 2) mNil))) mNx)
    (mSeq (mSet 0 (mOp divM (mVar 0) (mC (.int 2))))
    (mSet 2 (mOp (addM false) (mVar 2) (mC (.int 1)))))))
    (mRet (mVar 1)))))
noncomputable def m_ones_of : MF := mDef false 1 2 b_ones_of
noncomputable def b_is_square : MS := (mSeq (mIf (mOr (mNot (mTB (mIsT "tuple" (mVar 0)))) (mTB (mOp neM (mCB (on1 lenM) (mCons (mVar 0) mNil)) (mC (.int 2))))) (mRet (mC (.bl false))) mNx)
    (mRet (mAndV (mCallN 3 0 m_is_whole (fun us _ => us) (mCons (mOp ixM (mVar 0) (mC (.int 0))) (mCons (mC (.int 0)) (mCons (mOp subM (mVar 1) (mC (.int 1))) mNil))) mNil) (mCallN 3 0 m_is_whole (fun us _ => us) (mCons (mOp ixM (mVar 0) (mC (.int 1))) (mCons (mC (.int 0)) (mCons (mOp subM (mVar 2) (mC (.int 1))) mNil))) mNil))))
noncomputable def m_is_square : MF := mDef false 3 0 b_is_square
noncomputable def b_Board_has_square : MS := (mRet (mCallN 3 0 m_is_square (fun us _ => us) (mCons (mVar 1) (mCons (mAt "Board" "columns" (mVar 0)) (mCons (mAt "Board" "lines" (mVar 0)) mNil))) mNil))
noncomputable def m_Board_has_square : MF := mDef false 2 0 b_Board_has_square
noncomputable def b_Board_need_square : MS := (mIf (mNot (mTB (mCallM "Board" "has_square" 1 0 m_Board_has_square (fun us _ => us) (mVar 0) (mCons (mVar 1) mNil) mNil))) (mRaise "NoSquare" "what is no square of the board" "found" (mVar 1)) mNx)
noncomputable def m_Board_need_square : MF := mDef false 2 0 b_Board_need_square
noncomputable def b_Board_many : MS := (mRet (mAt "Board" "total" (mVar 0)))
noncomputable def m_Board_many : MF := mDef false 1 0 b_Board_many
noncomputable def b_Board_more : MS := (mSeq (mSet 3 (mOp (addM false) (mBD popTM (mAt "Board" "kept" (mVar 0)) (mCons (mVar 1) (mCons (mC (.int 0)) mNil))) (mVar 2)))
    (mSeq (mSetAt "Board" "total" (mOp (addM false) (mAt "Board" "total" (mVar 0)) (mVar 2)) (mVar 0))
    (mIf (mTB (mOp gtM (mVar 3) (mC (.int 0)))) (mSetIx setDc (mVar 3) (mAt "Board" "kept" (mVar 0)) (mVar 1)) mNx)))
noncomputable def m_Board_more : MF := mDef false 3 1 b_Board_more
noncomputable def b_Board_put : MS := (mSeq (mExpr (mCallM "Board" "need_square" 1 0 m_Board_need_square (fun us _ => us) (mVar 0) (mCons (mVar 1) mNil) mNil))
    (mSeq (mIf (mNot (mTB (mCallN 3 0 m_is_whole (fun us _ => us) (mCons (mVar 2) (mCons (mC (.int 1)) (mCons (mC (.int 1000)) mNil))) mNil))) (mRaise "NoNumber" "what is no number within its bounds" "found" (mVar 2)) mNx)
    (mSeq (mIf (mTB (mOp gtM (mOp (addM false) (mCallM "Board" "many" 0 0 m_Board_many (fun us _ => us) (mVar 0) mNil mNil) (mVar 2)) (mC (.int 100000)))) (mRaise "TooMany" "more counters than there may be" "found" (mOp (addM false) (mCallM "Board" "many" 0 0 m_Board_many (fun us _ => us) (mVar 0) mNil mNil) (mVar 2))) mNx)
    (mExpr (mCallM "Board" "more" 2 0 m_Board_more (fun us _ => us) (mVar 0) (mCons (mVar 1) (mCons (mVar 2) mNil)) mNil)))))
noncomputable def m_Board_put : MF := mDef false 3 0 b_Board_put
noncomputable def b_product : MS := (mSeq (mExpr (mCallN 3 0 m_need_number (fun us _ => us) (mCons (mVar 0) (mCons (mC (.int 0)) (mCons (mC (.int 65535)) mNil))) mNil))
    (mSeq (mExpr (mCallN 3 0 m_need_number (fun us _ => us) (mCons (mVar 1) (mCons (mC (.int 0)) (mCons (mC (.int 65535)) mNil))) mNil))
    (mSeq (mSet 2 (mNewI "Board" 2 0 m_Board_init (fun us _ => us) (mCons (mC (.int 16)) (mCons (mC (.int 16)) mNil)) mNil))
    (mSeq (mFor (mIt (mCallN 1 0 m_ones_of (fun us _ => us) (mCons (mVar 0) mNil) mNil)) (gN 3) (mFor (mIt (mCallN 1 0 m_ones_of (fun us _ => us) (mCons (mVar 1) mNil) mNil)) (gN 4) (mExpr (mCallM "Board" "put" 1 0 m_Board_put (fun us zs => pick [0, 1, 2] (us ++ zs ++ [.int 1])) (mVar 2) (mCons (mTup (mCons (mVar 3) (mCons (mVar 4) mNil))) mNil) mNil))))
    (mRet (mVar 2))))))
noncomputable def m_product : MF := mDef false 2 3 b_product
noncomputable def b_root : MS := (mSeq (mExpr (mCallN 3 0 m_need_number (fun us _ => us) (mCons (mVar 0) (mCons (mC (.int 0)) (mCons (mC (.int 4294967295)) mNil))) mNil))
    (mSeq (mSet 1 (mC (.int 0)))
    (mSeq (mFor (mRange3 (mCons (mOp subM (mC (.int 16)) (mC (.int 1))) (mCons (mUn negM (mC (.int 1))) (mCons (mUn negM (mC (.int 1))) mNil)))) (gN 2) (mSeq (mSet 3 (mOp (addM false) (mVar 1) (mOp shlM (mC (.int 1)) (mVar 2))))
    (mIf (mTB (mOp leM (mOp (mulM false) (mVar 3) (mVar 3)) (mVar 0))) (mSet 1 (mVar 3)) mNx)))
    (mRet (mTup (mCons (mCallN 2 0 m_product (fun us _ => us) (mCons (mVar 1) (mCons (mVar 1) mNil)) mNil) (mCons (mOp subM (mVar 0) (mOp (mulM false) (mVar 1) (mVar 1))) mNil)))))))
noncomputable def m_root : MF := mDef false 1 3 b_root
noncomputable def b_law_just : MS := (mRet (mAndV (mOp eqM (mVar 0) (mVar 1)) (mOp eqM (mCB (on1 reprM) (mCons (mVar 0) mNil)) (mCB (on1 reprM) (mCons (mVar 1) mNil)))))
noncomputable def m_law_just : MF := mDef false 2 0 b_law_just
noncomputable def b_need_board : MS := (mIf (mNot (mTB (mIsC "Board" (mVar 0)))) (mRaise "NoBoard" "what is no board" "found" (mVar 0)) mNx)
noncomputable def m_need_board : MF := mDef false 1 0 b_need_board
noncomputable def b_Board_counters : MS := (mRet (mCB (on1 dictM) (mCons (mLc false (mIt (mCB (on1 (sortDM false)) (mCons (mAt "Board" "kept" (mVar 0)) mNil))) (gN 1) mYes (mTup (mCons (mVar 1) (mCons (mDGet (mAt "Board" "kept" (mVar 0)) (mVar 1)) mNil))) [1]) mNil)))
noncomputable def m_Board_counters : MF := mDef false 1 1 b_Board_counters
noncomputable def b_factors : MS := (mSeq (mExpr (mCallN 1 0 m_need_board (fun us _ => us) (mCons (mVar 0) mNil) mNil))
    (mSeq (mSet 1 (mKeysL false (mCallM "Board" "counters" 0 0 m_Board_counters (fun us _ => us) (mVar 0) mNil mNil)))
    (mSeq (mSet 2 (mSortSet false (mLc false (mIt (mVar 1)) (gN 3) mYes (mOp ixM (mVar 3) (mC (.int 0))) [3])))
    (mSeq (mSet 4 (mSortSet false (mLc false (mIt (mVar 1)) (gN 3) mYes (mOp ixM (mVar 3) (mC (.int 1))) [3])))
    (mSeq (mIf (mOr (mTB (mOp neM (mCallM "Board" "many" 0 0 m_Board_many (fun us _ => us) (mVar 0) mNil mNil) (mCB (on1 lenM) (mCons (mVar 1) mNil)))) (mTB (mOp neM (mCB (on1 lenM) (mCons (mVar 1) mNil)) (mOp (mulM false) (mCB (on1 lenM) (mCons (mVar 2) mNil)) (mCB (on1 lenM) (mCons (mVar 4) mNil)))))) (mRet (mC .non)) mNx)
    (mRet (mTup (mCons (mCB (on1 sumM) (mCons (mLc false (mIt (mVar 2)) (gN 5) mYes (mOp shlM (mC (.int 1)) (mVar 5)) [5]) mNil)) (mCons (mCB (on1 sumM) (mCons (mLc false (mIt (mVar 4)) (gN 6) mYes (mOp shlM (mC (.int 1)) (mVar 6)) [6]) mNil)) mNil)))))))))
noncomputable def m_factors : MF := mDef false 1 6 b_factors
noncomputable def b_Board_eq : MS := (mSeq (mIf (mNot (mTB (mIsC "Board" (mVar 1)))) (mRet (mC (.bl false))) mNx)
    (mSeq (mIf (mOr (mTB (mOp neM (mAt "Board" "columns" (mVar 0)) (mAt "Board" "columns" (mVar 1)))) (mTB (mOp neM (mAt "Board" "lines" (mVar 0)) (mAt "Board" "lines" (mVar 1))))) (mRet (mC (.bl false))) mNx)
    (mRet (mOp eqDTM (mAt "Board" "kept" (mVar 0)) (mAt "Board" "kept" (mVar 1))))))
noncomputable def m_Board_eq : MF := mDef false 2 0 b_Board_eq
noncomputable def b_is_pair : MS := (mSeq (mIf (mOr (mNot (mTB (mIsT "tuple" (mVar 0)))) (mOr (mTB (mOp neM (mCB (on1 lenM) (mCons (mVar 0) mNil)) (mC (.int 2)))) (mNot (mTB (mIsC "Board" (mOp ixM (mVar 0) (mC (.int 0)))))))) (mRet (mC (.bl false))) mNx)
    (mRet (mCallN 3 0 m_is_whole (fun us _ => us) (mCons (mOp ixM (mVar 0) (mC (.int 1))) (mCons (mC (.int 0)) (mCons (mC (.int 4294967295)) mNil))) mNil)))
noncomputable def m_is_pair : MF := mDef false 1 0 b_is_pair
noncomputable def b_shows_root : MS := (mSeq (mExpr (mCallN 3 0 m_need_number (fun us _ => us) (mCons (mVar 0) (mCons (mC (.int 0)) (mCons (mC (.int 4294967295)) mNil))) mNil))
    (mSeq (mIf (mNot (mTB (mCallN 1 0 m_is_pair (fun us _ => us) (mCons (mVar 1) mNil) mNil))) (mRet (mC (.bl false))) mNx)
    (mSeq (mSet 2 (mCallN 1 0 m_factors (fun us _ => us) (mCons (mOp ixM (mVar 1) (mC (.int 0))) mNil) mNil))
    (mSeq (mIf (mOr (mTB (mOp isnM (mVar 2) (mC .non))) (mTB (mOp neM (mOp ixM (mVar 2) (mC (.int 0))) (mOp ixM (mVar 2) (mC (.int 1)))))) (mRet (mC (.bl false))) mNx)
    (mRet (mAndV (mOp leM (mOp ixM (mVar 1) (mC (.int 1))) (mOp (mulM false) (mC (.int 2)) (mOp ixM (mVar 2) (mC (.int 0))))) (mOp eqM (mOp (addM false) (mOp (mulM false) (mOp ixM (mVar 2) (mC (.int 0))) (mOp ixM (mVar 2) (mC (.int 0)))) (mOp ixM (mVar 1) (mC (.int 1)))) (mVar 0))))))))
noncomputable def m_shows_root : MF := mDef false 2 1 b_shows_root
noncomputable def b_law_root_right : MS := (mSeq (mPar 2 3 (mCons (mOp (addM false) (mOp (mulM false) (mVar 0) (mVar 0)) (mVar 1)) (mCons (mCallN 2 0 m_product (fun us _ => us) (mCons (mVar 0) (mCons (mVar 0) mNil)) mNil) mNil)))
    (mSeq (mSet 4 (mCallN 1 0 m_root (fun us _ => us) (mCons (mVar 2) mNil) mNil))
    (mSeq (mIf (mOr (mTB (mOp (eqIM "Board" m_Board_eq true) (mOp ixM (mVar 4) (mC (.int 0))) (mVar 3))) (mNot (mTB (mCallN 2 0 m_law_just (fun us _ => us) (mCons (mLst false (mCons (mOp ixM (mVar 4) (mC (.int 1))) (mCons (mCallN 1 0 m_factors (fun us _ => us) (mCons (mVar 3) mNil) mNil) mNil))) (mCons (mLst false (mCons (mVar 1) (mCons (mTup (mCons (mVar 0) (mCons (mVar 0) mNil))) mNil))) mNil)) mNil)))) (mRet (mC (.bl false))) mNx)
    (mSeq (mSet 5 (mLst false (mCons (mCallN 2 0 m_shows_root (fun us _ => us) (mCons (mVar 2) (mCons (mVar 4) mNil)) mNil) (mCons (mCallN 2 0 m_shows_root (fun us _ => us) (mCons (mVar 2) (mCons (mTup (mCons (mVar 3) (mCons (mOp (addM false) (mVar 1) (mC (.int 1))) mNil))) mNil)) mNil) (mCons (mCallN 2 0 m_shows_root (fun us _ => us) (mCons (mVar 2) (mCons (mTup (mCons (mVar 3) (mCons (mVar 1) mNil))) mNil)) mNil) mNil)))))
    (mRet (mCallN 2 0 m_law_just (fun us _ => us) (mCons (mVar 5) (mCons (mLst false (mCons (mC (.bl true)) (mCons (mC (.bl false)) (mCons (mC (.bl true)) mNil)))) mNil)) mNil))))))
noncomputable def m_law_root_right : MF := mDef false 2 4 b_law_root_right
noncomputable def b_steps : MS := (mSeq (mExpr (mCallN 3 0 m_need_number (fun us _ => us) (mCons (mVar 0) (mCons (mC (.int 0)) (mCons (mC (.int 4294967295)) mNil))) mNil))
    (mSeq (mExpr (mCallN 3 0 m_need_number (fun us _ => us) (mCons (mVar 1) (mCons (mC (.int 1)) (mCons (mC (.int 65535)) mNil))) mNil))
    (mSeq (mIf (mTB (mOp geM (mVar 0) (mOp shlM (mVar 1) (mC (.int 16))))) (mRaise "TooGreat" "more than can be laid out" "found" (mVar 0)) mNx)
    (mSeq (mSet 2 (mLst true mNil))
    (mSeq (mFor (mRange3 (mCons (mOp subM (mC (.int 16)) (mC (.int 1))) (mCons (mUn negM (mC (.int 1))) (mCons (mUn negM (mC (.int 1))) mNil)))) (gN 3) (mIf (mTB (mOp geM (mVar 0) (mOp shlM (mVar 1) (mVar 3)))) (mSeq (mSet 0 (mOp subM (mVar 0) (mOp shlM (mVar 1) (mVar 3))))
    (mExpr (mBL appM (mVar 2) (mCons (mTup (mCons (mVar 3) (mCons (mVar 0) mNil))) mNil)))) mNx))
    (mRet (mVar 2)))))))
noncomputable def m_steps : MF := mDef false 2 2 b_steps
noncomputable def b_quotient : MS := (mSeq (mSet 2 (mCallN 2 0 m_steps (fun us _ => us) (mCons (mVar 0) (mCons (mVar 1) mNil)) mNil))
    (mSeq (mSet 3 (mIfE (mTB (mOp gtM (mCB (on1 lenM) (mCons (mVar 2) mNil)) (mC (.int 0)))) (mOp ixM (mOp ixM (mVar 2) (mUn negM (mC (.int 1)))) (mC (.int 1))) (mVar 0)))
    (mRet (mTup (mCons (mCallN 2 0 m_product (fun us _ => us) (mCons (mVar 1) (mCons (mCB (on1 sumM) (mCons (mLc false (mIt (mVar 2)) (gT [(gN 4), (gN 5)]) mYes (mOp shlM (mC (.int 1)) (mVar 4)) [4, 5]) mNil)) mNil)) mNil) (mCons (mVar 3) mNil))))))
noncomputable def m_quotient : MF := mDef false 2 4 b_quotient
noncomputable def b_Board_worth : MS := (mRet (mCB (on1 sumM) (mCons (mUnl (mAt "Board" "kept" (mVar 0)) (mLc false (mItK (mAt "Board" "kept" (mVar 0))) (gN 1) mYes (mOp shlM (mDGet (mAt "Board" "kept" (mVar 0)) (mVar 1)) (mOp (addM false) (mOp ixM (mVar 1) (mC (.int 0))) (mOp ixM (mVar 1) (mC (.int 1))))) [1])) mNil)))
noncomputable def m_Board_worth : MF := mDef false 1 1 b_Board_worth
noncomputable def b_shows_quotient : MS := (mSeq (mExpr (mCallN 3 0 m_need_number (fun us _ => us) (mCons (mVar 0) (mCons (mC (.int 0)) (mCons (mC (.int 4294967295)) mNil))) mNil))
    (mSeq (mExpr (mCallN 3 0 m_need_number (fun us _ => us) (mCons (mVar 1) (mCons (mC (.int 1)) (mCons (mC (.int 65535)) mNil))) mNil))
    (mSeq (mIf (mNot (mTB (mCallN 1 0 m_is_pair (fun us _ => us) (mCons (mVar 2) mNil) mNil))) (mRet (mC (.bl false))) mNx)
    (mSeq (mSet 3 (mCallN 1 0 m_factors (fun us _ => us) (mCons (mOp ixM (mVar 2) (mC (.int 0))) mNil) mNil))
    (mSeq (mIf (mOr (mTB (mOp isnM (mVar 3) (mC .non))) (mAnd (mTB (mOp neM (mVar 3) (mTup (mCons (mC (.int 0)) (mCons (mC (.int 0)) mNil))))) (mTB (mOp neM (mOp ixM (mVar 3) (mC (.int 0))) (mVar 1))))) (mRet (mC (.bl false))) mNx)
    (mRet (mAndV (mOp ltM (mOp ixM (mVar 2) (mC (.int 1))) (mVar 1)) (mOp eqM (mOp (addM false) (mOp (mulM false) (mVar 1) (mOp ixM (mVar 3) (mC (.int 1)))) (mOp ixM (mVar 2) (mC (.int 1)))) (mVar 0)))))))))
noncomputable def m_shows_quotient : MF := mDef false 3 1 b_shows_quotient
noncomputable def b_places_of : MS := (mSeq (mIf (mNot (mTB (mCallN 3 0 m_is_whole (fun us _ => us) (mCons (mVar 0) (mCons (mC (.int 0)) (mCons (mC (.int (10 ^ 60))) mNil))) mNil))) (mRaise "NoNumber" "what is no number within its bounds" "found" (mVar 0)) mNx)
    (mRet (mCallN 1 0 m_ones_of (fun us _ => us) (mCons (mVar 0) mNil) mNil)))
noncomputable def m_places_of : MF := mDef false 1 0 b_places_of
noncomputable def b_law_right : MS := (mSeq (mPar 3 4 (mCons (mOp (addM false) (mOp (mulM false) (mVar 0) (mVar 1)) (mVar 2)) (mCons (mCallN 2 0 m_product (fun us _ => us) (mCons (mVar 0) (mCons (mVar 1) mNil)) mNil) mNil)))
    (mSeq (mSet 5 (mCallN 2 0 m_quotient (fun us _ => us) (mCons (mVar 3) (mCons (mVar 0) mNil)) mNil))
    (mSeq (mIf (mOr (mTB (mOp (eqIM "Board" m_Board_eq true) (mOp ixM (mVar 5) (mC (.int 0))) (mVar 4))) (mNot (mTB (mCallN 2 0 m_law_just (fun us _ => us) (mCons (mLst false (mCons (mOp ixM (mVar 5) (mC (.int 1))) (mCons (mOp (addM false) (mCallM "Board" "worth" 0 0 m_Board_worth (fun us _ => us) (mVar 4) mNil mNil) (mOp ixM (mVar 5) (mC (.int 1)))) mNil))) (mCons (mLst false (mCons (mVar 2) (mCons (mVar 3) mNil))) mNil)) mNil)))) (mRet (mC (.bl false))) mNx)
    (mSeq (mSet 6 (mLst false (mCons (mCallN 3 0 m_shows_quotient (fun us _ => us) (mCons (mVar 3) (mCons (mVar 0) (mCons (mTup (mCons (mVar 4) (mCons (mVar 2) mNil))) mNil))) mNil) (mCons (mCallN 3 0 m_shows_quotient (fun us _ => us) (mCons (mOp (addM false) (mVar 3) (mC (.int 1))) (mCons (mVar 0) (mCons (mTup (mCons (mVar 4) (mCons (mVar 2) mNil))) mNil))) mNil) mNil))))
    (mSeq (mIf (mNot (mTB (mCallN 2 0 m_law_just (fun us _ => us) (mCons (mOp (addM false) (mVar 6) (mLst false (mCons (mCallN 3 0 m_shows_quotient (fun us _ => us) (mCons (mVar 3) (mCons (mVar 0) (mCons (mTup (mCons (mVar 4) (mCons (mOp (addM false) (mVar 2) (mC (.int 1))) mNil))) mNil))) mNil) mNil))) (mCons (mLst false (mCons (mC (.bl true)) (mCons (mC (.bl false)) (mCons (mC (.bl false)) mNil)))) mNil)) mNil))) (mRet (mC (.bl false))) mNx)
    (mSeq (mSet 7 (mCallN 2 0 m_steps (fun us _ => us) (mCons (mVar 3) (mCons (mVar 0) mNil)) mNil))
    (mSeq (mIf (mNot (mTB (mCallN 2 0 m_law_just (fun us _ => us) (mCons (mLc false (mIt (mVar 7)) (gT [(gN 8), (gN 9)]) mYes (mVar 8) [8, 9]) (mCons (mUn (revSM false) (mCallN 1 0 m_places_of (fun us _ => us) (mCons (mVar 1) mNil) mNil)) mNil)) mNil))) (mRet (mC (.bl false))) mNx)
    (mRet (mOrV (mOp (eqEM false) (mVar 7) (mLst false mNil)) (mOp eqM (mOp ixM (mOp ixM (mVar 7) (mUn negM (mC (.int 1)))) (mC (.int 1))) (mVar 2)))))))))))
noncomputable def m_law_right : MF := mDef false 3 7 b_law_right
noncomputable def b_law_box : MS := (mRet (mLst true (mCons (mCB (on2 max2M) (mCons (mC (.int 0)) (mCons (mOp subM (mVar 0) (mOp powM (mC (.int 10)) (mC (.int 18)))) mNil))) (mCons (mOp modM (mVar 0) (mC (.int 2147483629))) (mCons (mC (.int 0)) mNil)))))
noncomputable def m_law_box : MF := mDef false 1 0 b_law_box
noncomputable def b_law_cell : MS := (mSeq (mIf (mTB (mOp ltM (mVar 1) (mLenS (mVar 0)))) (mRet (mIxS (mVar 0) (mVar 1))) mNx)
    (mRet (mOp (addM false) (mOp (mulM false) (mC (.int 15485863)) (mVar 1)) (mC (.int 51)))))
noncomputable def m_law_cell : MF := mDef false 2 0 b_law_cell
noncomputable def b_law_take : MS := (mSeq (mIf (mTB (mOp gtM (mOp ixM (mVar 0) (mC (.int 0))) (mC (.int 0)))) (mSeq (mSet 2 (mOp modM (mOp ixM (mVar 0) (mC (.int 0))) (mVar 1)))
    (mSeq (mSetIx setIx (mOp divM (mOp ixM (mVar 0) (mC (.int 0))) (mVar 1)) (mVar 0) (mC (.int 0)))
    (mRet (mVar 2)))) mNx)
    (mSeq (mSetIx setIx (mOp (addM false) (mOp ixM (mVar 0) (mC (.int 2))) (mC (.int 1))) (mVar 0) (mC (.int 2)))
    (mSeq (mSet 3 (mOp modM (mOp powM (mOp (addM false) (mOp (addM false) (mOp ixM (mVar 0) (mC (.int 1))) (mOp (mulM false) (mC (.int 7919)) (mOp ixM (mVar 0) (mC (.int 2))))) (mC (.int 51))) (mC (.int 5))) (mC (.int 2147483647))))
    (mSeq (mSet 4 (mOp modM (mOp powM (mOp (addM false) (mOp (addM false) (mOp divM (mVar 3) (mC (.int 8))) (mOp (mulM false) (mOp (mulM false) (mC (.int 104729)) (mOp ixM (mVar 0) (mC (.int 2)))) (mOp ixM (mVar 0) (mC (.int 2))))) (mC (.int 5))) (mC (.int 3))) (mC (.int 2147483629))))
    (mRet (mOp modM (mOp (addM false) (mOp divM (mVar 3) (mC (.int 4))) (mOp (mulM false) (mC (.int 536870909)) (mOp divM (mVar 4) (mC (.int 4))))) (mVar 1)))))))
noncomputable def m_law_take : MF := mDef false 2 3 b_law_take
noncomputable def b_law_number : MS := (mSeq (mSet 2 (mCallN 2 0 m_law_take (fun us _ => us) (mCons (mVar 0) (mCons (mOp (addM false) (mVar 1) (mC (.int 1))) mNil)) mNil))
    (mSeq (mSet 3 (mLst false (mCons (mC (.int 0)) (mCons (mVar 1) (mCons (mCallN 2 0 m_law_take (fun us _ => us) (mCons (mVar 0) (mCons (mC (.int 20)) mNil)) mNil) (mCons (mVar 2) (mCons (mOp divM (mVar 2) (mOp (addM false) (mC (.int 1)) (mCallN 2 0 m_law_take (fun us _ => us) (mCons (mVar 0) (mCons (mOp powM (mC (.int 10)) (mC (.int 6))) mNil)) mNil))) (mCons (mOp modM (mOp shlM (mC (.int 1)) (mOp modM (mVar 2) (mC (.int 17)))) (mOp (addM false) (mVar 1) (mC (.int 1)))) mNil))))))))
    (mRet (mOp ixM (mVar 3) (mCallN 2 0 m_law_take (fun us _ => us) (mCons (mVar 0) (mCons (mC (.int 6)) mNil)) mNil)))))
noncomputable def m_law_number : MF := mDef false 2 2 b_law_number
noncomputable def b_law : MS := (mSeq (mIf (mOr (mNot (mTB (mCallN 3 0 m_law_right (fun us _ => us) (mCons (mC (.int 7)) (mCons (mC (.int 14)) (mCons (mC (.int 2)) mNil))) mNil))) (mNot (mTB (mCallN 2 0 m_law_root_right (fun us _ => us) (mCons (mC (.int 9)) (mCons (mC (.int 18)) mNil)) mNil)))) (mRet (mC (.bl false))) mNx)
    (mSeq (mFor (mRange1 (mCons (mCB (on2 max2M) (mCons (mC (.int 2)) (mCons (mCB (on2 min2M) (mCons (mC (.int 6)) (mCons (mLenS (mVar 0)) mNil))) mNil))) mNil)) (gN 1) (mSeq (mSet 2 (mCallN 1 0 m_law_box (fun us _ => us) (mCons (mCallN 2 0 m_law_cell (fun us _ => us) (mCons (mVar 0) (mCons (mVar 1) mNil)) mNil) mNil) mNil))
    (mSeq (mPar 3 4 (mCons (mCB (on2 max2M) (mCons (mC (.int 1)) (mCons (mCallN 2 0 m_law_number (fun us _ => us) (mCons (mVar 2) (mCons (mC (.int 65535)) mNil)) mNil) mNil))) (mCons (mCallN 2 0 m_law_number (fun us _ => us) (mCons (mVar 2) (mCons (mC (.int 65535)) mNil)) mNil) mNil)))
    (mSeq (mIf (mNot (mTB (mCallN 3 0 m_law_right (fun us _ => us) (mCons (mVar 3) (mCons (mVar 4) (mCons (mCallN 2 0 m_law_take (fun us _ => us) (mCons (mVar 2) (mCons (mVar 3) mNil)) mNil) mNil))) mNil))) (mRet (mC (.bl false))) mNx)
    (mSeq (mSet 3 (mCallN 2 0 m_law_number (fun us _ => us) (mCons (mVar 2) (mCons (mC (.int 65535)) mNil)) mNil))
    (mIf (mNot (mTB (mCallN 2 0 m_law_root_right (fun us _ => us) (mCons (mVar 3) (mCons (mCallN 2 0 m_law_take (fun us _ => us) (mCons (mVar 2) (mCons (mOp (addM false) (mOp (mulM false) (mC (.int 2)) (mVar 3)) (mC (.int 1))) mNil)) mNil) mNil)) mNil))) (mRet (mC (.bl false))) mNx))))))
    (mRet (mC (.bl true)))))
noncomputable def m_law : MF := mDef false 1 4 b_law
end Z

namespace Z
open PySem PySem.Spec PyProof.Rows L2

def topS (i : Nat) : Stmt := PySem.Challenge.pw_slantworth_k51_whole_quotients_undo_prod.main.body.getD i (.Pass ⟨0, 0, 0, 0⟩)
structure Txt (W : Wd) (ω : Om) : Prop where
  n_bool : W.mg "bool" = none
  n_dict : W.mg "dict" = none
  n_int : W.mg "int" = none
  n_isinstance : W.mg "isinstance" = none
  n_len : W.mg "len" = none
  n_list : W.mg "list" = none
  n_max : W.mg "max" = none
  n_min : W.mg "min" = none
  n_range : W.mg "range" = none
  n_repr : W.mg "repr" = none
  n_set : W.mg "set" = none
  n_sorted : W.mg "sorted" = none
  n_sum : W.mg "sum" = none
  n_tuple : W.mg "tuple" = none
  k_MOST : ∃ u, W.mg "MOST" = some u ∧ RelV (.int (10 ^ 60)) u
  k_MOST_MANY : ∃ u, W.mg "MOST_MANY" = some u ∧ RelV (.int 100000) u
  k_MOST_NUMBER : ∃ u, W.mg "MOST_NUMBER" = some u ∧ RelV (.int 4294967295) u
  k_MOST_PUT : ∃ u, W.mg "MOST_PUT" = some u ∧ RelV (.int 1000) u
  k_MOST_SIDE : ∃ u, W.mg "MOST_SIDE" = some u ∧ RelV (.int 65535) u
  k_SIDE : ∃ u, W.mg "SIDE" = some u ∧ RelV (.int 16) u
  kn : Kn W.K ω
  ke : KnE W.K ω
  eqn : EqNA W.K ω
  ki_Board : ω.ki "Board"
  ic_Board : IcC W.K ω "Board"
  g_Board : W.mg "Board" = some (.ref (ω.ad "Board"))
  na_Board_columns : NoAttr W.K (ω.ad "Board") "columns"
  na_Board_kept : NoAttr W.K (ω.ad "Board") "kept"
  na_Board_lines : NoAttr W.K (ω.ad "Board") "lines"
  na_Board_total : NoAttr W.K (ω.ad "Board") "total"
  ne_Board : PySem.W.mroIn W.K (ω.ad "Board") (.type "object") = some true ∧ PySem.W.findIn W.K (.ref (ω.ad "Board")) "__ne__" = some (some (.builtin "object.__ne__"))
  x_NoBoard : MkX W 1 "NoBoard" (ω.ad "NoBoard") "what is no board" "found"
  kc_NoBoard : ω.kc "NoBoard"
  g_NoBoard : W.mg "NoBoard" = some (.ref (ω.ad "NoBoard"))
  xf_NoBoard : XfC W.K (ω.ad "NoBoard")
  no_NoBoard : PySem.W.findIn W.K (.ref (ω.ad "NoBoard")) "found" = some none
  x_NoNumber : MkX W 1 "NoNumber" (ω.ad "NoNumber") "what is no number within its bounds" "found"
  kc_NoNumber : ω.kc "NoNumber"
  g_NoNumber : W.mg "NoNumber" = some (.ref (ω.ad "NoNumber"))
  xf_NoNumber : XfC W.K (ω.ad "NoNumber")
  no_NoNumber : PySem.W.findIn W.K (.ref (ω.ad "NoNumber")) "found" = some none
  x_NoSquare : MkX W 1 "NoSquare" (ω.ad "NoSquare") "what is no square of the board" "found"
  kc_NoSquare : ω.kc "NoSquare"
  g_NoSquare : W.mg "NoSquare" = some (.ref (ω.ad "NoSquare"))
  xf_NoSquare : XfC W.K (ω.ad "NoSquare")
  no_NoSquare : PySem.W.findIn W.K (.ref (ω.ad "NoSquare")) "found" = some none
  x_TooGreat : MkX W 1 "TooGreat" (ω.ad "TooGreat") "more than can be laid out" "found"
  kc_TooGreat : ω.kc "TooGreat"
  g_TooGreat : W.mg "TooGreat" = some (.ref (ω.ad "TooGreat"))
  xf_TooGreat : XfC W.K (ω.ad "TooGreat")
  no_TooGreat : PySem.W.findIn W.K (.ref (ω.ad "TooGreat")) "found" = some none
  x_TooMany : MkX W 1 "TooMany" (ω.ad "TooMany") "more counters than there may be" "found"
  kc_TooMany : ω.kc "TooMany"
  g_TooMany : W.mg "TooMany" = some (.ref (ω.ad "TooMany"))
  xf_TooMany : XfC W.K (ω.ad "TooMany")
  no_TooMany : PySem.W.findIn W.K (.ref (ω.ad "TooMany")) "found" = some none
/-! ### is_whole -/
abbrev s_is_whole : Stmt := topS 9
theorem sc_is_whole : FnScope ["thing", "low", "high"] ["thing", "low", "high"] (defScope s_is_whole) := ⟨rfl, rfl, rfl, by decide +kernel, rfl, by decide +kernel, by decide +kernel⟩
theorem ok_is_whole {W : Wd} {ω : Om} {f : Addr} {fd : FuncData} (T : Txt W ω) (dF : Df W "is_whole" "is_whole" s_is_whole f fd) : Fn W 1 f fd ["thing", "low", "high"] (spM ω m_is_whole) :=
  fn_m dF sc_is_whole rfl rfl fun cd A out s H E hr => (xss_one (xs_ret (ps_ret (x_and (pe_and (x_isT T.kn (pe_callB u_isU (by rfl) T.n_isinstance (by decide +kernel) (pa_cons (x_var (pv 0)) (pa_cons (pe_bltn (v := .ty "int") (by rfl) T.n_int (by decide +kernel) rfl) pa_nil)))) (x_and (pe_and (x_not (pe_not (x_isT T.kn (pe_callB u_isU (by rfl) T.n_isinstance (by decide +kernel) (pa_cons (x_var (pv 0)) (pa_cons (pe_bltn (v := .ty "bool") (by rfl) T.n_bool (by decide +kernel) rfl) pa_nil)))))) (pe_one (x_chain (pe_chain op_le op_le (x_var (pv 1)) (x_var (pv 0)) (x_var (pv 2))) s_le s_le)))))))))
/-! ### need_number -/
abbrev s_need_number : Stmt := topS 24
theorem sc_need_number : FnScope ["thing", "low", "high"] ["thing", "low", "high"] (defScope s_need_number) := ⟨rfl, rfl, rfl, by decide +kernel, rfl, by decide +kernel, by decide +kernel⟩
theorem ok_need_number {W : Wd} {ω : Om} {f : Addr} {fd : FuncData} (T : Txt W ω) (dF : Df W "need_number" "need_number" s_need_number f fd) (c_is_whole_3 : Cal W 1 "is_whole" 3 [] (fun vs _ => vs) (spM ω m_is_whole)) : Fn W 3 f fd ["thing", "low", "high"] (spM ω m_need_number) :=
  fn_m dF sc_need_number rfl rfl fun cd A out s H E hr => (xss_one (xs_if (ps_if (xt_not (pt_not (xt_val (pt_val (x_callF c_is_whole_3 hr (by decide) rfl (by rfl) pass (xa_cons (x_var (pv 0)) (xa_cons (x_var (pv 1)) (xa_cons (x_var (pv 2)) xa_nil))) xk_nil gok_id))))) (xss_one (xs_raise (ps_raise rfl (takes_of rfl rfl rfl rfl) (pmk_mkx T.x_NoNumber hr (by decide) (by rfl) (x_var (pv 0)))) rfl T.kc_NoNumber)) xss_nil)))
/-! ### Board.__init__ -/
abbrev s_Board_init : Stmt := inClass (topS 15) 0
theorem sc_Board_init : FnScope ["self", "wide", "high", "thing"] ["self", "wide", "high"] (defScope s_Board_init) := ⟨rfl, rfl, rfl, by decide +kernel, rfl, by decide +kernel, by decide +kernel⟩
theorem ok_Board_init {W : Wd} {ω : Om} {f : Addr} {fd : FuncData} (T : Txt W ω) (dF : Df W "__init__" "Board.__init__" s_Board_init f fd) (c_is_whole_3 : Cal W 1 "is_whole" 3 [] (fun vs _ => vs) (spM ω m_is_whole)) : Fn W 3 f fd ["self", "wide", "high"] (spM ω m_Board_init) :=
  fn_m dF sc_Board_init rfl rfl fun cd A out s H E hr => (xss_cons (xs_for (ps_for passOwn rfl (u_it (x_tup (pe_tup (xa_cons (x_var (pv 1)) (xa_cons (x_var (pv 2)) xa_nil))))) (pg_name (i := 3) sc_Board_init.nd rfl (Or.inl rfl)) (xss_one (xs_if (ps_if (xt_not (pt_not (xt_val (pt_val (x_callF c_is_whole_3 hr (by decide) rfl (by rfl) pass (xa_cons (x_var (pv 3)) (xa_cons (x_c pe_int fun _ => rp_int) (xa_cons (x_c (u_glob (by rfl) T.k_SIDE) fun _ => rp_int) xa_nil))) xk_nil gok_id))))) (xss_one (xs_raise (ps_raise rfl (takes_of rfl rfl rfl rfl) (pmk_mkx T.x_NoNumber hr (by decide) (by rfl) (x_var (pv 3)))) rfl T.kc_NoNumber)) xss_nil)))) si_it sg_n)
    (xss_cons (xs_setAt T.kn T.na_Board_columns (ps_fld (x_var (pv 0)) (x_var (pv 1)) rfl))
    (xss_cons (xs_setAt T.kn T.na_Board_lines (ps_fld (x_var (pv 0)) (x_var (pv 2)) rfl))
    (xss_cons (xs_setAt T.kn T.na_Board_kept (ps_fld (x_var (pv 0)) (x_dnewT pe_dnewT) rfl))
    (xss_one (xs_setAt T.kn T.na_Board_total (ps_fld (x_var (pv 0)) (x_c pe_int fun _ => rp_int) rfl)))))))
/-! ### ones_of -/
abbrev s_ones_of : Stmt := topS 19
theorem sc_ones_of : FnScope ["number", "found", "place"] ["number"] (defScope s_ones_of) := ⟨rfl, rfl, rfl, by decide +kernel, rfl, by decide +kernel, by decide +kernel⟩
theorem ok_ones_of {W : Wd} {ω : Om} {f : Addr} {fd : FuncData} (T : Txt W ω) (dF : Df W "ones_of" "ones_of" s_ones_of f fd) : Fn W 2 f fd ["number"] (spM ω m_ones_of) :=
  fn_m dF sc_ones_of rfl rfl fun cd A out s H E hr => (xss_cons (xs_set (ps_set (i := 1) sc_ones_of.nd rfl (Or.inl rfl) (x_lst (pe_lst xa_nil))))
    (xss_cons (xs_set (ps_set (i := 2) sc_ones_of.nd rfl (Or.inl rfl) (x_c pe_int fun _ => rp_int)))
    (xss_cons (xs_while (ps_while passOwn (xt_op (pt_cmpR op_gt (x_var (pv 0)) (x_c pe_int fun _ => rp_int) (nomark _)) s_gt) (xss_cons (xs_if (ps_if (xt_op (pt_cmpR (u_eq (hr.less (by decide))) (x_op (pe_op op_mod (x_var (pv 0)) (x_c pe_int fun _ => rp_int)) s_mod) (x_c pe_int fun _ => rp_int) (nomark _)) s_eq) (xss_one (xs_expr (ps_expr (x_bl (pe_bm PySem.F.plainAttrs_list PySem.F.slot_list_append PySem.F.type_list_append mt_append (x_var (pv 1)) (xa_cons (x_var (pv 2)) xa_nil)) s_app)))) xss_nil))
    (xss_cons (xs_set (ps_set (i := 0) sc_ones_of.nd rfl (Or.inl rfl) (x_op (pe_op op_fdivW (x_var (pv 0)) (x_c pe_int fun _ => rp_int)) s_div)))
    (xss_one (xs_set (ps_set (i := 2) sc_ones_of.nd rfl (Or.inl rfl) (x_op (pe_op u_add (x_var (pv 2)) (x_c pe_int fun _ => rp_int)) s_add))))))))
    (xss_one (xs_ret (ps_ret (x_var (pv 1))))))))
/-! ### is_square -/
abbrev s_is_square : Stmt := topS 14
theorem sc_is_square : FnScope ["thing", "wide", "high"] ["thing", "wide", "high"] (defScope s_is_square) := ⟨rfl, rfl, rfl, by decide +kernel, rfl, by decide +kernel, by decide +kernel⟩
theorem ok_is_square {W : Wd} {ω : Om} {f : Addr} {fd : FuncData} (T : Txt W ω) (dF : Df W "is_square" "is_square" s_is_square f fd) (c_is_whole_3 : Cal W 1 "is_whole" 3 [] (fun vs _ => vs) (spM ω m_is_whole)) : Fn W 2 f fd ["thing", "wide", "high"] (spM ω m_is_square) :=
  fn_m dF sc_is_square rfl rfl fun cd A out s H E hr => (xss_cons (xs_if (ps_if (PW.pt (xw_or (pw_or (xt_not (pt_not (xt_val (pt_val (x_isT T.kn (pe_callB u_isU (by rfl) T.n_isinstance (by decide +kernel) (pa_cons (x_var (pv 0)) (pa_cons (pe_bltn (v := .ty "tuple") (by rfl) T.n_tuple (by decide +kernel) rfl) pa_nil)))))))) (pw_or1 (xt_op (pt_cmpR (u_ne (hr.less (by decide))) (x_cb (pe_callB u_len (by rfl) T.n_len (by decide +kernel) (xa_cons (x_var (pv 0)) xa_nil)) (s_len)) (x_c pe_int fun _ => rp_int) (nomark _)) s_ne))))) (xss_one (xs_ret (ps_ret (x_c pe_bl fun _ => rp_bl)))) xss_nil))
    (xss_one (xs_ret (ps_ret (x_and (pe_and (x_callF c_is_whole_3 hr (by decide) rfl (by rfl) pass (xa_cons (x_op (pe_ix ix_seq (x_var (pv 0)) (x_c pe_int fun _ => rp_int) (fun _ _ => rfl)) s_ix) (xa_cons (x_c pe_int fun _ => rp_int) (xa_cons (x_op (pe_op op_sub (x_var (pv 1)) (x_c pe_int fun _ => rp_int)) s_sub) xa_nil))) xk_nil gok_id) (pe_one (x_callF c_is_whole_3 hr (by decide) rfl (by rfl) pass (xa_cons (x_op (pe_ix ix_seq (x_var (pv 0)) (x_c pe_int fun _ => rp_int) (fun _ _ => rfl)) s_ix) (xa_cons (x_c pe_int fun _ => rp_int) (xa_cons (x_op (pe_op op_sub (x_var (pv 2)) (x_c pe_int fun _ => rp_int)) s_sub) xa_nil))) xk_nil gok_id))))))))
/-! ### Board.has_square -/
abbrev s_Board_has_square : Stmt := inClass (topS 15) 4
theorem sc_Board_has_square : FnScope ["self", "thing"] ["self", "thing"] (defScope s_Board_has_square) := ⟨rfl, rfl, rfl, by decide +kernel, rfl, by decide +kernel, by decide +kernel⟩
theorem ok_Board_has_square {W : Wd} {ω : Om} {f : Addr} {fd : FuncData} (T : Txt W ω) (dF : Df W "has_square" "Board.has_square" s_Board_has_square f fd) (c_is_square_3 : Cal W 2 "is_square" 3 [] (fun vs _ => vs) (spM ω m_is_square)) : Fn W 3 f fd ["self", "thing"] (spM ω m_Board_has_square) :=
  fn_m dF sc_Board_has_square rfl rfl fun cd A out s H E hr => (xss_one (xs_ret (ps_ret (x_callF c_is_square_3 hr (by decide) rfl (by rfl) pass (xa_cons (x_var (pv 1)) (xa_cons (x_at T.kn T.na_Board_columns (pe_fld (x_var (pv 0)) rfl)) (xa_cons (x_at T.kn T.na_Board_lines (pe_fld (x_var (pv 0)) rfl)) xa_nil))) xk_nil gok_id))))
/-! ### Board.need_square -/
abbrev s_Board_need_square : Stmt := inClass (topS 15) 5
theorem sc_Board_need_square : FnScope ["self", "thing"] ["self", "thing"] (defScope s_Board_need_square) := ⟨rfl, rfl, rfl, by decide +kernel, rfl, by decide +kernel, by decide +kernel⟩
theorem ok_Board_need_square {W : Wd} {ω : Om} {f : Addr} {fd : FuncData} (T : Txt W ω) (dF : Df W "need_square" "Board.need_square" s_Board_need_square f fd) (c_Board_has_square_1 : Met W 3 (ω.ad "Board") "has_square" 2 [] (fun vs _ => vs) (spM ω m_Board_has_square)) : Fn W 4 f fd ["self", "thing"] (spM ω m_Board_need_square) :=
  fn_m dF sc_Board_need_square rfl rfl fun cd A out s H E hr => (xss_one (xs_if (ps_if (xt_not (pt_not (xt_val (pt_val (x_callMF c_Board_has_square_1 hr (by decide) rfl pass (x_var (pv 0)) (xa_cons (x_var (pv 1)) xa_nil) xk_nil gok_id))))) (xss_one (xs_raise (ps_raise rfl (takes_of rfl rfl rfl rfl) (pmk_mkx T.x_NoSquare hr (by decide) (by rfl) (x_var (pv 1)))) rfl T.kc_NoSquare)) xss_nil)))
/-! ### Board.many -/
abbrev s_Board_many : Stmt := inClass (topS 15) 11
theorem sc_Board_many : FnScope ["self"] ["self"] (defScope s_Board_many) := ⟨rfl, rfl, rfl, by decide +kernel, rfl, by decide +kernel, by decide +kernel⟩
theorem ok_Board_many {W : Wd} {ω : Om} {f : Addr} {fd : FuncData} (T : Txt W ω) (dF : Df W "many" "Board.many" s_Board_many f fd) : Fn W 1 f fd ["self"] (spM ω m_Board_many) :=
  fn_m dF sc_Board_many rfl rfl fun cd A out s H E hr => (xss_one (xs_ret (ps_ret (x_at T.kn T.na_Board_total (pe_fld (x_var (pv 0)) rfl)))))
/-! ### Board.more -/
abbrev s_Board_more : Stmt := inClass (topS 15) 7
theorem sc_Board_more : FnScope ["self", "square", "many", "now"] ["self", "square", "many"] (defScope s_Board_more) := ⟨rfl, rfl, rfl, by decide +kernel, rfl, by decide +kernel, by decide +kernel⟩
theorem ok_Board_more {W : Wd} {ω : Om} {f : Addr} {fd : FuncData} (T : Txt W ω) (dF : Df W "more" "Board.more" s_Board_more f fd) : Fn W 2 f fd ["self", "square", "many"] (spM ω m_Board_more) :=
  fn_m dF sc_Board_more rfl rfl fun cd A out s H E hr => (xss_cons (xs_set (ps_set (i := 3) sc_Board_more.nd rfl (Or.inl rfl) (x_op (pe_op u_add (x_bd (pe_bm PySem.F.plainAttrs_dict PySem.F.slot_dict_pop PySem.F.type_dict_pop (DX.mt_popT (hu1 (hr.less (by decide)))) (x_at T.kn T.na_Board_kept (pe_fld (x_var (pv 0)) rfl)) (xa_cons (x_var (pv 1)) (xa_cons (x_c pe_int fun _ => rp_int) xa_nil))) s_popT) (x_var (pv 2))) s_add)))
    (xss_cons (xs_setAt T.kn T.na_Board_total (ps_fld (x_var (pv 0)) (x_op (pe_op u_add (x_at T.kn T.na_Board_total (pe_fld (x_var (pv 0)) rfl)) (x_var (pv 2))) s_add) rfl))
    (xss_one (xs_if (ps_if (xt_op (pt_cmpR op_gt (x_var (pv 3)) (x_c pe_int fun _ => rp_int) (nomark _)) s_gt) (xss_one (xs_setIx (ps_asg (x_var (pv 3)) (pg_sub (x_at T.kn T.na_Board_kept (pe_fld (x_var (pv 0)) rfl)) (x_var (pv 1)) (set_dict (hu1 (hr.less (by decide)))))) s_setDc)) xss_nil)))))
/-! ### Board.put -/
abbrev s_Board_put : Stmt := inClass (topS 15) 8
theorem sc_Board_put : FnScope ["self", "square", "many"] ["self", "square", "many"] (defScope s_Board_put) := ⟨rfl, rfl, rfl, by decide +kernel, rfl, by decide +kernel, by decide +kernel⟩
theorem ok_Board_put {W : Wd} {ω : Om} {f : Addr} {fd : FuncData} (T : Txt W ω) (dF : Df W "put" "Board.put" s_Board_put f fd) (c_Board_need_square_1 : Met W 4 (ω.ad "Board") "need_square" 2 [] (fun vs _ => vs) (spM ω m_Board_need_square)) (c_is_whole_3 : Cal W 1 "is_whole" 3 [] (fun vs _ => vs) (spM ω m_is_whole)) (c_Board_many_0 : Met W 1 (ω.ad "Board") "many" 1 [] (fun vs _ => vs) (spM ω m_Board_many)) (c_Board_more_2 : Met W 2 (ω.ad "Board") "more" 3 [] (fun vs _ => vs) (spM ω m_Board_more)) : Fn W 5 f fd ["self", "square", "many"] (spM ω m_Board_put) :=
  fn_m dF sc_Board_put rfl rfl fun cd A out s H E hr => (xss_cons (xs_expr (ps_expr (x_callMF c_Board_need_square_1 hr (by decide) rfl pass (x_var (pv 0)) (xa_cons (x_var (pv 1)) xa_nil) xk_nil gok_id)))
    (xss_cons (xs_if (ps_if (xt_not (pt_not (xt_val (pt_val (x_callF c_is_whole_3 hr (by decide) rfl (by rfl) pass (xa_cons (x_var (pv 2)) (xa_cons (x_c pe_int fun _ => rp_int) (xa_cons (x_c (u_glob (by rfl) T.k_MOST_PUT) fun _ => rp_int) xa_nil))) xk_nil gok_id))))) (xss_one (xs_raise (ps_raise rfl (takes_of rfl rfl rfl rfl) (pmk_mkx T.x_NoNumber hr (by decide) (by rfl) (x_var (pv 2)))) rfl T.kc_NoNumber)) xss_nil))
    (xss_cons (xs_if (ps_if (xt_op (pt_cmpR op_gt (x_op (pe_op u_add (x_callMF0 c_Board_many_0 hr (by decide) rfl pass (x_var (pv 0)) xk_nil gok_id) (x_var (pv 2))) s_add) (x_c (u_glob (by rfl) T.k_MOST_MANY) fun _ => rp_int) (nomark _)) s_gt) (xss_one (xs_raise (ps_raise rfl (takes_of rfl rfl rfl rfl) (pmk_mkx T.x_TooMany hr (by decide) (by rfl) (x_op (pe_op u_add (x_callMF0 c_Board_many_0 hr (by decide) rfl pass (x_var (pv 0)) xk_nil gok_id) (x_var (pv 2))) s_add))) rfl T.kc_TooMany)) xss_nil))
    (xss_one (xs_expr (ps_expr (x_callMF c_Board_more_2 hr (by decide) rfl pass (x_var (pv 0)) (xa_cons (x_var (pv 1)) (xa_cons (x_var (pv 2)) xa_nil)) xk_nil gok_id)))))))
/-! ### product -/
abbrev s_product : Stmt := topS 25
theorem sc_product : FnScope ["one", "other", "found", "column", "line"] ["one", "other"] (defScope s_product) := ⟨rfl, rfl, rfl, by decide +kernel, rfl, by decide +kernel, by decide +kernel⟩
theorem ok_product {W : Wd} {ω : Om} {f : Addr} {fd : FuncData} (T : Txt W ω) (dF : Df W "product" "product" s_product f fd) (c_need_number_3 : Cal W 3 "need_number" 3 [] (fun vs _ => vs) (spM ω m_need_number)) (c_Board_new_2 : Mak W 3 "Board" (ω.ad "Board") 3 [] (fun vs _ => vs) (spM ω m_Board_init)) (c_ones_of_1 : Cal W 2 "ones_of" 1 [] (fun vs _ => vs) (spM ω m_ones_of)) (c_Board_put_1 : Met W 5 (ω.ad "Board") "put" 2 [] (fun vs ws => pick [0, 1, 2] (vs ++ ws ++ [.int 1])) (spM ω m_Board_put)) : Fn W 6 f fd ["one", "other"] (spM ω m_product) :=
  fn_m dF sc_product rfl rfl fun cd A out s H E hr => (xss_cons (xs_expr (ps_expr (x_callF c_need_number_3 hr (by decide) rfl (by rfl) pass (xa_cons (x_var (pv 0)) (xa_cons (x_c pe_int fun _ => rp_int) (xa_cons (x_c (u_glob (by rfl) T.k_MOST_SIDE) fun _ => rp_int) xa_nil))) xk_nil gok_id)))
    (xss_cons (xs_expr (ps_expr (x_callF c_need_number_3 hr (by decide) rfl (by rfl) pass (xa_cons (x_var (pv 1)) (xa_cons (x_c pe_int fun _ => rp_int) (xa_cons (x_c (u_glob (by rfl) T.k_MOST_SIDE) fun _ => rp_int) xa_nil))) xk_nil gok_id)))
    (xss_cons (xs_set (ps_set (i := 2) sc_product.nd rfl (Or.inl rfl) (x_newIF c_Board_new_2 T.ki_Board hr (by decide) rfl (by rfl) pass (xa_cons (x_c (u_glob (by rfl) T.k_SIDE) fun _ => rp_int) (xa_cons (x_c (u_glob (by rfl) T.k_SIDE) fun _ => rp_int) xa_nil)) xk_nil gok_id)))
    (xss_cons (xs_for (ps_for passOwn rfl (u_it (x_callF c_ones_of_1 hr (by decide) rfl (by rfl) pass (xa_cons (x_var (pv 0)) xa_nil) xk_nil gok_id)) (pg_name (i := 3) sc_product.nd rfl (Or.inl rfl)) (xss_one (xs_for (ps_for passOwn rfl (u_it (x_callF c_ones_of_1 hr (by decide) rfl (by rfl) pass (xa_cons (x_var (pv 1)) xa_nil) xk_nil gok_id)) (pg_name (i := 4) sc_product.nd rfl (Or.inl rfl)) (xss_one (xs_expr (ps_expr (x_callMF c_Board_put_1 hr (by decide) rfl pass (x_var (pv 2)) (xa_cons (x_tup (pe_tup (xa_cons (x_var (pv 3)) (xa_cons (x_var (pv 4)) xa_nil)))) xa_nil) xk_nil (gok_pickD fun g => (rps_cons rp_int rps_nil))))))) si_it sg_n))) si_it sg_n)
    (xss_one (xs_ret (ps_ret (x_var (pv 2)))))))))
/-! ### root -/
abbrev s_root : Stmt := topS 31
theorem sc_root : FnScope ["number", "found", "place", "more"] ["number"] (defScope s_root) := ⟨rfl, rfl, rfl, by decide +kernel, rfl, by decide +kernel, by decide +kernel⟩
theorem ok_root {W : Wd} {ω : Om} {f : Addr} {fd : FuncData} (T : Txt W ω) (dF : Df W "root" "root" s_root f fd) (c_need_number_3 : Cal W 3 "need_number" 3 [] (fun vs _ => vs) (spM ω m_need_number)) (c_product_2 : Cal W 6 "product" 2 [] (fun vs _ => vs) (spM ω m_product)) : Fn W 7 f fd ["number"] (spM ω m_root) :=
  fn_m dF sc_root rfl rfl fun cd A out s H E hr => (xss_cons (xs_expr (ps_expr (x_callF c_need_number_3 hr (by decide) rfl (by rfl) pass (xa_cons (x_var (pv 0)) (xa_cons (x_c pe_int fun _ => rp_int) (xa_cons (x_c (u_glob (by rfl) T.k_MOST_NUMBER) fun _ => rp_int) xa_nil))) xk_nil gok_id)))
    (xss_cons (xs_set (ps_set (i := 1) sc_root.nd rfl (Or.inl rfl) (x_c pe_int fun _ => rp_int)))
    (xss_cons (xs_for (ps_for passOwn rfl (pi_range3 (by rfl) T.n_range (xa_cons (x_op (pe_op op_sub (x_c (u_glob (by rfl) T.k_SIDE) fun _ => rp_int) (x_c pe_int fun _ => rp_int)) s_sub) (xa_cons (x_un (pe_un un_neg (x_c pe_int fun _ => rp_int)) s_neg) (xa_cons (x_un (pe_un un_neg (x_c pe_int fun _ => rp_int)) s_neg) xa_nil)))) (pg_name (i := 2) sc_root.nd rfl (Or.inl rfl)) (xss_cons (xs_set (ps_set (i := 3) sc_root.nd rfl (Or.inl rfl) (x_op (pe_op u_add (x_var (pv 1)) (x_op (pe_op op_shlW (x_c pe_int fun _ => rp_int) (x_var (pv 2))) s_shl)) s_add)))
    (xss_one (xs_if (ps_if (xt_op (pt_cmpR op_le (x_op (pe_op u_mul (x_var (pv 3)) (x_var (pv 3))) s_mul) (x_var (pv 0)) (nomark _)) s_le) (xss_one (xs_set (ps_set (i := 1) sc_root.nd rfl (Or.inl rfl) (x_var (pv 3))))) xss_nil))))) si_range3 sg_n)
    (xss_one (xs_ret (ps_ret (x_tup (pe_tup (xa_cons (x_callF c_product_2 hr (by decide) rfl (by rfl) pass (xa_cons (x_var (pv 1)) (xa_cons (x_var (pv 1)) xa_nil)) xk_nil gok_id) (xa_cons (x_op (pe_op op_sub (x_var (pv 0)) (x_op (pe_op u_mul (x_var (pv 1)) (x_var (pv 1))) s_mul)) s_sub) xa_nil))))))))))
/-! ### _law_just -/
abbrev s_law_just : Stmt := topS 37
theorem sc_law_just : FnScope ["told", "due"] ["told", "due"] (defScope s_law_just) := ⟨rfl, rfl, rfl, by decide +kernel, rfl, by decide +kernel, by decide +kernel⟩
theorem ok_law_just {W : Wd} {ω : Om} {f : Addr} {fd : FuncData} (T : Txt W ω) (dF : Df W "_law_just" "_law_just" s_law_just f fd) : Fn W 2 f fd ["told", "due"] (spM ω m_law_just) :=
  fn_m dF sc_law_just rfl rfl fun cd A out s H E hr => (xss_one (xs_ret (ps_ret (x_and (pe_and (x_op (pe_cmpR (u_eq (hr.less (by decide))) (x_var (pv 0)) (x_var (pv 1)) (nomark _)) s_eq) (pe_one (x_op (pe_cmpR (u_eq (hr.less (by decide))) (x_cb (pe_callB (u_repr (hr.less (by decide))) (by rfl) T.n_repr (by decide +kernel) (xa_cons (x_var (pv 0)) xa_nil)) (s_repr T.kn)) (x_cb (pe_callB (u_repr (hr.less (by decide))) (by rfl) T.n_repr (by decide +kernel) (xa_cons (x_var (pv 1)) xa_nil)) (s_repr T.kn)) (nomark _)) s_eq)))))))
/-! ### need_board -/
abbrev s_need_board : Stmt := topS 16
theorem sc_need_board : FnScope ["thing"] ["thing"] (defScope s_need_board) := ⟨rfl, rfl, rfl, by decide +kernel, rfl, by decide +kernel, by decide +kernel⟩
theorem ok_need_board {W : Wd} {ω : Om} {f : Addr} {fd : FuncData} (T : Txt W ω) (dF : Df W "need_board" "need_board" s_need_board f fd) : Fn W 3 f fd ["thing"] (spM ω m_need_board) :=
  fn_m dF sc_need_board rfl rfl fun cd A out s H E hr => (xss_one (xs_if (ps_if (xt_not (pt_not (xt_val (pt_val (x_isC T.kn T.ic_Board (pe_callB u_isU (by rfl) T.n_isinstance (by decide +kernel) (pa_cons (x_var (pv 0)) (pa_cons (pe_glob (by rfl) T.g_Board rfl) pa_nil)))))))) (xss_one (xs_raise (ps_raise rfl (takes_of rfl rfl rfl rfl) (pmk_mkx T.x_NoBoard hr (by decide) (by rfl) (x_var (pv 0)))) rfl T.kc_NoBoard)) xss_nil)))
/-! ### Board.counters -/
abbrev s_Board_counters : Stmt := inClass (topS 15) 10
theorem sc_Board_counters : FnScope ["self", "square"] ["self"] (defScope s_Board_counters) := ⟨rfl, rfl, rfl, by decide +kernel, rfl, by decide +kernel, by decide +kernel⟩
theorem ok_Board_counters {W : Wd} {ω : Om} {f : Addr} {fd : FuncData} (T : Txt W ω) (dF : Df W "counters" "Board.counters" s_Board_counters f fd) : Fn W 2 f fd ["self"] (spM ω m_Board_counters) :=
  fn_m dF sc_Board_counters rfl rfl fun cd A out s H E hr => (xss_one (xs_ret (ps_ret (x_cb (pe_callTy (u_dict rfl (rm65 (hr.less (by decide)))) (by rfl) T.n_dict (by decide +kernel) (xa_cons (x_lcM [("square", 1)] rfl rfl sc_Board_counters.nd (u_it (x_cb (pe_callB (cr_sortedD rfl) (by rfl) T.n_sorted (by decide +kernel) (xa_cons (x_at T.kn T.na_Board_kept (pe_fld (x_var (pv 0)) rfl)) xa_nil)) (s_sortD))) (blkOk_by (own := [("square", 1)]) (N := ["self", "square"]) (sc := defScope s_Board_counters) (by decide +kernel)) (fun _ _ _ _ _ => (pg_name (i := 1) sc_Board_counters.nd rfl (Or.inl rfl))) (fun _ _ _ _ _ => xp_nil) (fun _ _ _ _ _ => (x_tup (pe_tup (xa_cons (x_var (pv 1)) (xa_cons (x_dget (pe_dget (hu1 (hr.less (by decide))) (x_at T.kn T.na_Board_kept (pe_fld (x_var (pv 0)) rfl)) (x_var (pv 1)) (fun _ _ => rfl))) xa_nil))))) si_it sg_n) xa_nil)) s_dict))))
/-! ### factors -/
abbrev s_factors : Stmt := topS 26
theorem sc_factors : FnScope ["board", "squares", "columns", "square", "lines", "column", "line"] ["board"] (defScope s_factors) := ⟨rfl, rfl, rfl, by decide +kernel, rfl, by decide +kernel, by decide +kernel⟩
theorem ok_factors {W : Wd} {ω : Om} {f : Addr} {fd : FuncData} (T : Txt W ω) (dF : Df W "factors" "factors" s_factors f fd) (c_need_board_1 : Cal W 3 "need_board" 1 [] (fun vs _ => vs) (spM ω m_need_board)) (c_Board_counters_0 : Met W 2 (ω.ad "Board") "counters" 1 [] (fun vs _ => vs) (spM ω m_Board_counters)) (c_Board_many_0 : Met W 1 (ω.ad "Board") "many" 1 [] (fun vs _ => vs) (spM ω m_Board_many)) : Fn W 4 f fd ["board"] (spM ω m_factors) :=
  fn_m dF sc_factors rfl rfl fun cd A out s H E hr => (xss_cons (xs_expr (ps_expr (x_callF c_need_board_1 hr (by decide) rfl (by rfl) pass (xa_cons (x_var (pv 0)) xa_nil) xk_nil gok_id)))
    (xss_cons (xs_set (ps_set (i := 1) sc_factors.nd rfl (Or.inl rfl) (x_keysL (pe_callTy (call_list_dT rfl) (by rfl) T.n_list (by decide +kernel) (pa_cons (x_callMF0 c_Board_counters_0 hr (by decide) rfl pass (x_var (pv 0)) xk_nil gok_id) pa_nil)))))
    (xss_cons (xs_set (ps_set (i := 2) sc_factors.nd rfl (Or.inl rfl) (x_sortSet (pe_callB (cr_sortedSet rfl) (by rfl) T.n_sorted (by decide +kernel) (pa_cons (pe_callTy (cr_setI rfl) (by rfl) T.n_set (by decide +kernel) (pa_cons (x_lcM [("square", 3)] rfl rfl sc_factors.nd (u_it (x_var (pv 1))) (blkOk_by (own := [("square", 3)]) (N := ["board", "squares", "columns", "square", "lines", "column", "line"]) (sc := defScope s_factors) (by decide +kernel)) (fun _ _ _ _ _ => (pg_name (i := 3) sc_factors.nd rfl (Or.inl rfl))) (fun _ _ _ _ _ => xp_nil) (fun _ _ _ _ _ => (x_op (pe_ix ix_seq (x_var (pv 3)) (x_c pe_int fun _ => rp_int) (fun _ _ => rfl)) s_ix)) si_it sg_n) pa_nil)) pa_nil)))))
    (xss_cons (xs_set (ps_set (i := 4) sc_factors.nd rfl (Or.inl rfl) (x_sortSet (pe_callB (cr_sortedSet rfl) (by rfl) T.n_sorted (by decide +kernel) (pa_cons (pe_callTy (cr_setI rfl) (by rfl) T.n_set (by decide +kernel) (pa_cons (x_lcM [("square", 3)] rfl rfl sc_factors.nd (u_it (x_var (pv 1))) (blkOk_by (own := [("square", 3)]) (N := ["board", "squares", "columns", "square", "lines", "column", "line"]) (sc := defScope s_factors) (by decide +kernel)) (fun _ _ _ _ _ => (pg_name (i := 3) sc_factors.nd rfl (Or.inl rfl))) (fun _ _ _ _ _ => xp_nil) (fun _ _ _ _ _ => (x_op (pe_ix ix_seq (x_var (pv 3)) (x_c pe_int fun _ => rp_int) (fun _ _ => rfl)) s_ix)) si_it sg_n) pa_nil)) pa_nil)))))
    (xss_cons (xs_if (ps_if (PW.pt (xw_or (pw_or (xt_op (pt_cmpR (u_ne (hr.less (by decide))) (x_callMF0 c_Board_many_0 hr (by decide) rfl pass (x_var (pv 0)) xk_nil gok_id) (x_cb (pe_callB u_len (by rfl) T.n_len (by decide +kernel) (xa_cons (x_var (pv 1)) xa_nil)) (s_len)) (nomark _)) s_ne) (pw_or1 (xt_op (pt_cmpR (u_ne (hr.less (by decide))) (x_cb (pe_callB u_len (by rfl) T.n_len (by decide +kernel) (xa_cons (x_var (pv 1)) xa_nil)) (s_len)) (x_op (pe_op u_mul (x_cb (pe_callB u_len (by rfl) T.n_len (by decide +kernel) (xa_cons (x_var (pv 2)) xa_nil)) (s_len)) (x_cb (pe_callB u_len (by rfl) T.n_len (by decide +kernel) (xa_cons (x_var (pv 4)) xa_nil)) (s_len))) s_mul) (nomark _)) s_ne))))) (xss_one (xs_ret (ps_ret (x_c pe_non fun _ => rp_non)))) xss_nil))
    (xss_one (xs_ret (ps_ret (x_tup (pe_tup (xa_cons (x_cb (pe_callB (cr_sum rfl) (by rfl) T.n_sum (by decide +kernel) (xa_cons (x_lcM [("column", 5)] rfl rfl sc_factors.nd (u_it (x_var (pv 2))) (blkOk_by (own := [("column", 5)]) (N := ["board", "squares", "columns", "square", "lines", "column", "line"]) (sc := defScope s_factors) (by decide +kernel)) (fun _ _ _ _ _ => (pg_name (i := 5) sc_factors.nd rfl (Or.inl rfl))) (fun _ _ _ _ _ => xp_nil) (fun _ _ _ _ _ => (x_op (pe_op op_shlW (x_c pe_int fun _ => rp_int) (x_var (pv 5))) s_shl)) si_it sg_n) xa_nil)) (s_sum)) (xa_cons (x_cb (pe_callB (cr_sum rfl) (by rfl) T.n_sum (by decide +kernel) (xa_cons (x_lcM [("line", 6)] rfl rfl sc_factors.nd (u_it (x_var (pv 4))) (blkOk_by (own := [("line", 6)]) (N := ["board", "squares", "columns", "square", "lines", "column", "line"]) (sc := defScope s_factors) (by decide +kernel)) (fun _ _ _ _ _ => (pg_name (i := 6) sc_factors.nd rfl (Or.inl rfl))) (fun _ _ _ _ _ => xp_nil) (fun _ _ _ _ _ => (x_op (pe_op op_shlW (x_c pe_int fun _ => rp_int) (x_var (pv 6))) s_shl)) si_it sg_n) xa_nil)) (s_sum)) xa_nil))))))))))))
/-! ### Board.__eq__ -/
abbrev s_Board_eq : Stmt := inClass (topS 15) 1
theorem sc_Board_eq : FnScope ["self", "other"] ["self", "other"] (defScope s_Board_eq) := ⟨rfl, rfl, rfl, by decide +kernel, rfl, by decide +kernel, by decide +kernel⟩
theorem ok_Board_eq {W : Wd} {ω : Om} {f : Addr} {fd : FuncData} (T : Txt W ω) (dF : Df W "__eq__" "Board.__eq__" s_Board_eq f fd) : Fn W 2 f fd ["self", "other"] (spM ω m_Board_eq) :=
  fn_m dF sc_Board_eq rfl rfl fun cd A out s H E hr => (xss_cons (xs_if (ps_if (xt_not (pt_not (xt_val (pt_val (x_isC T.kn T.ic_Board (pe_callB u_isU (by rfl) T.n_isinstance (by decide +kernel) (pa_cons (x_var (pv 1)) (pa_cons (pe_glob (by rfl) T.g_Board rfl) pa_nil)))))))) (xss_one (xs_ret (ps_ret (x_c pe_bl fun _ => rp_bl)))) xss_nil))
    (xss_cons (xs_if (ps_if (PW.pt (xw_or (pw_or (xt_op (pt_cmpR (u_ne (hr.less (by decide))) (x_at T.kn T.na_Board_columns (pe_fld (x_var (pv 0)) rfl)) (x_at T.kn T.na_Board_columns (pe_fld (x_var (pv 1)) rfl)) (nomark _)) s_ne) (pw_or1 (xt_op (pt_cmpR (u_ne (hr.less (by decide))) (x_at T.kn T.na_Board_lines (pe_fld (x_var (pv 0)) rfl)) (x_at T.kn T.na_Board_lines (pe_fld (x_var (pv 1)) rfl)) (nomark _)) s_ne))))) (xss_one (xs_ret (ps_ret (x_c pe_bl fun _ => rp_bl)))) xss_nil))
    (xss_one (xs_ret (ps_ret (x_opw (pe_cmpR (op_eqDT (hu3 (hr.less (by decide)))) (x_at T.kn T.na_Board_kept (pe_fld (x_var (pv 0)) rfl)) (x_at T.kn T.na_Board_kept (pe_fld (x_var (pv 1)) rfl)) (nomark _)) s_eqDT))))))
/-! ### is_pair -/
abbrev s_is_pair : Stmt := topS 29
theorem sc_is_pair : FnScope ["thing"] ["thing"] (defScope s_is_pair) := ⟨rfl, rfl, rfl, by decide +kernel, rfl, by decide +kernel, by decide +kernel⟩
theorem ok_is_pair {W : Wd} {ω : Om} {f : Addr} {fd : FuncData} (T : Txt W ω) (dF : Df W "is_pair" "is_pair" s_is_pair f fd) (c_is_whole_3 : Cal W 1 "is_whole" 3 [] (fun vs _ => vs) (spM ω m_is_whole)) : Fn W 2 f fd ["thing"] (spM ω m_is_pair) :=
  fn_m dF sc_is_pair rfl rfl fun cd A out s H E hr => (xss_cons (xs_if (ps_if (PW.pt (xw_or (pw_or (xt_not (pt_not (xt_val (pt_val (x_isT T.kn (pe_callB u_isU (by rfl) T.n_isinstance (by decide +kernel) (pa_cons (x_var (pv 0)) (pa_cons (pe_bltn (v := .ty "tuple") (by rfl) T.n_tuple (by decide +kernel) rfl) pa_nil)))))))) (xw_or (pw_or (xt_op (pt_cmpR (u_ne (hr.less (by decide))) (x_cb (pe_callB u_len (by rfl) T.n_len (by decide +kernel) (xa_cons (x_var (pv 0)) xa_nil)) (s_len)) (x_c pe_int fun _ => rp_int) (nomark _)) s_ne) (pw_or1 (xt_not (pt_not (xt_val (pt_val (x_isC T.kn T.ic_Board (pe_callB u_isU (by rfl) T.n_isinstance (by decide +kernel) (pa_cons (x_op (pe_ix ix_seq (x_var (pv 0)) (x_c pe_int fun _ => rp_int) (fun _ _ => rfl)) s_ix) (pa_cons (pe_glob (by rfl) T.g_Board rfl) pa_nil)))))))))))))) (xss_one (xs_ret (ps_ret (x_c pe_bl fun _ => rp_bl)))) xss_nil))
    (xss_one (xs_ret (ps_ret (x_callF c_is_whole_3 hr (by decide) rfl (by rfl) pass (xa_cons (x_op (pe_ix ix_seq (x_var (pv 0)) (x_c pe_int fun _ => rp_int) (fun _ _ => rfl)) s_ix) (xa_cons (x_c pe_int fun _ => rp_int) (xa_cons (x_c (u_glob (by rfl) T.k_MOST_NUMBER) fun _ => rp_int) xa_nil))) xk_nil gok_id)))))
/-! ### shows_root -/
abbrev s_shows_root : Stmt := topS 32
theorem sc_shows_root : FnScope ["number", "thing", "pair"] ["number", "thing"] (defScope s_shows_root) := ⟨rfl, rfl, rfl, by decide +kernel, rfl, by decide +kernel, by decide +kernel⟩
theorem ok_shows_root {W : Wd} {ω : Om} {f : Addr} {fd : FuncData} (T : Txt W ω) (dF : Df W "shows_root" "shows_root" s_shows_root f fd) (c_need_number_3 : Cal W 3 "need_number" 3 [] (fun vs _ => vs) (spM ω m_need_number)) (c_is_pair_1 : Cal W 2 "is_pair" 1 [] (fun vs _ => vs) (spM ω m_is_pair)) (c_factors_1 : Cal W 4 "factors" 1 [] (fun vs _ => vs) (spM ω m_factors)) : Fn W 5 f fd ["number", "thing"] (spM ω m_shows_root) :=
  fn_m dF sc_shows_root rfl rfl fun cd A out s H E hr => (xss_cons (xs_expr (ps_expr (x_callF c_need_number_3 hr (by decide) rfl (by rfl) pass (xa_cons (x_var (pv 0)) (xa_cons (x_c pe_int fun _ => rp_int) (xa_cons (x_c (u_glob (by rfl) T.k_MOST_NUMBER) fun _ => rp_int) xa_nil))) xk_nil gok_id)))
    (xss_cons (xs_if (ps_if (xt_not (pt_not (xt_val (pt_val (x_callF c_is_pair_1 hr (by decide) rfl (by rfl) pass (xa_cons (x_var (pv 1)) xa_nil) xk_nil gok_id))))) (xss_one (xs_ret (ps_ret (x_c pe_bl fun _ => rp_bl)))) xss_nil))
    (xss_cons (xs_set (ps_set (i := 2) sc_shows_root.nd rfl (Or.inl rfl) (x_callF c_factors_1 hr (by decide) rfl (by rfl) pass (xa_cons (x_op (pe_ix ix_seq (x_var (pv 1)) (x_c pe_int fun _ => rp_int) (fun _ _ => rfl)) s_ix) xa_nil) xk_nil gok_id)))
    (xss_cons (xs_if (ps_if (PW.pt (xw_or (pw_or (xt_op (pt_cmpR op_isN (x_var (pv 2)) (x_c pe_non fun _ => rp_non) (nomark _)) s_isn) (pw_or1 (xt_op (pt_cmpR (u_ne (hr.less (by decide))) (x_op (pe_ix ix_seq (x_var (pv 2)) (x_c pe_int fun _ => rp_int) (fun _ _ => rfl)) s_ix) (x_op (pe_ix ix_seq (x_var (pv 2)) (x_c pe_int fun _ => rp_int) (fun _ _ => rfl)) s_ix) (nomark _)) s_ne))))) (xss_one (xs_ret (ps_ret (x_c pe_bl fun _ => rp_bl)))) xss_nil))
    (xss_one (xs_ret (ps_ret (x_and (pe_and (x_op (pe_cmpR op_le (x_op (pe_ix ix_seq (x_var (pv 1)) (x_c pe_int fun _ => rp_int) (fun _ _ => rfl)) s_ix) (x_op (pe_op u_mul (x_c pe_int fun _ => rp_int) (x_op (pe_ix ix_seq (x_var (pv 2)) (x_c pe_int fun _ => rp_int) (fun _ _ => rfl)) s_ix)) s_mul) (nomark _)) s_le) (pe_one (x_op (pe_cmpR (u_eq (hr.less (by decide))) (x_op (pe_op u_add (x_op (pe_op u_mul (x_op (pe_ix ix_seq (x_var (pv 2)) (x_c pe_int fun _ => rp_int) (fun _ _ => rfl)) s_ix) (x_op (pe_ix ix_seq (x_var (pv 2)) (x_c pe_int fun _ => rp_int) (fun _ _ => rfl)) s_ix)) s_mul) (x_op (pe_ix ix_seq (x_var (pv 1)) (x_c pe_int fun _ => rp_int) (fun _ _ => rfl)) s_ix)) s_add) (x_var (pv 0)) (nomark _)) s_eq)))))))))))
/-! ### _law_root_right -/
abbrev s_law_root_right : Stmt := topS 40
theorem sc_law_root_right : FnScope ["one", "rest", "number", "board", "found", "judged"] ["one", "rest"] (defScope s_law_root_right) := ⟨rfl, rfl, rfl, by decide +kernel, rfl, by decide +kernel, by decide +kernel⟩
theorem ok_law_root_right {W : Wd} {ω : Om} {f : Addr} {fd : FuncData} (T : Txt W ω) (dF : Df W "_law_root_right" "_law_root_right" s_law_root_right f fd) (c_product_2 : Cal W 6 "product" 2 [] (fun vs _ => vs) (spM ω m_product)) (c_root_1 : Cal W 7 "root" 1 [] (fun vs _ => vs) (spM ω m_root)) (c_law_just_2 : Cal W 2 "_law_just" 2 [] (fun vs _ => vs) (spM ω m_law_just)) (c_factors_1 : Cal W 4 "factors" 1 [] (fun vs _ => vs) (spM ω m_factors)) (c_Board_eq_1 : Met W 2 (ω.ad "Board") "__eq__" 2 [] (fun vs _ => vs) (spM ω m_Board_eq)) (c_shows_root_2 : Cal W 5 "shows_root" 2 [] (fun vs _ => vs) (spM ω m_shows_root)) : Fn W 8 f fd ["one", "rest"] (spM ω m_law_root_right) :=
  fn_m dF sc_law_root_right rfl rfl fun cd A out s H E hr => (xss_cons (xs_par (ps_par (i := 2) (j := 3) rfl sc_law_root_right.nd rfl rfl (by decide) rfl rfl (xa_cons (x_op (pe_op u_add (x_op (pe_op u_mul (x_var (pv 0)) (x_var (pv 0))) s_mul) (x_var (pv 1))) s_add) (xa_cons (x_callF c_product_2 hr (by decide) rfl (by rfl) pass (xa_cons (x_var (pv 0)) (xa_cons (x_var (pv 0)) xa_nil)) xk_nil gok_id) xa_nil)) (by rfl)))
    (xss_cons (xs_set (ps_set (i := 4) sc_law_root_right.nd rfl (Or.inl rfl) (x_callF c_root_1 hr (by decide) rfl (by rfl) pass (xa_cons (x_var (pv 2)) xa_nil) xk_nil gok_id)))
    (xss_cons (xs_if (ps_if (PW.pt (xw_or (pw_or (xt_opw (pt_cmpR (op_neI c_Board_eq_1 (fun _ _ => rfl) hr (by decide) T.ne_Board.1 T.ne_Board.2) (x_op (pe_ix ix_seq (x_var (pv 4)) (x_c pe_int fun _ => rp_int) (fun _ _ => rfl)) s_ix) (x_var (pv 3)) (nomark _)) s_eqI) (pw_or1 (xt_not (pt_not (xt_val (pt_val (x_callF c_law_just_2 hr (by decide) rfl (by rfl) pass (xa_cons (x_lst (pe_lst (xa_cons (x_op (pe_ix ix_seq (x_var (pv 4)) (x_c pe_int fun _ => rp_int) (fun _ _ => rfl)) s_ix) (xa_cons (x_callF c_factors_1 hr (by decide) rfl (by rfl) pass (xa_cons (x_var (pv 3)) xa_nil) xk_nil gok_id) xa_nil)))) (xa_cons (x_lst (pe_lst (xa_cons (x_var (pv 1)) (xa_cons (x_tup (pe_tup (xa_cons (x_var (pv 0)) (xa_cons (x_var (pv 0)) xa_nil)))) xa_nil)))) xa_nil)) xk_nil gok_id))))))))) (xss_one (xs_ret (ps_ret (x_c pe_bl fun _ => rp_bl)))) xss_nil))
    (xss_cons (xs_set (ps_set (i := 5) sc_law_root_right.nd rfl (Or.inl rfl) (x_lst (pe_lst (xa_cons (x_callF c_shows_root_2 hr (by decide) rfl (by rfl) pass (xa_cons (x_var (pv 2)) (xa_cons (x_var (pv 4)) xa_nil)) xk_nil gok_id) (xa_cons (x_callF c_shows_root_2 hr (by decide) rfl (by rfl) pass (xa_cons (x_var (pv 2)) (xa_cons (x_tup (pe_tup (xa_cons (x_var (pv 3)) (xa_cons (x_op (pe_op u_add (x_var (pv 1)) (x_c pe_int fun _ => rp_int)) s_add) xa_nil)))) xa_nil)) xk_nil gok_id) (xa_cons (x_callF c_shows_root_2 hr (by decide) rfl (by rfl) pass (xa_cons (x_var (pv 2)) (xa_cons (x_tup (pe_tup (xa_cons (x_var (pv 3)) (xa_cons (x_var (pv 1)) xa_nil)))) xa_nil)) xk_nil gok_id) xa_nil)))))))
    (xss_one (xs_ret (ps_ret (x_callF c_law_just_2 hr (by decide) rfl (by rfl) pass (xa_cons (x_var (pv 5)) (xa_cons (x_lst (pe_lst (xa_cons (x_c pe_bl fun _ => rp_bl) (xa_cons (x_c pe_bl fun _ => rp_bl) (xa_cons (x_c pe_bl fun _ => rp_bl) xa_nil))))) xa_nil)) xk_nil gok_id))))))))
/-! ### steps -/
abbrev s_steps : Stmt := topS 27
theorem sc_steps : FnScope ["number", "by", "found", "place"] ["number", "by"] (defScope s_steps) := ⟨rfl, rfl, rfl, by decide +kernel, rfl, by decide +kernel, by decide +kernel⟩
theorem ok_steps {W : Wd} {ω : Om} {f : Addr} {fd : FuncData} (T : Txt W ω) (dF : Df W "steps" "steps" s_steps f fd) (c_need_number_3 : Cal W 3 "need_number" 3 [] (fun vs _ => vs) (spM ω m_need_number)) : Fn W 4 f fd ["number", "by"] (spM ω m_steps) :=
  fn_m dF sc_steps rfl rfl fun cd A out s H E hr => (xss_cons (xs_expr (ps_expr (x_callF c_need_number_3 hr (by decide) rfl (by rfl) pass (xa_cons (x_var (pv 0)) (xa_cons (x_c pe_int fun _ => rp_int) (xa_cons (x_c (u_glob (by rfl) T.k_MOST_NUMBER) fun _ => rp_int) xa_nil))) xk_nil gok_id)))
    (xss_cons (xs_expr (ps_expr (x_callF c_need_number_3 hr (by decide) rfl (by rfl) pass (xa_cons (x_var (pv 1)) (xa_cons (x_c pe_int fun _ => rp_int) (xa_cons (x_c (u_glob (by rfl) T.k_MOST_SIDE) fun _ => rp_int) xa_nil))) xk_nil gok_id)))
    (xss_cons (xs_if (ps_if (xt_op (pt_cmpR op_ge (x_var (pv 0)) (x_op (pe_op op_shlW (x_var (pv 1)) (x_c (u_glob (by rfl) T.k_SIDE) fun _ => rp_int)) s_shl) (nomark _)) s_ge) (xss_one (xs_raise (ps_raise rfl (takes_of rfl rfl rfl rfl) (pmk_mkx T.x_TooGreat hr (by decide) (by rfl) (x_var (pv 0)))) rfl T.kc_TooGreat)) xss_nil))
    (xss_cons (xs_set (ps_set (i := 2) sc_steps.nd rfl (Or.inl rfl) (x_lst (pe_lst xa_nil))))
    (xss_cons (xs_for (ps_for passOwn rfl (pi_range3 (by rfl) T.n_range (xa_cons (x_op (pe_op op_sub (x_c (u_glob (by rfl) T.k_SIDE) fun _ => rp_int) (x_c pe_int fun _ => rp_int)) s_sub) (xa_cons (x_un (pe_un un_neg (x_c pe_int fun _ => rp_int)) s_neg) (xa_cons (x_un (pe_un un_neg (x_c pe_int fun _ => rp_int)) s_neg) xa_nil)))) (pg_name (i := 3) sc_steps.nd rfl (Or.inl rfl)) (xss_one (xs_if (ps_if (xt_op (pt_cmpR op_ge (x_var (pv 0)) (x_op (pe_op op_shlW (x_var (pv 1)) (x_var (pv 3))) s_shl) (nomark _)) s_ge) (xss_cons (xs_set (ps_set (i := 0) sc_steps.nd rfl (Or.inl rfl) (x_op (pe_op op_sub (x_var (pv 0)) (x_op (pe_op op_shlW (x_var (pv 1)) (x_var (pv 3))) s_shl)) s_sub)))
    (xss_one (xs_expr (ps_expr (x_bl (pe_bm PySem.F.plainAttrs_list PySem.F.slot_list_append PySem.F.type_list_append mt_append (x_var (pv 2)) (xa_cons (x_tup (pe_tup (xa_cons (x_var (pv 3)) (xa_cons (x_var (pv 0)) xa_nil)))) xa_nil)) s_app))))) xss_nil)))) si_range3 sg_n)
    (xss_one (xs_ret (ps_ret (x_var (pv 2))))))))))
/-! ### quotient -/
abbrev s_quotient : Stmt := topS 28
theorem sc_quotient : FnScope ["number", "by", "found", "rest", "place", "left"] ["number", "by"] (defScope s_quotient) := ⟨rfl, rfl, rfl, by decide +kernel, rfl, by decide +kernel, by decide +kernel⟩
theorem ok_quotient {W : Wd} {ω : Om} {f : Addr} {fd : FuncData} (T : Txt W ω) (dF : Df W "quotient" "quotient" s_quotient f fd) (c_steps_2 : Cal W 4 "steps" 2 [] (fun vs _ => vs) (spM ω m_steps)) (c_product_2 : Cal W 6 "product" 2 [] (fun vs _ => vs) (spM ω m_product)) : Fn W 7 f fd ["number", "by"] (spM ω m_quotient) :=
  fn_m dF sc_quotient rfl rfl fun cd A out s H E hr => (xss_cons (xs_set (ps_set (i := 2) sc_quotient.nd rfl (Or.inl rfl) (x_callF c_steps_2 hr (by decide) rfl (by rfl) pass (xa_cons (x_var (pv 0)) (xa_cons (x_var (pv 1)) xa_nil)) xk_nil gok_id)))
    (xss_cons (xs_set (ps_set (i := 3) sc_quotient.nd rfl (Or.inl rfl) (x_ifE (pe_ifExp (xt_op (pt_cmpR op_gt (x_cb (pe_callB u_len (by rfl) T.n_len (by decide +kernel) (xa_cons (x_var (pv 2)) xa_nil)) (s_len)) (x_c pe_int fun _ => rp_int) (nomark _)) s_gt) (x_op (pe_ix ix_seq (x_op (pe_ix ix_seq (x_var (pv 2)) (x_un (pe_un un_neg (x_c pe_int fun _ => rp_int)) s_neg) (fun _ _ => rfl)) s_ix) (x_c pe_int fun _ => rp_int) (fun _ _ => rfl)) s_ix) (x_var (pv 0))))))
    (xss_one (xs_ret (ps_ret (x_tup (pe_tup (xa_cons (x_callF c_product_2 hr (by decide) rfl (by rfl) pass (xa_cons (x_var (pv 1)) (xa_cons (x_cb (pe_callB (cr_sum rfl) (by rfl) T.n_sum (by decide +kernel) (xa_cons (x_lcM [("place", 4), ("left", 5)] rfl rfl sc_quotient.nd (u_it (x_var (pv 2))) (blkOk_by (own := [("place", 4), ("left", 5)]) (N := ["number", "by", "found", "rest", "place", "left"]) (sc := defScope s_quotient) (by decide +kernel)) (fun _ _ _ _ _ => (pg_tup (n := 2) rfl (pgs_cons (pg_name (i := 4) sc_quotient.nd rfl (Or.inl rfl)) (pgs_cons (pg_name (i := 5) sc_quotient.nd rfl (Or.inl rfl)) pgs_nil)))) (fun _ _ _ _ _ => xp_nil) (fun _ _ _ _ _ => (x_op (pe_op op_shlW (x_c pe_int fun _ => rp_int) (x_var (pv 4))) s_shl)) si_it (sg_t (sgs_cons sg_n (sgs_cons sg_n sgs_nil)))) xa_nil)) (s_sum)) xa_nil)) xk_nil gok_id) (xa_cons (x_var (pv 3)) xa_nil)))))))))
/-! ### Board.worth -/
abbrev s_Board_worth : Stmt := inClass (topS 15) 12
theorem sc_Board_worth : FnScope ["self", "square"] ["self"] (defScope s_Board_worth) := ⟨rfl, rfl, rfl, by decide +kernel, rfl, by decide +kernel, by decide +kernel⟩
theorem ok_Board_worth {W : Wd} {ω : Om} {f : Addr} {fd : FuncData} (T : Txt W ω) (dF : Df W "worth" "Board.worth" s_Board_worth f fd) : Fn W 2 f fd ["self"] (spM ω m_Board_worth) :=
  fn_m dF sc_Board_worth rfl rfl fun cd A out s H E hr => (xss_one (xs_ret (ps_ret (x_cb (pe_callB (cr_sum rfl) (by rfl) T.n_sum (by decide +kernel) (xa_cons (x_unl (x_lcM [("square", 1)] rfl rfl sc_Board_worth.nd (u_keysD (x_at T.kn T.na_Board_kept (pe_fld (x_var (pv 0)) rfl))) (blkOk_by (own := [("square", 1)]) (N := ["self", "square"]) (sc := defScope s_Board_worth) (by decide +kernel)) (fun _ _ _ _ _ => (pg_name (i := 1) sc_Board_worth.nd rfl (Or.inl rfl))) (fun _ _ _ _ _ => xp_nil) (fun _ _ _ _ _ => (x_op (pe_op op_shlW (x_dget (pe_dget (hu1 (hr.less (by decide))) (x_at T.kn T.na_Board_kept (pe_fld (x_var (pv 0)) rfl)) (x_var (pv 1)) (fun _ _ => rfl))) (x_op (pe_op u_add (x_op (pe_ix ix_seq (x_var (pv 1)) (x_c pe_int fun _ => rp_int) (fun _ _ => rfl)) s_ix) (x_op (pe_ix ix_seq (x_var (pv 1)) (x_c pe_int fun _ => rp_int) (fun _ _ => rfl)) s_ix)) s_add)) s_shl)) si_keysD sg_n)) xa_nil)) (s_sum)))))
/-! ### shows_quotient -/
abbrev s_shows_quotient : Stmt := topS 30
theorem sc_shows_quotient : FnScope ["number", "by", "thing", "pair"] ["number", "by", "thing"] (defScope s_shows_quotient) := ⟨rfl, rfl, rfl, by decide +kernel, rfl, by decide +kernel, by decide +kernel⟩
theorem ok_shows_quotient {W : Wd} {ω : Om} {f : Addr} {fd : FuncData} (T : Txt W ω) (dF : Df W "shows_quotient" "shows_quotient" s_shows_quotient f fd) (c_need_number_3 : Cal W 3 "need_number" 3 [] (fun vs _ => vs) (spM ω m_need_number)) (c_is_pair_1 : Cal W 2 "is_pair" 1 [] (fun vs _ => vs) (spM ω m_is_pair)) (c_factors_1 : Cal W 4 "factors" 1 [] (fun vs _ => vs) (spM ω m_factors)) : Fn W 5 f fd ["number", "by", "thing"] (spM ω m_shows_quotient) :=
  fn_m dF sc_shows_quotient rfl rfl fun cd A out s H E hr => (xss_cons (xs_expr (ps_expr (x_callF c_need_number_3 hr (by decide) rfl (by rfl) pass (xa_cons (x_var (pv 0)) (xa_cons (x_c pe_int fun _ => rp_int) (xa_cons (x_c (u_glob (by rfl) T.k_MOST_NUMBER) fun _ => rp_int) xa_nil))) xk_nil gok_id)))
    (xss_cons (xs_expr (ps_expr (x_callF c_need_number_3 hr (by decide) rfl (by rfl) pass (xa_cons (x_var (pv 1)) (xa_cons (x_c pe_int fun _ => rp_int) (xa_cons (x_c (u_glob (by rfl) T.k_MOST_SIDE) fun _ => rp_int) xa_nil))) xk_nil gok_id)))
    (xss_cons (xs_if (ps_if (xt_not (pt_not (xt_val (pt_val (x_callF c_is_pair_1 hr (by decide) rfl (by rfl) pass (xa_cons (x_var (pv 2)) xa_nil) xk_nil gok_id))))) (xss_one (xs_ret (ps_ret (x_c pe_bl fun _ => rp_bl)))) xss_nil))
    (xss_cons (xs_set (ps_set (i := 3) sc_shows_quotient.nd rfl (Or.inl rfl) (x_callF c_factors_1 hr (by decide) rfl (by rfl) pass (xa_cons (x_op (pe_ix ix_seq (x_var (pv 2)) (x_c pe_int fun _ => rp_int) (fun _ _ => rfl)) s_ix) xa_nil) xk_nil gok_id)))
    (xss_cons (xs_if (ps_if (PW.pt (xw_or (pw_or (xt_op (pt_cmpR op_isN (x_var (pv 3)) (x_c pe_non fun _ => rp_non) (nomark _)) s_isn) (pw_or1 (PW.pt (xw_and (pw_and (xt_op (pt_cmpR (u_ne (hr.less (by decide))) (x_var (pv 3)) (x_tup (pe_tup (xa_cons (x_c pe_int fun _ => rp_int) (xa_cons (x_c pe_int fun _ => rp_int) xa_nil)))) (nomark _)) s_ne) (pw_and1 (xt_op (pt_cmpR (u_ne (hr.less (by decide))) (x_op (pe_ix ix_seq (x_var (pv 3)) (x_c pe_int fun _ => rp_int) (fun _ _ => rfl)) s_ix) (x_var (pv 1)) (nomark _)) s_ne))))))))) (xss_one (xs_ret (ps_ret (x_c pe_bl fun _ => rp_bl)))) xss_nil))
    (xss_one (xs_ret (ps_ret (x_and (pe_and (x_op (pe_cmpR op_lt (x_op (pe_ix ix_seq (x_var (pv 2)) (x_c pe_int fun _ => rp_int) (fun _ _ => rfl)) s_ix) (x_var (pv 1)) (nomark _)) s_lt) (pe_one (x_op (pe_cmpR (u_eq (hr.less (by decide))) (x_op (pe_op u_add (x_op (pe_op u_mul (x_var (pv 1)) (x_op (pe_ix ix_seq (x_var (pv 3)) (x_c pe_int fun _ => rp_int) (fun _ _ => rfl)) s_ix)) s_mul) (x_op (pe_ix ix_seq (x_var (pv 2)) (x_c pe_int fun _ => rp_int) (fun _ _ => rfl)) s_ix)) s_add) (x_var (pv 0)) (nomark _)) s_eq))))))))))))
/-! ### places_of -/
abbrev s_places_of : Stmt := topS 20
theorem sc_places_of : FnScope ["number"] ["number"] (defScope s_places_of) := ⟨rfl, rfl, rfl, by decide +kernel, rfl, by decide +kernel, by decide +kernel⟩
theorem ok_places_of {W : Wd} {ω : Om} {f : Addr} {fd : FuncData} (T : Txt W ω) (dF : Df W "places_of" "places_of" s_places_of f fd) (c_is_whole_3 : Cal W 1 "is_whole" 3 [] (fun vs _ => vs) (spM ω m_is_whole)) (c_ones_of_1 : Cal W 2 "ones_of" 1 [] (fun vs _ => vs) (spM ω m_ones_of)) : Fn W 3 f fd ["number"] (spM ω m_places_of) :=
  fn_m dF sc_places_of rfl rfl fun cd A out s H E hr => (xss_cons (xs_if (ps_if (xt_not (pt_not (xt_val (pt_val (x_callF c_is_whole_3 hr (by decide) rfl (by rfl) pass (xa_cons (x_var (pv 0)) (xa_cons (x_c pe_int fun _ => rp_int) (xa_cons (x_c (u_glob (by rfl) T.k_MOST) fun _ => rp_int) xa_nil))) xk_nil gok_id))))) (xss_one (xs_raise (ps_raise rfl (takes_of rfl rfl rfl rfl) (pmk_mkx T.x_NoNumber hr (by decide) (by rfl) (x_var (pv 0)))) rfl T.kc_NoNumber)) xss_nil))
    (xss_one (xs_ret (ps_ret (x_callF c_ones_of_1 hr (by decide) rfl (by rfl) pass (xa_cons (x_var (pv 0)) xa_nil) xk_nil gok_id)))))
/-! ### _law_right -/
abbrev s_law_right : Stmt := topS 39
theorem sc_law_right : FnScope ["one", "other", "rest", "number", "board", "found", "judged", "row", "place", "left"] ["one", "other", "rest"] (defScope s_law_right) := ⟨rfl, rfl, rfl, by decide +kernel, rfl, by decide +kernel, by decide +kernel⟩
theorem ok_law_right {W : Wd} {ω : Om} {f : Addr} {fd : FuncData} (T : Txt W ω) (dF : Df W "_law_right" "_law_right" s_law_right f fd) (c_product_2 : Cal W 6 "product" 2 [] (fun vs _ => vs) (spM ω m_product)) (c_quotient_2 : Cal W 7 "quotient" 2 [] (fun vs _ => vs) (spM ω m_quotient)) (c_law_just_2 : Cal W 2 "_law_just" 2 [] (fun vs _ => vs) (spM ω m_law_just)) (c_Board_worth_0 : Met W 2 (ω.ad "Board") "worth" 1 [] (fun vs _ => vs) (spM ω m_Board_worth)) (c_Board_eq_1 : Met W 2 (ω.ad "Board") "__eq__" 2 [] (fun vs _ => vs) (spM ω m_Board_eq)) (c_shows_quotient_3 : Cal W 5 "shows_quotient" 3 [] (fun vs _ => vs) (spM ω m_shows_quotient)) (c_steps_2 : Cal W 4 "steps" 2 [] (fun vs _ => vs) (spM ω m_steps)) (c_places_of_1 : Cal W 3 "places_of" 1 [] (fun vs _ => vs) (spM ω m_places_of)) : Fn W 8 f fd ["one", "other", "rest"] (spM ω m_law_right) :=
  fn_m dF sc_law_right rfl rfl fun cd A out s H E hr => (xss_cons (xs_par (ps_par (i := 3) (j := 4) rfl sc_law_right.nd rfl rfl (by decide) rfl rfl (xa_cons (x_op (pe_op u_add (x_op (pe_op u_mul (x_var (pv 0)) (x_var (pv 1))) s_mul) (x_var (pv 2))) s_add) (xa_cons (x_callF c_product_2 hr (by decide) rfl (by rfl) pass (xa_cons (x_var (pv 0)) (xa_cons (x_var (pv 1)) xa_nil)) xk_nil gok_id) xa_nil)) (by rfl)))
    (xss_cons (xs_set (ps_set (i := 5) sc_law_right.nd rfl (Or.inl rfl) (x_callF c_quotient_2 hr (by decide) rfl (by rfl) pass (xa_cons (x_var (pv 3)) (xa_cons (x_var (pv 0)) xa_nil)) xk_nil gok_id)))
    (xss_cons (xs_if (ps_if (PW.pt (xw_or (pw_or (xt_opw (pt_cmpR (op_neI c_Board_eq_1 (fun _ _ => rfl) hr (by decide) T.ne_Board.1 T.ne_Board.2) (x_op (pe_ix ix_seq (x_var (pv 5)) (x_c pe_int fun _ => rp_int) (fun _ _ => rfl)) s_ix) (x_var (pv 4)) (nomark _)) s_eqI) (pw_or1 (xt_not (pt_not (xt_val (pt_val (x_callF c_law_just_2 hr (by decide) rfl (by rfl) pass (xa_cons (x_lst (pe_lst (xa_cons (x_op (pe_ix ix_seq (x_var (pv 5)) (x_c pe_int fun _ => rp_int) (fun _ _ => rfl)) s_ix) (xa_cons (x_op (pe_op u_add (x_callMF0 c_Board_worth_0 hr (by decide) rfl pass (x_var (pv 4)) xk_nil gok_id) (x_op (pe_ix ix_seq (x_var (pv 5)) (x_c pe_int fun _ => rp_int) (fun _ _ => rfl)) s_ix)) s_add) xa_nil)))) (xa_cons (x_lst (pe_lst (xa_cons (x_var (pv 2)) (xa_cons (x_var (pv 3)) xa_nil)))) xa_nil)) xk_nil gok_id))))))))) (xss_one (xs_ret (ps_ret (x_c pe_bl fun _ => rp_bl)))) xss_nil))
    (xss_cons (xs_set (ps_set (i := 6) sc_law_right.nd rfl (Or.inl rfl) (x_lst (pe_lst (xa_cons (x_callF c_shows_quotient_3 hr (by decide) rfl (by rfl) pass (xa_cons (x_var (pv 3)) (xa_cons (x_var (pv 0)) (xa_cons (x_tup (pe_tup (xa_cons (x_var (pv 4)) (xa_cons (x_var (pv 2)) xa_nil)))) xa_nil))) xk_nil gok_id) (xa_cons (x_callF c_shows_quotient_3 hr (by decide) rfl (by rfl) pass (xa_cons (x_op (pe_op u_add (x_var (pv 3)) (x_c pe_int fun _ => rp_int)) s_add) (xa_cons (x_var (pv 0)) (xa_cons (x_tup (pe_tup (xa_cons (x_var (pv 4)) (xa_cons (x_var (pv 2)) xa_nil)))) xa_nil))) xk_nil gok_id) xa_nil))))))
    (xss_cons (xs_if (ps_if (xt_not (pt_not (xt_val (pt_val (x_callF c_law_just_2 hr (by decide) rfl (by rfl) pass (xa_cons (x_op (pe_op u_add (x_var (pv 6)) (x_lst (pe_lst (xa_cons (x_callF c_shows_quotient_3 hr (by decide) rfl (by rfl) pass (xa_cons (x_var (pv 3)) (xa_cons (x_var (pv 0)) (xa_cons (x_tup (pe_tup (xa_cons (x_var (pv 4)) (xa_cons (x_op (pe_op u_add (x_var (pv 2)) (x_c pe_int fun _ => rp_int)) s_add) xa_nil)))) xa_nil))) xk_nil gok_id) xa_nil)))) s_add) (xa_cons (x_lst (pe_lst (xa_cons (x_c pe_bl fun _ => rp_bl) (xa_cons (x_c pe_bl fun _ => rp_bl) (xa_cons (x_c pe_bl fun _ => rp_bl) xa_nil))))) xa_nil)) xk_nil gok_id))))) (xss_one (xs_ret (ps_ret (x_c pe_bl fun _ => rp_bl)))) xss_nil))
    (xss_cons (xs_set (ps_set (i := 7) sc_law_right.nd rfl (Or.inl rfl) (x_callF c_steps_2 hr (by decide) rfl (by rfl) pass (xa_cons (x_var (pv 3)) (xa_cons (x_var (pv 0)) xa_nil)) xk_nil gok_id)))
    (xss_cons (xs_if (ps_if (xt_not (pt_not (xt_val (pt_val (x_callF c_law_just_2 hr (by decide) rfl (by rfl) pass (xa_cons (x_lcM [("place", 8), ("left", 9)] rfl rfl sc_law_right.nd (u_it (x_var (pv 7))) (blkOk_by (own := [("place", 8), ("left", 9)]) (N := ["one", "other", "rest", "number", "board", "found", "judged", "row", "place", "left"]) (sc := defScope s_law_right) (by decide +kernel)) (fun _ _ _ _ _ => (pg_tup (n := 2) rfl (pgs_cons (pg_name (i := 8) sc_law_right.nd rfl (Or.inl rfl)) (pgs_cons (pg_name (i := 9) sc_law_right.nd rfl (Or.inl rfl)) pgs_nil)))) (fun _ _ _ _ _ => xp_nil) (fun _ _ _ _ _ => (x_var (pv 8))) si_it (sg_t (sgs_cons sg_n (sgs_cons sg_n sgs_nil)))) (xa_cons (x_revL (pe_revL (x_callF c_places_of_1 hr (by decide) rfl (by rfl) pass (xa_cons (x_var (pv 1)) xa_nil) xk_nil gok_id))) xa_nil)) xk_nil gok_id))))) (xss_one (xs_ret (ps_ret (x_c pe_bl fun _ => rp_bl)))) xss_nil))
    (xss_one (xs_ret (ps_ret (x_or (pe_or (x_opw (pe_cmpR (op_eqL (rm1 (hr.less (by decide)))) (x_var (pv 7)) (x_lst (pe_lst xa_nil)) (nomark _)) (s_eqE T.eqn)) (pe_one (x_op (pe_cmpR (u_eq (hr.less (by decide))) (x_op (pe_ix ix_seq (x_op (pe_ix ix_seq (x_var (pv 7)) (x_un (pe_un un_neg (x_c pe_int fun _ => rp_int)) s_neg) (fun _ _ => rfl)) s_ix) (x_c pe_int fun _ => rp_int) (fun _ _ => rfl)) s_ix) (x_var (pv 2)) (nomark _)) s_eq))))))))))))))
/-! ### _law_box -/
abbrev s_law_box : Stmt := topS 35
theorem sc_law_box : FnScope ["cell"] ["cell"] (defScope s_law_box) := ⟨rfl, rfl, rfl, by decide +kernel, rfl, by decide +kernel, by decide +kernel⟩
theorem ok_law_box {W : Wd} {ω : Om} {f : Addr} {fd : FuncData} (T : Txt W ω) (dF : Df W "_law_box" "_law_box" s_law_box f fd) : Fn W 1 f fd ["cell"] (spM ω m_law_box) :=
  fn_m dF sc_law_box rfl rfl fun cd A out s H E hr => (xss_one (xs_ret (ps_ret (x_lst (pe_lst (xa_cons (x_cb (pe_callB (u_max rfl) (by rfl) T.n_max (by decide +kernel) (xa_cons (x_c pe_int fun _ => rp_int) (xa_cons (x_op (pe_op op_sub (x_var (pv 0)) (x_op (pe_op op_pow (x_c pe_int fun _ => rp_int) (x_c pe_int fun _ => rp_int)) s_pow)) s_sub) xa_nil))) (s_max2)) (xa_cons (x_op (pe_op op_mod (x_var (pv 0)) (x_c pe_int fun _ => rp_int)) s_mod) (xa_cons (x_c pe_int fun _ => rp_int) xa_nil))))))))
/-! ### _law_cell -/
abbrev s_law_cell : Stmt := topS 34
theorem sc_law_cell : FnScope ["script", "k"] ["script", "k"] (defScope s_law_cell) := ⟨rfl, rfl, rfl, by decide +kernel, rfl, by decide +kernel, by decide +kernel⟩
theorem ok_law_cell {W : Wd} {ω : Om} {f : Addr} {fd : FuncData} (T : Txt W ω) (dF : Df W "_law_cell" "_law_cell" s_law_cell f fd) : Fn W 1 f fd ["script", "k"] (spM ω m_law_cell) :=
  fn_m dF sc_law_cell rfl rfl fun cd A out s H E hr => (xss_cons (xs_if (ps_if (xt_op (pt_cmpR op_lt (x_var (pv 1)) (x_lenS T.kn (pe_callB u_len (by rfl) T.n_len (by decide +kernel) (pa_cons (x_var (pv 0)) pa_nil))) (nomark _)) s_lt) (xss_one (xs_ret (ps_ret (x_ixS T.kn (pe_ix ix_seq (x_var (pv 0)) (x_var (pv 1)) (fun _ _ => rfl)))))) xss_nil))
    (xss_one (xs_ret (ps_ret (x_op (pe_op u_add (x_op (pe_op u_mul (x_c pe_int fun _ => rp_int) (x_var (pv 1))) s_mul) (x_c pe_int fun _ => rp_int)) s_add)))))
/-! ### _law_take -/
abbrev s_law_take : Stmt := topS 36
theorem sc_law_take : FnScope ["box", "many", "digit", "one", "other"] ["box", "many"] (defScope s_law_take) := ⟨rfl, rfl, rfl, by decide +kernel, rfl, by decide +kernel, by decide +kernel⟩
theorem ok_law_take {W : Wd} {ω : Om} {f : Addr} {fd : FuncData} (T : Txt W ω) (dF : Df W "_law_take" "_law_take" s_law_take f fd) : Fn W 1 f fd ["box", "many"] (spM ω m_law_take) :=
  fn_m dF sc_law_take rfl rfl fun cd A out s H E hr => (xss_cons (xs_if (ps_if (xt_op (pt_cmpR op_gt (x_op (pe_ix ix_seq (x_var (pv 0)) (x_c pe_int fun _ => rp_int) (fun _ _ => rfl)) s_ix) (x_c pe_int fun _ => rp_int) (nomark _)) s_gt) (xss_cons (xs_set (ps_set (i := 2) sc_law_take.nd rfl (Or.inl rfl) (x_op (pe_op op_mod (x_op (pe_ix ix_seq (x_var (pv 0)) (x_c pe_int fun _ => rp_int) (fun _ _ => rfl)) s_ix) (x_var (pv 1))) s_mod)))
    (xss_cons (xs_setIx (ps_asg (x_op (pe_op op_fdivW (x_op (pe_ix ix_seq (x_var (pv 0)) (x_c pe_int fun _ => rp_int) (fun _ _ => rfl)) s_ix) (x_var (pv 1))) s_div) (pg_sub (x_var (pv 0)) (x_c pe_int fun _ => rp_int) set_list)) s_setIx)
    (xss_one (xs_ret (ps_ret (x_var (pv 2))))))) xss_nil))
    (xss_cons (xs_setIx (ps_asg (x_op (pe_op u_add (x_op (pe_ix ix_seq (x_var (pv 0)) (x_c pe_int fun _ => rp_int) (fun _ _ => rfl)) s_ix) (x_c pe_int fun _ => rp_int)) s_add) (pg_sub (x_var (pv 0)) (x_c pe_int fun _ => rp_int) set_list)) s_setIx)
    (xss_cons (xs_set (ps_set (i := 3) sc_law_take.nd rfl (Or.inl rfl) (x_op (pe_op op_mod (x_op (pe_op op_pow (x_op (pe_op u_add (x_op (pe_op u_add (x_op (pe_ix ix_seq (x_var (pv 0)) (x_c pe_int fun _ => rp_int) (fun _ _ => rfl)) s_ix) (x_op (pe_op u_mul (x_c pe_int fun _ => rp_int) (x_op (pe_ix ix_seq (x_var (pv 0)) (x_c pe_int fun _ => rp_int) (fun _ _ => rfl)) s_ix)) s_mul)) s_add) (x_c pe_int fun _ => rp_int)) s_add) (x_c pe_int fun _ => rp_int)) s_pow) (x_c pe_int fun _ => rp_int)) s_mod)))
    (xss_cons (xs_set (ps_set (i := 4) sc_law_take.nd rfl (Or.inl rfl) (x_op (pe_op op_mod (x_op (pe_op op_pow (x_op (pe_op u_add (x_op (pe_op u_add (x_op (pe_op op_fdivW (x_var (pv 3)) (x_c pe_int fun _ => rp_int)) s_div) (x_op (pe_op u_mul (x_op (pe_op u_mul (x_c pe_int fun _ => rp_int) (x_op (pe_ix ix_seq (x_var (pv 0)) (x_c pe_int fun _ => rp_int) (fun _ _ => rfl)) s_ix)) s_mul) (x_op (pe_ix ix_seq (x_var (pv 0)) (x_c pe_int fun _ => rp_int) (fun _ _ => rfl)) s_ix)) s_mul)) s_add) (x_c pe_int fun _ => rp_int)) s_add) (x_c pe_int fun _ => rp_int)) s_pow) (x_c pe_int fun _ => rp_int)) s_mod)))
    (xss_one (xs_ret (ps_ret (x_op (pe_op op_mod (x_op (pe_op u_add (x_op (pe_op op_fdivW (x_var (pv 3)) (x_c pe_int fun _ => rp_int)) s_div) (x_op (pe_op u_mul (x_c pe_int fun _ => rp_int) (x_op (pe_op op_fdivW (x_var (pv 4)) (x_c pe_int fun _ => rp_int)) s_div)) s_mul)) s_add) (x_var (pv 1))) s_mod))))))))
/-! ### _law_number -/
abbrev s_law_number : Stmt := topS 38
theorem sc_law_number : FnScope ["box", "most", "one", "some"] ["box", "most"] (defScope s_law_number) := ⟨rfl, rfl, rfl, by decide +kernel, rfl, by decide +kernel, by decide +kernel⟩
theorem ok_law_number {W : Wd} {ω : Om} {f : Addr} {fd : FuncData} (T : Txt W ω) (dF : Df W "_law_number" "_law_number" s_law_number f fd) (c_law_take_2 : Cal W 1 "_law_take" 2 [] (fun vs _ => vs) (spM ω m_law_take)) : Fn W 2 f fd ["box", "most"] (spM ω m_law_number) :=
  fn_m dF sc_law_number rfl rfl fun cd A out s H E hr => (xss_cons (xs_set (ps_set (i := 2) sc_law_number.nd rfl (Or.inl rfl) (x_callF c_law_take_2 hr (by decide) rfl (by rfl) pass (xa_cons (x_var (pv 0)) (xa_cons (x_op (pe_op u_add (x_var (pv 1)) (x_c pe_int fun _ => rp_int)) s_add) xa_nil)) xk_nil gok_id)))
    (xss_cons (xs_set (ps_set (i := 3) sc_law_number.nd rfl (Or.inl rfl) (x_lst (pe_lst (xa_cons (x_c pe_int fun _ => rp_int) (xa_cons (x_var (pv 1)) (xa_cons (x_callF c_law_take_2 hr (by decide) rfl (by rfl) pass (xa_cons (x_var (pv 0)) (xa_cons (x_c pe_int fun _ => rp_int) xa_nil)) xk_nil gok_id) (xa_cons (x_var (pv 2)) (xa_cons (x_op (pe_op op_fdivW (x_var (pv 2)) (x_op (pe_op u_add (x_c pe_int fun _ => rp_int) (x_callF c_law_take_2 hr (by decide) rfl (by rfl) pass (xa_cons (x_var (pv 0)) (xa_cons (x_op (pe_op op_pow (x_c pe_int fun _ => rp_int) (x_c pe_int fun _ => rp_int)) s_pow) xa_nil)) xk_nil gok_id)) s_add)) s_div) (xa_cons (x_op (pe_op op_mod (x_op (pe_op op_shlW (x_c pe_int fun _ => rp_int) (x_op (pe_op op_mod (x_var (pv 2)) (x_c pe_int fun _ => rp_int)) s_mod)) s_shl) (x_op (pe_op u_add (x_var (pv 1)) (x_c pe_int fun _ => rp_int)) s_add)) s_mod) xa_nil))))))))))
    (xss_one (xs_ret (ps_ret (x_op (pe_ix ix_seq (x_var (pv 3)) (x_callF c_law_take_2 hr (by decide) rfl (by rfl) pass (xa_cons (x_var (pv 0)) (xa_cons (x_c pe_int fun _ => rp_int) xa_nil)) xk_nil gok_id) (fun _ _ => rfl)) s_ix))))))
/-! ### law -/
abbrev s_law : Stmt := topS 41
theorem sc_law : FnScope ["script", "k", "box", "one", "other"] ["script"] (defScope s_law) := ⟨rfl, rfl, rfl, by decide +kernel, rfl, by decide +kernel, by decide +kernel⟩
theorem ok_law {W : Wd} {ω : Om} {f : Addr} {fd : FuncData} (T : Txt W ω) (dF : Df W "law" "law" s_law f fd) (c_law_root_right_2 : Cal W 8 "_law_root_right" 2 [] (fun vs _ => vs) (spM ω m_law_root_right)) (c_law_right_3 : Cal W 8 "_law_right" 3 [] (fun vs _ => vs) (spM ω m_law_right)) (c_law_box_1 : Cal W 1 "_law_box" 1 [] (fun vs _ => vs) (spM ω m_law_box)) (c_law_cell_2 : Cal W 1 "_law_cell" 2 [] (fun vs _ => vs) (spM ω m_law_cell)) (c_law_number_2 : Cal W 2 "_law_number" 2 [] (fun vs _ => vs) (spM ω m_law_number)) (c_law_take_2 : Cal W 1 "_law_take" 2 [] (fun vs _ => vs) (spM ω m_law_take)) : Fn W 9 f fd ["script"] (spM ω m_law) :=
  fn_m dF sc_law rfl rfl fun cd A out s H E hr => (xss_cons (xs_if (ps_if (PW.pt (xw_or (pw_or (xt_not (pt_not (xt_val (pt_val (x_callF c_law_right_3 hr (by decide) rfl (by rfl) pass (xa_cons (x_c pe_int fun _ => rp_int) (xa_cons (x_c pe_int fun _ => rp_int) (xa_cons (x_c pe_int fun _ => rp_int) xa_nil))) xk_nil gok_id))))) (pw_or1 (xt_not (pt_not (xt_val (pt_val (x_callF c_law_root_right_2 hr (by decide) rfl (by rfl) pass (xa_cons (x_c pe_int fun _ => rp_int) (xa_cons (x_c pe_int fun _ => rp_int) xa_nil)) xk_nil gok_id))))))))) (xss_one (xs_ret (ps_ret (x_c pe_bl fun _ => rp_bl)))) xss_nil))
    (xss_cons (xs_for (ps_for passOwn rfl (pi_range1 (by rfl) T.n_range (xa_cons (x_cb (pe_callB (u_max rfl) (by rfl) T.n_max (by decide +kernel) (xa_cons (x_c pe_int fun _ => rp_int) (xa_cons (x_cb (pe_callB (u_min rfl) (by rfl) T.n_min (by decide +kernel) (xa_cons (x_c pe_int fun _ => rp_int) (xa_cons (x_lenS T.kn (pe_callB u_len (by rfl) T.n_len (by decide +kernel) (pa_cons (x_var (pv 0)) pa_nil))) xa_nil))) (s_min2)) xa_nil))) (s_max2)) xa_nil)) (pg_name (i := 1) sc_law.nd rfl (Or.inl rfl)) (xss_cons (xs_set (ps_set (i := 2) sc_law.nd rfl (Or.inl rfl) (x_callF c_law_box_1 hr (by decide) rfl (by rfl) pass (xa_cons (x_callF c_law_cell_2 hr (by decide) rfl (by rfl) pass (xa_cons (x_var (pv 0)) (xa_cons (x_var (pv 1)) xa_nil)) xk_nil gok_id) xa_nil) xk_nil gok_id)))
    (xss_cons (xs_par (ps_par (i := 3) (j := 4) rfl sc_law.nd rfl rfl (by decide) rfl rfl (xa_cons (x_cb (pe_callB (u_max rfl) (by rfl) T.n_max (by decide +kernel) (xa_cons (x_c pe_int fun _ => rp_int) (xa_cons (x_callF c_law_number_2 hr (by decide) rfl (by rfl) pass (xa_cons (x_var (pv 2)) (xa_cons (x_c pe_int fun _ => rp_int) xa_nil)) xk_nil gok_id) xa_nil))) (s_max2)) (xa_cons (x_callF c_law_number_2 hr (by decide) rfl (by rfl) pass (xa_cons (x_var (pv 2)) (xa_cons (x_c pe_int fun _ => rp_int) xa_nil)) xk_nil gok_id) xa_nil)) (by rfl)))
    (xss_cons (xs_if (ps_if (xt_not (pt_not (xt_val (pt_val (x_callF c_law_right_3 hr (by decide) rfl (by rfl) pass (xa_cons (x_var (pv 3)) (xa_cons (x_var (pv 4)) (xa_cons (x_callF c_law_take_2 hr (by decide) rfl (by rfl) pass (xa_cons (x_var (pv 2)) (xa_cons (x_var (pv 3)) xa_nil)) xk_nil gok_id) xa_nil))) xk_nil gok_id))))) (xss_one (xs_ret (ps_ret (x_c pe_bl fun _ => rp_bl)))) xss_nil))
    (xss_cons (xs_set (ps_set (i := 3) sc_law.nd rfl (Or.inl rfl) (x_callF c_law_number_2 hr (by decide) rfl (by rfl) pass (xa_cons (x_var (pv 2)) (xa_cons (x_c pe_int fun _ => rp_int) xa_nil)) xk_nil gok_id)))
    (xss_one (xs_if (ps_if (xt_not (pt_not (xt_val (pt_val (x_callF c_law_root_right_2 hr (by decide) rfl (by rfl) pass (xa_cons (x_var (pv 3)) (xa_cons (x_callF c_law_take_2 hr (by decide) rfl (by rfl) pass (xa_cons (x_var (pv 2)) (xa_cons (x_op (pe_op u_add (x_op (pe_op u_mul (x_c pe_int fun _ => rp_int) (x_var (pv 3))) s_mul) (x_c pe_int fun _ => rp_int)) s_add) xa_nil)) xk_nil gok_id) xa_nil)) xk_nil gok_id))))) (xss_one (xs_ret (ps_ret (x_c pe_bl fun _ => rp_bl)))) xss_nil)))))))) si_range1 sg_n)
    (xss_one (xs_ret (ps_ret (x_c pe_bl fun _ => rp_bl))))))
end Z

namespace Z
open PySem PySem.Spec PyProof.Rows L2
theorem cell_ok {ns : List Int} {k : Nat} {S : Sto} (hk : k < 10 ^ 6) : (m_law_cell [.scr ns, .int k] S).Sat fun u S' => S' = S ∧ ∃ r, u = .int r := by
  by_cases l : (k : Int) < ns.length
  · have l' : k < ns.length := by omega
    simp [m_law_cell, mDef_sat, b_law_cell, l, l', at_nat (xs := ns) (i := k) (n := k) rfl l']
  · simp [m_law_cell, mDef_sat, b_law_cell, l]
    exact ⟨ltBig_of (by omega), ltBig_of (by omega)⟩
theorem box_ok {r : Int} {S : Sto} : (m_law_box [.int r] S).Sat fun u S' => u = .cel S.length ∧ Box S.length 0 S' ∧ Fr nop S S' := by
  simp [m_law_box, mDef_sat, b_law_box]
  exact ⟨⟨_, _, _, get_new, by omega, by omega, by omega, by omega, by omega⟩, Fr.app⟩
theorem take_ok {n k : Nat} {many : Int} {S : Sto} (h : Box n k S) (hk : k < 2 ^ 20) (h1 : 0 < many) (h2 : many < 10 ^ 75) :
    (m_law_take [.cel n, .int many] S).Sat fun u S' => ∃ r, u = .int r ∧ 0 ≤ r ∧ r < many ∧ Box n (k + 1) S' ∧ Fr (· = n) S S' := by
  obtain ⟨a, b, c, hS, ha, hb, hb2, hc, hc2⟩ := h
  have hn := lt_of_get hS
  by_cases ha0 : 0 < a
  · simp [m_law_take, mDef_sat, b_law_take, ixM_cel hS at3_0, ha0, setIx_cel hS (show ixN 3 0 = some 0 from rfl)]
    exact ⟨h1, ⟨h1, h2⟩, Int.emod_nonneg _ (by omega), Int.emod_lt_of_pos _ h1, ⟨a / many, b, c, get_set hn, Int.ediv_nonneg ha (by omega), hb, hb2, hc, by omega⟩, Fr.set rfl⟩
  · have g2 : (S.set n (.lst [.int a, .int b, .int (c + 1)]))[n]? = some (.lst [.int a, .int b, .int (c + 1)]) := get_set hn
    simp [m_law_take, mDef_sat, b_law_take, ixM_cel hS at3_0, ixM_cel hS at3_2, ha0, setIx_cel hS (show ixN 3 2 = some 2 from rfl), ixM_cel g2 at3_1, ixM_cel g2 at3_2]
    have q0 : 0 ≤ (c + 1) * (c + 1) := Int.mul_nonneg (by omega) (by omega)
    have q1 : (c + 1) * (c + 1) ≤ 2 ^ 20 * 2 ^ 20 := Int.mul_le_mul (by omega) (by omega) (by omega) (by omega)
    simp only [Int.mul_assoc]
    generalize (c + 1) * (c + 1) = X at *
    refine ⟨⟨ltBig_of (by omega), ltBig_of (by omega)⟩, by omega, ⟨ltBig_of (by omega), ltBig_of (by omega)⟩, ⟨ltBig_of (by omega), ltBig_of (by omega)⟩, by omega, ⟨ltBig_of (by omega), ltBig_of (by omega)⟩, h1, Int.emod_nonneg _ (by omega), Int.emod_lt_of_pos _ h1, ⟨a, b, c + 1, g2, ha, hb, hb2, by omega, by omega⟩, Fr.set rfl⟩
theorem just_ok {x y : U} {d : D} {S : Sto} (hx : res S 9 x = some d) (hy : res S 9 y = some d) (fd : Fi d) (nx : ∀ i, x ≠ .int i) (ns : ∀ i, x ≠ .str i) : m_law_just [x, y] S = .ok (.bl true) S := by
  have e1 : eqM x y S = .ok (.bl true) S := by
    rw [eqM_res hx hy fd fd (fun i _ h => absurd h (nx i)) (fun i _ h => absurd h (ns i)), eqD_self]
  simp [m_law_just, mDef_f, b_law_just, e1, reprM_res hx fd.r, reprM_res hy fd.r, eqM_str]
def wholeU (u : U) (lo hi : Int) : Bool := match u with
  | .int i => decide (lo ≤ i) && decide (i ≤ hi)
  | _ => false
theorem whole_ok {u : U} {lo hi : Int} {S : Sto} (h : kdOf S u ≠ none) : m_is_whole [u, .int lo, .int hi] S = .ok (.bl (wholeU u lo hi)) S := by
  cases u with
  | int i =>
    by_cases l : lo ≤ i
    · simp [m_is_whole, mDef_f, b_is_whole, kdOf, Kd.isB, wholeU, l]
    · simp [m_is_whole, mDef_f, b_is_whole, kdOf, Kd.isB, wholeU, l]
  | cel n =>
    cases q : S[n]? with
    | none => exact absurd (by simp [kdOf, q]) h
    | some c => cases c <;> first | (simp [m_is_whole, mDef_f, b_is_whole, kdOf, q, Kd.isB, wholeU]; done) | exact absurd (by simp [kdOf, q]) h
  | scr ns => exact absurd rfl h
  | _ => simp [m_is_whole, mDef_f, b_is_whole, kdOf, Kd.isB, wholeU]
theorem whole_int {i lo hi : Int} {S : Sto} : m_is_whole [.int i, .int lo, .int hi] S = .ok (.bl (decide (lo ≤ i) && decide (i ≤ hi))) S := whole_ok (by simp [kdOf])
theorem addM_L {S : Sto} {a b : List U} (h : (a ++ b).length ≤ 10000000) : addM false (.lst a) (.lst b) S = .ok (.lst (a ++ b)) S := by
  unfold addM
  simp only [lsOf_lst]
  unfold newLst
  rw [if_pos h, if_neg Bool.false_ne_true]
/-! ### new lists -/
theorem new_t {us : List U} {S : Sto} (h : us.length ≤ 10000000) : newLst true us S = .ok (.cel S.length) (S ++ [.lst us]) := by unfold newLst; rw [if_pos h, if_pos rfl]
theorem new_f {us : List U} {S : Sto} (h : us.length ≤ 10000000) : newLst false us S = .ok (.lst us) S := by unfold newLst; rw [if_pos h, if_neg Bool.false_ne_true]
theorem mulM_L {c : Bool} {us : List U} {S : Sto} {n : Nat} (h : n ≤ 100000) : mulM c (.lst us) (.int (n : Int)) S = newLst c (List.replicate n us).flatten S := by
  unfold mulM
  dsimp only
  rw [lsOf_lst]
  dsimp only
  rw [if_pos ⟨by omega, by omega⟩, Int.toNat_natCast]
theorem rep1 {α : Type} {x : α} : ∀ n : Nat, (List.replicate n [x]).flatten = List.replicate n x
  | 0 => rfl
  | n + 1 => by rw [List.replicate_succ, List.flatten_cons, rep1 n]; rfl
theorem addM_C {S : Sto} {x y : U} {a b : List U} (hx : lsOf S x = some a) (hy : lsOf S y = some b) (h : (a ++ b).length ≤ 10000000) : addM true x y S = .ok (.cel S.length) (S ++ [.lst (a ++ b)]) := by
  have t : ∀ us, x ≠ .tup us := by rintro us rfl; cases hx
  cases x <;> first
    | (cases hx; done)
    | (cases y <;> first
        | (cases hy; done)
        | (unfold addM; dsimp only; rw [hx, hy]; dsimp only; exact new_t h))
theorem cut_hi {us : List U} {a : Nat} (h : a ≤ us.length) : cutU us none (some (a : Int)) = us.take a := by
  unfold cutU
  rw [HT.sIx_none, HT.sIx_nat, List.drop_zero, Nat.sub_zero, Nat.min_eq_left h]
theorem cut_lo {us : List U} {a : Nat} (h : a ≤ us.length) : cutU us (some (a : Int)) none = us.drop a := by
  unfold cutU
  rw [HT.sIx_none, HT.sIx_nat, Nat.min_eq_left h, List.take_of_length_le (by rw [List.length_drop]; omega)]
theorem slHi_C {S : Sto} {m a : Nat} {us : List U} (e : S[m]? = some (.lst us)) (h : a ≤ us.length) (l : us.length ≤ 10000000) : slM false (.cel m) none (some (a : Int)) S = .ok (.lst (us.take a)) S := by
  unfold slM
  dsimp only
  rw [lsOf_cel e]
  dsimp only
  rw [cut_hi h]
  exact new_f (by rw [List.length_take]; omega)
theorem slLo_C {S : Sto} {m a : Nat} {us : List U} (e : S[m]? = some (.lst us)) (h : a ≤ us.length) (l : us.length ≤ 10000000) : slM false (.cel m) (some (a : Int)) none S = .ok (.lst (us.drop a)) S := by
  unfold slM
  dsimp only
  rw [lsOf_cel e]
  dsimp only
  rw [cut_lo h]
  exact new_f (by rw [List.length_drop]; omega)
/-- one of the things at hand -/
theorem pick_ok {us : List U} {r : Int} {S : Sto} (h0 : 0 ≤ r) (h1 : r < us.length) : ∃ x, x ∈ us ∧ us[r.toNat]? = some x ∧ ixM (.lst us) (.int r) S = .ok x S := by
  have l : r.toNat < us.length := by omega
  have e := List.getElem?_eq_getElem l
  refine ⟨_, List.getElem_mem l, e, ixM_lst ?_⟩
  rw [at_nat (n := r.toNat) (by omega) l, e]
theorem res_L2 {S : Sto} {k : Nat} {a b : U} {x y : D} (ha : res S (k + 1) a = some x) (hb : res S (k + 1) b = some y) : res S (k + 2) (.lst [a, b]) = some (.lst [x, y]) := by
  show (optMap (res S (k + 1)) [a, b]).map D.lst = _
  simp [optMap, ha, hb]
theorem res_T2 {S : Sto} {k : Nat} {a b : U} {x y : D} (ha : res S (k + 1) a = some x) (hb : res S (k + 1) b = some y) : res S (k + 2) (.tup [a, b]) = some (.tup [x, y]) := by
  show (optMap (res S (k + 1)) [a, b]).map D.tup = _
  simp [optMap, ha, hb]
theorem res_L {S : Sto} {k : Nat} {us : List U} {ds : List D} (h : optMap (res S k) us = some ds) : res S (k + 1) (.lst us) = some (.lst ds) := by
  show (optMap (res S k) us).map D.lst = _
  rw [h]; rfl
theorem res_T {S : Sto} {k : Nat} {us : List U} {ds : List D} (h : optMap (res S k) us = some ds) : res S (k + 1) (.tup us) = some (.tup ds) := by
  show (optMap (res S k) us).map D.tup = _
  rw [h]; rfl
theorem res_cL {S : Sto} {k m : Nat} {us : List U} {ds : List D} (e : S[m]? = some (.lst us)) (h : optMap (res S k) us = some ds) : res S (k + 1) (.cel m) = some (.lst ds) := by
  unfold res
  dsimp only
  rw [e]
  dsimp only
  rw [h]; rfl
theorem res_cK {S : Sto} {k m : Nat} {kvs : List (Key × U)} {ds : List D} (e : S[m]? = some (.dK kvs)) (h : optMap (res S k) (kvs.map (·.2)) = some ds) : res S (k + 1) (.cel m) = some (.dct (kvs.map (·.1)) ds) := by
  unfold res
  dsimp only
  rw [e]
  dsimp only
  rw [h]; rfl
theorem optMap_up {f g : U → Option D} (h : ∀ x d, f x = some d → g x = some d) : ∀ {xs : List U} {ds : List D}, optMap f xs = some ds → optMap g xs = some ds
  | [], _, e => e
  | x :: xs, ds, e => by
    unfold optMap at e ⊢
    cases e1 : f x with
    | none => rw [e1] at e; cases e
    | some d =>
      rw [e1] at e
      cases e2 : optMap f xs with
      | none => rw [e2] at e; cases e
      | some es =>
        rw [e2] at e
        rw [h x d e1, optMap_up h e2]
        exact e
theorem res_up {S : Sto} : ∀ {k : Nat} {x : U} {d : D}, res S k x = some d → res S (k + 1) x = some d := by
  intro k
  induction k with
  | zero => intro x d h; cases x <;> first | exact h | (unfold res at h; cases h)
  | succ k ih =>
    have go : ∀ {xs : List U} {f : List D → D} {d : D}, (optMap (res S k) xs).map f = some d → (optMap (res S (k + 1)) xs).map f = some d := fun {xs f d} h' => by
      obtain ⟨ds, e, rfl⟩ := Option.map_eq_some_iff.mp h'
      rw [optMap_up (fun x d => ih) e]; rfl
    intro x d h
    cases x with
    | lst xs => exact go h
    | tup xs => exact go h
    | dct ks xs => exact go h
    | cel n =>
      unfold res at h ⊢
      dsimp only at h ⊢
      cases q : S[n]? with
      | none => rw [q] at h; cases h
      | some c =>
        rw [q] at h
        cases c with
        | lst xs => exact go h
        | dK kvs => exact go h
        | _ => cases h
    | _ => exact h
theorem for_satM {mi : ME IT} {gm : MG} {m : MS} {ρ : Rho} {S : Sto} {N : Rho → Sto → Prop} {R : U → Sto → Prop} (h : (mi ρ S).Sat fun it S1 => (forL gm m it.chk it.us ρ S1).Sat N R) : (mFor mi gm m ρ S).Sat N R := by
  unfold mFor
  rw [sat_thenS]; exact h
theorem forL_sat0 {gm : MG} {m : MS} {chk : Sto → Prop} {us : List U} {ρ : Rho} {S : Sto} {N : Rho → Sto → Prop} {R : U → Sto → Prop} (P : Nat → Rho → Sto → Prop) (h0 : P 0 ρ S) (hc : ∀ i ρ S, P i ρ S → chk S)
    (hs : ∀ i d ρ S, us[i]? = some d → P i ρ S → ∃ ρ1, gm d ρ = some ρ1 ∧ (m ρ1 S).Sat (fun ρ' S' => P (i + 1) ρ' S') R) (hN : ∀ ρ S, P us.length ρ S → N ρ S) : (forL gm m chk us ρ S).Sat N R :=
  forL_sat P hc hs hN us.length 0 ρ S (by omega) h0
theorem mLc_satN {mi : ME IT} {gm : MG} {te : ME U} {vs : List Nat} {ρ : Rho} {S S1 : Sto} {us : List U} (P : Nat → List U → Sto → Prop) (e : mi ρ S = .ok ⟨us, none⟩ S1) (h0 : P 0 [] S1)
    (hl : ∀ ys S, P us.length ys S → ys.length ≤ 10000000)
    (hs : ∀ i d ys S, us[i]? = some d → P i ys S → ∃ ρ1, gm d (wipeR ρ vs) = some ρ1 ∧ (te ρ1 S).Sat (fun y S' => P (i + 1) (ys ++ [y]) S')) :
    (mLc false mi gm mYes te vs ρ S).Sat fun u S' => ∃ ys, u = .lst ys ∧ P us.length ys S' := by
  unfold mLc
  rw [e, bind_ok, sat_bind]
  have q := lcL_sat (gm := gm) (te := te) (ρ := wipeR ρ vs) (us0 := us) P hs us.length 0 [] S1 (by omega) h0
  rw [List.drop_zero] at q
  refine Out.Sat.use q ?_
  rintro zs S2 p
  rw [List.nil_append] at p
  rw [sat_newF]
  exact ⟨hl zs S2 p, zs, rfl, p⟩
theorem range_gen {ρ : Rho} {i : Nat} {j : Int} {S : Sto} (h : ρ[i]? = some (some (.int j))) (h0 : 0 ≤ j) (h1 : j < 2 ^ 40) : mRange1 (mCons (mVar i) mNil) ρ S = .ok ⟨rng 0 j.toNat, none⟩ S := by
  simp [-Int.reducePow, h]
  omega
theorem range_of {ρ : Rho} {i size : Nat} {S : Sto} (h : ρ[i]? = some (some (.int (size : Int)))) (hs : size ≤ 1000) : mRange1 (mCons (mVar i) mNil) ρ S = .ok ⟨rng 0 size, none⟩ S := by
  have e := range_gen (S := S) h (by omega) (Int.lt_of_le_of_lt (Int.ofNat_le.mpr hs) (by decide))
  rw [Int.toNat_natCast] at e
  exact e
/-! ### a seeded number -/
theorem number_ok {n k : Nat} {most : Int} {S : Sto} (h : Box n k S) (hk : k < 10 ^ 5) (h0 : 20 ≤ most) (h1 : most ≤ 10 ^ 70) :
    (m_law_number [.cel n, .int most] S).Sat fun u S' => ∃ v : Nat, u = .int v ∧ (v : Int) ≤ most ∧ Box n (k + 4) S' ∧ Fr (· = n) S S' := by
  simp [-Int.reducePow, m_law_number, mDef_sat, b_law_number]
  refine (take_ok h (by omega) (by omega) (by omega)).use ?_
  rintro _ S1 ⟨one, rfl, a1, a2, b1, f1⟩
  refine (take_ok b1 (by omega) (by omega) (by omega)).use ?_
  rintro _ S2 ⟨tw, rfl, a3, a4, b2, f2⟩
  simp [-Int.reducePow]
  refine (take_ok b2 (by omega) (by omega) (by omega)).use ?_
  rintro _ S3 ⟨dv, rfl, a5, a6, b3, f3⟩
  simp [-Int.reducePow]
  have q1 : (0 : Int) ≤ one / (1 + dv) := Int.ediv_nonneg a1 (by omega)
  have q2 : one / (1 + dv) ≤ one := Int.ediv_le_self _ a1
  refine ⟨⟨by omega, by omega⟩, ⟨by omega, by omega, ltBig_of (by omega)⟩, by omega, ?_⟩
  have q3 : 0 ≤ 2 ^ (one % 17).toNat % (most + 1) := Int.emod_nonneg _ (by omega)
  have q4 : 2 ^ (one % 17).toNat % (most + 1) < most + 1 := Int.emod_lt_of_pos _ (by omega)
  revert q3 q4
  generalize 2 ^ (one % 17).toNat % (most + 1) = z
  intro q3 q4
  refine (take_ok b3 (by omega) (by omega) (by omega)).use ?_
  rintro _ S4 ⟨r, rfl, a7, a8, b4, f4⟩
  have fr : Fr (· = n) S S4 := ((f1.tr f2).tr f3).tr f4
  have go : ∀ v : Int, 0 ≤ v → v ≤ most → ∃ w : Nat, U.int v = .int w ∧ (w : Int) ≤ most ∧ Box n (k + 4) S4 ∧ Fr (· = n) S S4 := fun v l1 l2 => ⟨v.toNat, by rw [Int.toNat_of_nonneg l1], by omega, b4, fr⟩
  have hr : r = 0 ∨ r = 1 ∨ r = 2 ∨ r = 3 ∨ r = 4 ∨ r = 5 := by omega
  rcases hr with rfl | rfl | rfl | rfl | rfl | rfl
  · exact go _ (by omega) (by omega)
  · exact go _ (by omega) (by omega)
  · exact go _ (by omega) (by omega)
  · exact go _ (by omega) (by omega)
  · exact go _ (by omega) (by omega)
  · exact go _ (by omega) (by omega)
/-! ### ones -/
def bits (v p : Nat) : List Nat := if h : v = 0 then [] else (if v % 2 = 1 then [p] else []) ++ bits (v / 2) (p + 1)
termination_by v
decreasing_by omega
theorem bits_0 {p : Nat} : bits 0 p = [] := by rw [bits]; simp
theorem bits_s {v p : Nat} (h : v ≠ 0) : bits v p = (if v % 2 = 1 then [p] else []) ++ bits (v / 2) (p + 1) := by rw [bits]; simp [h]
theorem bits_lt : ∀ (n v p : Nat), v < 2 ^ n → (bits v p).length ≤ n ∧ ∀ b ∈ bits v p, b < p + n
  | 0, v, p, h => by
    have : v = 0 := by omega
    subst this
    rw [bits_0]; simp
  | n + 1, v, p, h => by
    by_cases z : v = 0
    · subst z; rw [bits_0]; simp
    · rw [bits_s z]
      obtain ⟨i1, i2⟩ := bits_lt n (v / 2) (p + 1) (by rw [Nat.pow_succ] at h; omega)
      by_cases o : v % 2 = 1
      · rw [if_pos o]
        refine ⟨by simp; omega, fun b m => ?_⟩
        rcases List.mem_append.mp m with m | m
        · simp at m; omega
        · have := i2 b m; omega
      · rw [if_neg o]
        refine ⟨by simp; omega, fun b m => ?_⟩
        have := i2 b (by simpa using m); omega
theorem bits_sum : ∀ (n v p : Nat), v < 2 ^ n → ((bits v p).map fun k => (2 : Int) ^ k).sum = v * 2 ^ p
  | 0, v, p, h => by
    have : v = 0 := by omega
    subst this
    rw [bits_0]; simp
  | n + 1, v, p, h => by
    by_cases z : v = 0
    · subst z; rw [bits_0]; simp
    · rw [bits_s z]
      have ih := bits_sum n (v / 2) (p + 1) (by rw [Nat.pow_succ] at h; omega)
      rw [List.map_append, List.sum_append, ih, Int.pow_succ]
      have e : (v : Int) = 2 * ((v / 2 : Nat) : Int) + ((v % 2 : Nat) : Int) := by omega
      by_cases o : v % 2 = 1
      · rw [if_pos o]
        simp only [List.map_cons, List.map_nil, List.sum_cons, List.sum_nil]
        rw [o] at e
        rw [e, Int.add_mul, Int.mul_comm (2 ^ p) 2, ← Int.mul_assoc, Int.mul_comm _ 2]
        omega
      · rw [if_neg o]
        simp only [List.map_nil, List.sum_nil]
        rw [show v % 2 = 0 by omega] at e
        rw [e, Int.add_mul, Int.mul_comm (2 ^ p) 2, ← Int.mul_assoc, Int.mul_comm _ 2]
        omega
abbrev uN (ns : List Nat) : List U := ns.map fun n : Nat => U.int n
theorem ones_ok {v : Nat} {S : Sto} (h : v < 2 ^ 250) : (m_ones_of [.int v] S).Sat fun u S' => u = .cel S.length ∧ S' = S ++ [.lst (uN (bits v 0))] := by
  simp [m_ones_of, mDef_sat, b_ones_of]
  refine while_sat (fun ρ S' => ∃ (w p : Nat) (xs : List Nat), ρ = [some (.int w), some (.cel S.length), some (.int p)] ∧ S' = S ++ [.lst (uN xs)] ∧ xs ++ bits w p = bits v 0 ∧ xs.length ≤ p ∧ w < 2 ^ (250 - p) ∧ p ≤ 250)
    (fun ρ S' => match ρ with | some (.int w) :: _ => w.toNat | _ => 0) ?_ _ _ _ (Nat.le_refl _) ⟨v, 0, [], rfl, rfl, rfl, by simp, h, by omega⟩
  rintro ρ S' ⟨w, p, xs, rfl, rfl, e, l, lw, lp⟩
  by_cases z : w = 0
  · subst z
    rw [bits_0, List.append_nil] at e
    subst e
    simp
  · have zp : 0 < (w : Int) := by omega
    have lp2 : p < 250 := by
      rcases Nat.lt_or_ge p 250 with q | q
      · exact q
      · rw [show 250 - p = 0 by omega] at lw; omega
    have lw2 : w / 2 < 2 ^ (250 - (p + 1)) := by
      rw [show 250 - p = (250 - (p + 1)) + 1 by omega, Nat.pow_succ] at lw; omega
    have zp' : 0 < w := by omega
    by_cases o : w % 2 = 1
    · have o' : (w : Int) % 2 = 1 := by omega
      simp [o', zp', appM_cel get_new, show xs.length < 10000000 by omega]
      refine ⟨⟨w / 2, p + 1, ⟨by omega, by omega⟩, xs ++ [p], by simp, ?_, by simp; omega, lw2, by omega⟩, by omega⟩
      rw [← e, bits_s z, if_pos o, List.append_assoc]
    · have o' : ¬ (w : Int) % 2 = 1 := by omega
      simp [o', zp']
      refine ⟨⟨w / 2, p + 1, ⟨by omega, by omega⟩, xs, rfl, ?_, by omega, lw2, by omega⟩, by omega⟩
      rw [← e, bits_s z, if_neg o]; rfl
/-! ### pairs of whole numbers as data -/
abbrev PI := Int × Int
def SmQ (p : PI) : Prop := (0 ≤ p.1 ∧ p.1 ≤ 400) ∧ (p.2 = 1 ∨ p.2 = -1)
def SmX (p : PI) : Prop := (0 ≤ p.1 ∧ p.1 ≤ 500) ∧ (p.2 = 1 ∨ p.2 = -1)
abbrev dQ (p : PI) : D := .tup [.int p.1, .int p.2]
theorem optMap_Q {S : Sto} {k : Nat} : ∀ ps : List PI, optMap (res S (k + 2)) (ps.map pU) = some (ps.map dQ)
  | [] => rfl
  | q :: r => by
    rw [List.map_cons, List.map_cons]
    unfold optMap
    rw [optMap_Q r]; rfl
theorem fiX {ps : List PI} (h : ∀ p ∈ ps, SmX p) (l : ps.length ≤ 3000) : Fi (.lst (ps.map dQ)) ∧ Fi (.tup (ps.map dQ)) := by
  have key : ∀ ps : List PI, (∀ p ∈ ps, SmX p) → okDs (ps.map dQ) = true ∧ deps (ps.map dQ) ≤ 1 ∧ wts (ps.map dQ) = 3 * ps.length := by
    intro ps
    induction ps with
    | nil => intro _; exact ⟨by unfold okDs; rfl, by rw [List.map_nil]; unfold deps; omega, by unfold wts; rfl⟩
    | cons p r ih =>
      intro h
      obtain ⟨a, b, c⟩ := ih fun x m => h x (List.mem_cons_of_mem _ m)
      obtain ⟨h1, h2⟩ := h p List.mem_cons_self
      have e1 : decide (p.1.natAbs < 10 ^ 570) = true := decide_eq_true (Nat.lt_of_lt_of_le (show p.1.natAbs < 10 ^ 4 by omega) (Nat.pow_le_pow_right (by decide) (by decide)))
      have e2 : decide (p.2.natAbs < 10 ^ 570) = true := decide_eq_true (Nat.lt_of_lt_of_le (show p.2.natAbs < 10 ^ 4 by omega) (Nat.pow_le_pow_right (by decide) (by decide)))
      rw [List.map_cons]
      refine ⟨?_, ?_, ?_⟩
      · simp only [okDs, okD, e1, e2, a, Bool.and_true, Bool.and_self]
      · simp only [deps, dep]; omega
      · simp only [wts, wt, c, List.length_cons]; omega
  obtain ⟨a, b, c⟩ := key ps h
  exact ⟨⟨by unfold okD; exact a, by unfold dep; omega, by unfold wt; omega⟩, ⟨by unfold okD; exact a, by unfold dep; omega, by unfold wt; omega⟩⟩
theorem eqDs_pairs : ∀ a b : List PI, PyData.eqvAll (pys (a.map dQ)) (pys (b.map dQ)) = decide (a = b)
  | [], [] => by simp [pys, PyData.eqvAll]
  | [], y :: b => by simp [pys, PyData.eqvAll]
  | x :: a, [] => by simp [pys, PyData.eqvAll]
  | x :: a, y :: b => by
    have ih := eqDs_pairs a b
    simp only [List.map_cons, pys, py, PyData.eqvAll, PyData.eqv] at ih ⊢
    rw [ih, Bool.eq_iff_iff]
    simp [Prod.ext_iff]
theorem eqD_pairs (a b : List PI) : eqD (.lst (a.map dQ)) (.lst (b.map dQ)) = decide (a = b) := by
  rw [← eqDs_pairs a b]
  unfold eqD
  simp only [py, PyData.eqv]
theorem neM_pairs {x : U} {a b : List PI} {S : Sto} (hx : res S 9 x = some (.lst (a.map dQ))) (nx : (∃ us, x = .lst us) ∨ ∃ m, x = .cel m) (fa : Fi (.lst (a.map dQ))) (fb : Fi (.lst (b.map dQ))) : neM x (.lst (b.map pU)) S = .ok (.bl (!decide (a = b))) S ∧ eqM x (.lst (b.map pU)) S = .ok (.bl (decide (a = b))) S := by
  have r2 : res S 9 (.lst (b.map pU)) = some (.lst (b.map dQ)) := res_L (k := 8) (optMap_Q (k := 6) b)
  constructor
  · unfold neM
    split
    · rename_i h; cases h
    · rename_i h; cases h
    · rw [hx, r2]; dsimp only; rw [if_pos ⟨fa.e, fb.e⟩, eqD_pairs]
  · rw [eqM_res hx r2 fa fb (fun i j h => by rcases nx with ⟨us, e⟩ | ⟨m, e⟩ <;> rw [h] at e <;> cases e) (fun i j h => by rcases nx with ⟨us, e⟩ | ⟨m, e⟩ <;> rw [h] at e <;> cases e), eqD_pairs]
theorem psort_fix {l : List PI} : l = psort l ↔ l.Pairwise (fun p q => leP p q = true) :=
  ⟨fun h => by rw [h]; exact psort_pw l, fun h => psort_one (psort_perm l).symm h (psort_pw l)⟩
theorem psort_len (l : List PI) : (psort l).length = l.length := (psort_perm l).length_eq
theorem psort_mem {l : List PI} {x : PI} (h : x ∈ psort l) : x ∈ l := (psort_perm l).mem_iff.mp h
theorem sortAM_f {u : U} {ps : List PI} {S : Sto} (h : sqOf S u = some (ps.map pU)) (l : ps.length ≤ 10000000) : sortAM false u S = .ok (.lst ((psort ps).map pU)) S := by
  unfold sortAM numsOf
  rw [h]
  dsimp only
  cases ps with
  | nil =>
    have e1 : psort [] = [] := List.length_eq_zero_iff.mp (psort_len [])
    have e2 : isort [] = [] := List.length_eq_zero_iff.mp (isort_perm []).length_eq
    rw [e1, show intsOf (([] : List PI).map pU) = some [] from rfl]
    dsimp only
    rw [e2]
    exact new_f (by simp)
  | cons p r =>
    have e1 : intsOf ((p :: r).map pU) = none := rfl
    rw [e1]
    dsimp only
    rw [Option.bind_some, prsOf_map]
    exact new_f (by rw [List.length_map, psort_len]; exact l)
/-! ### in, remove -/
theorem eqD_pr (a b : PI) : eqD (dQ a) (dQ b) = decide (a = b) := by
  have e := eqD_pairs [a] [b]
  unfold eqD
  simp only [py, pys, PyData.eqvAll, PyData.eqv]
  rw [Bool.eq_iff_iff]
  simp [Prod.ext_iff]
theorem any_pr (l : List PI) (p : PI) : ((l.map dQ).any fun z => eqD z (dQ p)) = decide (p ∈ l) := by
  rw [Bool.eq_iff_iff, List.any_map, List.any_eq_true, decide_eq_true_eq]
  constructor
  · rintro ⟨x, m, e⟩
    have e' : eqD (dQ x) (dQ p) = true := e
    rw [eqD_pr, decide_eq_true_eq] at e'
    rw [← e']; exact m
  · intro m
    exact ⟨p, m, by show eqD (dQ p) (dQ p) = true; rw [eqD_pr]; simp⟩
theorem find_pr (p : PI) : ∀ l : List PI, p ∈ l → ∃ j, (l.map dQ).findIdx? (fun z => eqD z (dQ p)) = some j ∧ (l.map pU).eraseIdx j = (l.erase p).map pU
  | [], m => by cases m
  | x :: l, m => by
    rw [List.map_cons, List.findIdx?_cons, eqD_pr]
    by_cases e : x = p
    · subst e
      exact ⟨0, by simp, by simp⟩
    · have m2 : p ∈ l := by
        rcases List.mem_cons.mp m with q | q
        · exact absurd q.symm e
        · exact q
      obtain ⟨j, h1, h2⟩ := find_pr p l m2
      refine ⟨j + 1, ?_, ?_⟩
      · rw [decide_eq_false e, if_neg Bool.false_ne_true, h1]; rfl
      · rw [List.map_cons, List.eraseIdx_cons_succ, h2, List.erase_cons_tail (by simpa using e)]; rfl
theorem fi_pr {p : PI} (h : SmX p) : Fi (dQ p) := by
  obtain ⟨h1, h2⟩ := h
  have e1 : decide (p.1.natAbs < 10 ^ 570) = true := decide_eq_true (Nat.lt_of_lt_of_le (show p.1.natAbs < 10 ^ 4 by omega) (Nat.pow_le_pow_right (by decide) (by decide)))
  have e2 : decide (p.2.natAbs < 10 ^ 570) = true := decide_eq_true (Nat.lt_of_lt_of_le (show p.2.natAbs < 10 ^ 4 by omega) (Nat.pow_le_pow_right (by decide) (by decide)))
  exact ⟨by simp only [okD, okDs, e1, e2]; rfl, by simp only [dep, deps]; omega, by simp only [wt, wts]; omega⟩
theorem inDa_pr {neg : Bool} {m : Nat} {l : List PI} {p : PI} {S : Sto} (e : S[m]? = some (.lst (l.map pU))) (h : ∀ q ∈ l, SmX q) (hp : SmX p) (hl : l.length ≤ 3000) : inDaM neg (pU p) (.cel m) S = .ok (.bl (if neg = true then !decide (p ∈ l) else decide (p ∈ l))) S := by
  unfold inDaM
  rw [res_cL (k := 8) e (optMap_Q (k := 6) l), show res S 9 (pU p) = some (dQ p) from rfl]
  dsimp only
  rw [if_pos ⟨(fiX h hl).1.e, (fi_pr hp).e⟩, any_pr]
theorem rem_pr {m : Nat} {l : List PI} {p : PI} {S : Sto} (e : S[m]? = some (.lst (l.map pU))) (h : ∀ q ∈ l, SmX q) (hp : SmX p) (hl : l.length ≤ 3000) (mp : p ∈ l) : remM (.cel m) [pU p] S = .ok .non (S.set m (.lst ((l.erase p).map pU))) := by
  obtain ⟨j, h1, h2⟩ := find_pr p l mp
  unfold remM celL
  dsimp only
  rw [e]
  dsimp only
  rw [res_cL (k := 8) e (optMap_Q (k := 6) l), show res S 9 (pU p) = some (dQ p) from rfl]
  dsimp only
  rw [if_pos ⟨(fiX h hl).1.e, (fi_pr hp).e⟩, h1]
  dsimp only
  rw [h2]
/-! ### dicts of numbers -/
theorem valG_cons {κ α : Type} [DecidableEq κ] {p : κ × α} {r : List (κ × α)} {k : κ} : valG (p :: r) k = if p.1 = k then some p.2 else valG r k := by
  unfold valG
  by_cases e : p.1 = k
  · simp [List.find?_cons, e]
  · simp [List.find?_cons, e]
theorem valG_nil {κ α : Type} [DecidableEq κ] {k : κ} : valG ([] : List (κ × α)) k = none := rfl
theorem valG_app {κ α : Type} [DecidableEq κ] {k k' : κ} {v : α} : ∀ {a : List (κ × α)}, valG a k = none → valG (a ++ [(k, v)]) k' = if k = k' then some v else valG a k'
  | [], _ => by rw [List.nil_append, valG_cons, valG_nil]
  | p :: r, h => by
    rw [valG_cons] at h
    by_cases e : p.1 = k
    · rw [if_pos e] at h; cases h
    · rw [if_neg e] at h
      rw [List.cons_append, valG_cons, valG_cons, valG_app h]
      by_cases e2 : p.1 = k'
      · rw [if_pos e2, if_pos e2, if_neg (fun z => e (e2.trans z.symm))]
      · rw [if_neg e2, if_neg e2]
theorem valG_map {κ α : Type} [DecidableEq κ] {k k' : κ} {v : α} : ∀ {a : List (κ × α)}, valG (a.map fun kv => if kv.1 = k then (kv.1, v) else kv) k' = if k = k' then (valG a k).map (fun _ => v) else valG a k'
  | [] => by rw [List.map_nil, valG_nil, valG_nil]; split <;> rfl
  | p :: r => by
    rw [List.map_cons, valG_cons, valG_cons, valG_cons, valG_map (a := r)]
    by_cases e : p.1 = k
    · subst e
      by_cases e2 : p.1 = k'
      · simp [e2]
      · simp [e2]
    · by_cases e2 : p.1 = k'
      · subst e2; simp [e, Ne.symm e]
      · simp [e, e2]
theorem any_val {κ α : Type} [DecidableEq κ] {k : κ} : ∀ {a : List (κ × α)}, (a.any fun kv => decide (kv.1 = k)) = (valG a k).isSome
  | [] => rfl
  | p :: r => by
    rw [List.any_cons, valG_cons, any_val (a := r)]
    by_cases e : p.1 = k <;> simp [e]
theorem valG_put {κ α : Type} [DecidableEq κ] {kvs : List (κ × α)} {k k' : κ} {v : α} : valG (putG kvs k v) k' = if k = k' then some v else valG kvs k' := by
  unfold putG
  rw [any_val]
  cases h : valG kvs k with
  | none => rw [if_neg (by simp)]; exact valG_app h
  | some w => rw [if_pos (show (some w).isSome = true from rfl), valG_map, h]; rfl
theorem valG_drop {κ α : Type} [DecidableEq κ] {k k' : κ} : ∀ {kvs : List (κ × α)}, valG (dropG kvs k) k' = if k = k' then none else valG kvs k'
  | [] => by unfold dropG; rw [List.filter_nil, valG_nil]; split <;> rfl
  | p :: r => by
    have ih := valG_drop (k := k) (k' := k') (kvs := r)
    unfold dropG at ih ⊢
    rw [List.filter_cons]
    by_cases e : p.1 = k
    · rw [if_neg (by simp [e]), ih, valG_cons]
      by_cases e2 : k = k'
      · rw [if_pos e2, if_pos e2]
      · rw [if_neg e2, if_neg e2, if_neg (fun z => e2 (e.symm.trans z))]
    · rw [if_pos (by simp [e]), valG_cons, valG_cons, ih]
      by_cases e2 : p.1 = k'
      · rw [if_pos e2, if_pos e2, if_neg (fun z => e (e2.trans z.symm))]
      · rw [if_neg e2, if_neg e2]
theorem putG_len {κ α : Type} [DecidableEq κ] {kvs : List (κ × α)} {k : κ} {v : α} : (putG kvs k v).length ≤ kvs.length + 1 := by
  unfold putG
  split <;> simp
theorem dropG_len {κ α : Type} [DecidableEq κ] {kvs : List (κ × α)} {k : κ} : (dropG kvs k).length ≤ kvs.length := List.length_filter_le _ _
theorem putG_mem {κ α : Type} [DecidableEq κ] {kvs : List (κ × α)} {k : κ} {v : α} {p : κ × α} (h : p ∈ putG kvs k v) : p = (k, v) ∨ p ∈ kvs := by
  unfold putG at h
  split at h
  · obtain ⟨q, m, e⟩ := List.mem_map.mp h
    by_cases z : q.1 = k
    · rw [if_pos z] at e
      obtain ⟨a, b⟩ := q
      cases (show a = k from z)
      exact Or.inl e.symm
    · rw [if_neg z] at e; subst e; exact Or.inr m
  · rcases List.mem_append.mp h with h | h
    · exact Or.inr h
    · exact Or.inl (by simpa using h)
theorem dropG_mem {κ α : Type} [DecidableEq κ] {kvs : List (κ × α)} {k : κ} {p : κ × α} (h : p ∈ dropG kvs k) : p ∈ kvs := (List.mem_filter.mp h).1
/-- the dict holds c p at each p, where it is none, nothing -/
structure Dk (kvs : List (Key × U)) (c : Nat → Nat) (L : Nat) : Prop where
  ks : ∀ p ∈ kvs, ∃ n : Nat, p.1 = .inl (n : Int)
  at_ : ∀ n : Nat, valG kvs (.inl (n : Int)) = if c n = 0 then none else some (.int (c n : Int))
  len : kvs.length ≤ L
abbrev updN (c : Nat → Nat) (p v : Nat) : Nat → Nat := fun q => if p = q then v else c q
theorem key_inj {a b : Nat} : ((Sum.inl (a : Int) : Key) = .inl (b : Int)) ↔ a = b := by
  constructor
  · intro h; have := Sum.inl.inj h; omega
  · intro h; rw [h]
section
variable {kvs : List (Key × U)} {c : Nat → Nat} {L : Nat}
theorem dk_nil : Dk [] (fun _ => 0) 0 := ⟨by simp, fun n => by simp [valG], Nat.le_refl _⟩
theorem Dk.put (h : Dk kvs c L) {p v : Nat} (hv : v ≠ 0) : Dk (putG kvs (.inl (p : Int)) (.int (v : Int))) (updN c p v) (L + 1) where
  ks := fun q m => by
    rcases putG_mem m with rfl | m
    · exact ⟨p, rfl⟩
    · exact h.ks q m
  at_ := fun n => by
    rw [valG_put, h.at_]
    by_cases e : p = n
    · subst e; simp [updN, hv]
    · rw [if_neg (fun z => e (key_inj.mp z))]; simp [updN, e]
  len := Nat.le_trans putG_len (by have := h.len; omega)
theorem Dk.drop (h : Dk kvs c L) {p : Nat} : Dk (dropG kvs (.inl (p : Int))) (updN c p 0) L where
  ks := fun q m => h.ks q (dropG_mem m)
  at_ := fun n => by
    rw [valG_drop, h.at_]
    by_cases e : p = n
    · subst e; simp [updN]
    · rw [if_neg (fun z => e (key_inj.mp z))]; simp [updN, e]
  len := Nat.le_trans dropG_len h.len
theorem Dk.none_ (h : Dk kvs c L) {p : Nat} (e : c p = 0) : Dk kvs (updN c p 0) L where
  ks := h.ks
  at_ := fun n => by
    rw [h.at_]
    by_cases z : p = n
    · subst z; simp [updN, e]
    · simp [updN, z]
  len := h.len
theorem Dk.emp (h : Dk kvs c L) : kvs = [] ↔ ∀ n, c n = 0 := by
  constructor
  · rintro rfl n
    have := h.at_ n
    by_cases z : c n = 0
    · exact z
    · rw [if_neg z] at this; simp [valG] at this
  · intro z
    cases kvs with
    | nil => rfl
    | cons p r =>
      obtain ⟨n, e⟩ := h.ks p List.mem_cons_self
      have := h.at_ n
      rw [if_pos (z n)] at this
      unfold valG at this
      rw [Option.map_eq_none_iff, List.find?_eq_none] at this
      exact absurd (decide_eq_true e) (this p List.mem_cons_self)
theorem Dk.cong {c' : Nat → Nat} (h : Dk kvs c L) (e : ∀ n, c n = c' n) : Dk kvs c' L := by
  have : c = c' := funext e
  rw [← this]; exact h
theorem Dk.le {L' : Nat} (h : Dk kvs c L) (e : L ≤ L') : Dk kvs c L' := ⟨h.ks, h.at_, Nat.le_trans h.len e⟩
end
section
variable {S S1 S2 : Sto} {ρ : Rho} {kvs : List (Key × U)} {c : Nat → Nat} {L n p : Nat} {ma my : ME U}
theorem dcOf_K (h : S[n]? = some (.dK kvs)) : dcOf S (.cel n) = some (.k kvs) := by simp [dcOf, h]
theorem get2_ok (h : S[n]? = some (.dK kvs)) (d : Dk kvs c L) (e1 : ma ρ S = .ok (.cel n) S) (e2 : my ρ S = .ok (.int (p : Int)) S) : mDGet2 ma my (mC (.int 0)) ρ S = .ok (.int (c p : Int)) S := by
  have q := d.at_ p
  have g : (Dc.k kvs).get (.int (p : Int)) = some (if c p = 0 then none else some (.int (c p : Int))) := by
    show ((kOf (.int (p : Int))).map (valG kvs)) = _
    show some (valG kvs (.inl (p : Int))) = _
    rw [q]
  by_cases z : c p = 0
  · rw [if_pos z] at g
    simp [e1, e2, dcOf_K h, g, z]
  · rw [if_neg z] at g
    simp [e1, e2, dcOf_K h, g]
theorem setDc_ok {v : U} (h : S[n]? = some (.dK kvs)) (l : kvs.length < 10000000) : setDc (.cel n) (.int (p : Int)) v S = some (S.set n (.dK (putG kvs (.inl (p : Int)) v))) := by
  unfold setDc
  dsimp only
  rw [h]
  dsimp only [kOf]
  rw [if_pos l]
theorem pop2_ok (h : S[n]? = some (.dK kvs)) (d : Dk kvs c L) (e1 : ma ρ S = .ok (.cel n) S) (e2 : my ρ S = .ok (.int (p : Int)) S) : ∃ kvs', mDPop2 ma my (mC (.int 0)) ρ S = .ok (.int (c p : Int)) (S.set n (.dK kvs')) ∧ Dk kvs' (updN c p 0) L := by
  have q := d.at_ p
  by_cases z : c p = 0
  · rw [if_pos z] at q
    refine ⟨kvs, ?_, d.none_ z⟩
    have e : S.set n (.dK kvs) = S := by
      refine List.ext_getElem? fun i => ?_
      by_cases y : n = i
      · subst y; rw [List.getElem?_set_self (lt_of_get h), h]
      · rw [List.getElem?_set_ne y]
    rw [e]
    simp [e1, e2, dcOf_K h, h, kOf, q, z]
  · rw [if_neg z] at q
    exact ⟨_, by simp [e1, e2, dcOf_K h, h, kOf, q], d.drop⟩
end
/-- the dict holds c p at each p; where it is none, it may hold it or not -/
structure Dz (kvs : List (Key × U)) (c : Nat → Nat) (L : Nat) : Prop where
  ks : ∀ p ∈ kvs, ∃ n : Nat, p.1 = .inl (n : Int)
  at_ : ∀ n : Nat, valG kvs (.inl (n : Int)) = some (.int (c n : Int)) ∨ (valG kvs (.inl (n : Int)) = none ∧ c n = 0)
  nd : (kvs.map (·.1)).Nodup
  len : kvs.length ≤ L
theorem putG_keys {κ α : Type} [DecidableEq κ] {kvs : List (κ × α)} {k : κ} {v : α} : (putG kvs k v).map (·.1) = if (valG kvs k).isSome = true then kvs.map (·.1) else kvs.map (·.1) ++ [k] := by
  unfold putG
  rw [any_val]
  split
  · rw [List.map_map]
    refine List.map_congr_left fun p _ => ?_
    dsimp only [Function.comp]
    split <;> rfl
  · rw [List.map_append]; rfl
theorem valG_none {κ α : Type} [DecidableEq κ] {k : κ} : ∀ {kvs : List (κ × α)}, valG kvs k = none → k ∉ kvs.map (·.1)
  | [], _ => by simp
  | p :: r, h => by
    rw [valG_cons] at h
    by_cases e : p.1 = k
    · rw [if_pos e] at h; cases h
    · rw [if_neg e] at h
      have := valG_none h
      rw [List.map_cons]
      intro m
      rcases List.mem_cons.mp m with m | m
      · exact e m.symm
      · exact this m
theorem valG_mem {κ α : Type} [DecidableEq κ] {k : κ} : ∀ {kvs : List (κ × α)}, k ∈ kvs.map (·.1) → ∃ v, valG kvs k = some v := fun {kvs} m => by
  cases h : valG kvs k with
  | none => exact absurd m (valG_none h)
  | some v => exact ⟨v, rfl⟩
theorem valG_in {κ α : Type} [DecidableEq κ] {k : κ} {v : α} : ∀ {kvs : List (κ × α)}, valG kvs k = some v → k ∈ kvs.map (·.1)
  | [], h => by cases h
  | p :: r, h => by
    rw [valG_cons] at h
    rw [List.map_cons]
    by_cases e : p.1 = k
    · rw [← e]; exact List.mem_cons_self
    · rw [if_neg e] at h; exact List.mem_cons_of_mem _ (valG_in h)
section
variable {kvs : List (Key × U)} {c : Nat → Nat} {L : Nat}
theorem dz_nil : Dz [] (fun _ => 0) 0 := ⟨by simp, fun n => Or.inr ⟨rfl, rfl⟩, by simp, Nat.le_refl _⟩
theorem Dz.put (h : Dz kvs c L) {p v : Nat} : Dz (putG kvs (.inl (p : Int)) (.int (v : Int))) (updN c p v) (L + 1) where
  ks := fun q m => by
    rcases putG_mem m with rfl | m
    · exact ⟨p, rfl⟩
    · exact h.ks q m
  at_ := fun n => by
    rw [valG_put]
    by_cases e : p = n
    · subst e; left; simp [updN]
    · rw [if_neg (fun z => e (key_inj.mp z))]
      simp only [updN, if_neg e]
      exact h.at_ n
  nd := by
    rw [putG_keys]
    cases e : valG kvs (.inl (p : Int)) with
    | some w => simpa using h.nd
    | none =>
      rw [if_neg (by simp)]
      refine List.nodup_append.mpr ⟨h.nd, by simp, fun a m b m2 => ?_⟩
      simp at m2
      subst m2
      exact fun e2 => valG_none e (e2 ▸ m)
  len := Nat.le_trans putG_len (by have := h.len; omega)
theorem Dz.cong {c' : Nat → Nat} (h : Dz kvs c L) (e : ∀ n, c n = c' n) : Dz kvs c' L := by
  have : c = c' := funext e
  rw [← this]; exact h
theorem Dz.le {L' : Nat} (h : Dz kvs c L) (e : L ≤ L') : Dz kvs c L' := ⟨h.ks, h.at_, h.nd, Nat.le_trans h.len e⟩
end
section
variable {S S1 S2 : Sto} {ρ : Rho} {kvs : List (Key × U)} {c : Nat → Nat} {L n p : Nat} {ma my : ME U}
theorem get2z_ok (h : S[n]? = some (.dK kvs)) (d : Dz kvs c L) (e1 : ma ρ S = .ok (.cel n) S) (e2 : my ρ S = .ok (.int (p : Int)) S) : mDGet2 ma my (mC (.int 0)) ρ S = .ok (.int (c p : Int)) S := by
  have g : (Dc.k kvs).get (.int (p : Int)) = some (valG kvs (.inl (p : Int))) := rfl
  rcases d.at_ p with q | ⟨q, z⟩
  · rw [q] at g
    simp [e1, e2, dcOf_K h, g]
  · rw [q] at g
    simp [e1, e2, dcOf_K h, g, z]
theorem getz_ok (h : S[n]? = some (.dK kvs)) (d : Dz kvs c L) (hp : valG kvs (.inl (p : Int)) ≠ none) (e1 : ma ρ S = .ok (.cel n) S) (e2 : my ρ S = .ok (.int (p : Int)) S) : mDGet ma my ρ S = .ok (.int (c p : Int)) S := by
  have g : (Dc.k kvs).get (.int (p : Int)) = some (valG kvs (.inl (p : Int))) := rfl
  rcases d.at_ p with q | ⟨q, z⟩
  · rw [q] at g
    simp [e1, e2, dcOf_K h, g]
  · exact absurd q hp
end
/-! ### dicts of squares -/
def kP (p : PI) : List Key := [.inl p.1, .inl p.2]
def sqK (ps : List PI) (c : PI → Int) : List (List Key × U) := ps.map fun p => (kP p, .int (c p))
abbrev updP (c : PI → Int) (p : PI) (v : Int) : PI → Int := fun q => if q = p then v else c q
def tot (ps : List PI) (f : PI → Int) : Int := (ps.map f).sum
theorem kP_inj {p q : PI} : kP p = kP q ↔ p = q := by
  constructor
  · intro h
    unfold kP at h
    injection h with h1 h2
    injection h2 with h3 _
    exact Prod.ext (Sum.inl.inj h1) (Sum.inl.inj h3)
  · intro h; rw [h]
theorem kTof_pU {p : PI} : kTof (pU p) = some (kP p) := rfl
theorem ktU_kP {p : PI} : ktU (kP p) = pU p := rfl
theorem pU_mk {x y : Int} : U.tup [.int x, .int y] = pU (x, y) := rfl
section
variable {ps qs : List PI} {c f : PI → Int} {p : PI} {v : Int}
theorem sqK_cons {ps : List PI} : sqK (p :: ps) c = (kP p, .int (c p)) :: sqK ps c := rfl
theorem val_sq : ∀ {ps : List PI}, valG (sqK ps c) (kP p) = if p ∈ ps then some (.int (c p)) else none
  | [] => rfl
  | q :: r => by
    rw [sqK_cons, valG_cons, val_sq (ps := r)]
    dsimp only
    by_cases e : q = p
    · subst e; simp
    · have e2 : ¬ p = q := fun z => e z.symm
      rw [if_neg (fun z => e (kP_inj.mp z))]
      simp [e2]
theorem any_sq : ((sqK ps c).any fun kv => decide (kv.1 = kP p)) = decide (p ∈ ps) := by
  rw [any_val, val_sq]
  by_cases e : p ∈ ps <;> simp [e]
theorem sqK_cong {ps : List PI} (h : ∀ q ∈ ps, c q = f q) : sqK ps c = sqK ps f := by
  unfold sqK
  exact List.map_congr_left fun q m => by rw [h q m]
theorem put_sq : putG (sqK ps c) (kP p) (.int v) = sqK (if p ∈ ps then ps else ps ++ [p]) (updP c p v) := by
  unfold putG
  rw [any_sq]
  by_cases e : p ∈ ps
  · rw [if_pos (decide_eq_true e), if_pos e]
    unfold sqK
    rw [List.map_map]
    refine List.map_congr_left fun q _ => ?_
    dsimp only [Function.comp]
    by_cases z : q = p
    · subst z; rw [if_pos rfl]; show _ = (kP q, U.int (if q = q then v else c q)); rw [if_pos rfl]
    · rw [if_neg (fun y => z (kP_inj.mp y))]; show _ = (kP q, U.int (if q = p then v else c q)); rw [if_neg z]
  · rw [if_neg (by simp [e]), if_neg e]
    unfold sqK
    rw [List.map_append]
    congr 1
    · exact List.map_congr_left fun q m => by rw [show updP c p v q = c q from if_neg fun z : q = p => e (z ▸ m)]
    · simp
theorem drop_sq : dropG (sqK ps c) (kP p) = sqK (ps.filter fun q => decide (q ≠ p)) (updP c p 0) := by
  unfold dropG sqK
  rw [List.filter_map]
  have : (fun q : PI => decide (q ≠ p)) = (fun kv : List Key × U => decide (kv.1 ≠ kP p)) ∘ fun q : PI => (kP q, U.int (c q)) := by
    funext q
    simp only [Function.comp, decide_eq_decide, ne_eq, kP_inj]
  rw [← this]
  refine List.map_congr_left fun q m => ?_
  have : q ≠ p := by simpa using (List.mem_filter.mp m).2
  rw [show updP c p 0 q = c q from if_neg this]
theorem tot_nil : tot [] f = 0 := rfl
theorem tot_cons {ps : List PI} : tot (p :: ps) f = f p + tot ps f := by unfold tot; rw [List.map_cons, List.sum_cons]
theorem tot_app {ps qs : List PI} : tot (ps ++ qs) f = tot ps f + tot qs f := by unfold tot; rw [List.map_append, List.sum_append]
theorem tot_cong {ps : List PI} (h : ∀ q ∈ ps, c q = f q) : tot ps c = tot ps f := by
  unfold tot
  rw [List.map_congr_left h]
theorem tot_perm (h : ps.Perm qs) : tot ps f = tot qs f := by
  unfold tot
  induction h with
  | nil => rfl
  | cons x _ ih => simp only [List.map_cons, List.sum_cons, ih]
  | swap x y l => simp only [List.map_cons, List.sum_cons]; omega
  | trans _ _ a b => exact a.trans b
theorem tot_filt {t : PI → Bool} : ∀ {ps : List PI}, (∀ q ∈ ps, t q = false → f q = 0) → tot (ps.filter t) f = tot ps f
  | [], _ => rfl
  | q :: r, h => by
    have ih := tot_filt (t := t) (ps := r) fun x m => h x (List.mem_cons_of_mem _ m)
    rw [List.filter_cons, tot_cons]
    cases e : t q with
    | true => rw [if_pos rfl, tot_cons, ih]
    | false => rw [if_neg (by simp), ih, h q List.mem_cons_self e]; omega
theorem tot_one {ps : List PI} (nd : ps.Nodup) (g : ∀ q, q ≠ p → c q = f q) (z : p ∉ ps → c p = f p) : tot ps c = tot ps f + c p - f p := by
  by_cases m : p ∈ ps
  · clear z
    induction ps with
    | nil => cases m
    | cons q r ih =>
      obtain ⟨n1, n2⟩ := List.nodup_cons.mp nd
      rw [tot_cons, tot_cons]
      rcases List.mem_cons.mp m with rfl | m
      · have : tot r c = tot r f := tot_cong fun x mx => g x fun e => n1 (e ▸ mx)
        omega
      · have := ih n2 m
        have e := g q fun e => n1 (e ▸ m)
        omega
  · rw [z m, tot_cong fun x mx => g x fun e => m (e ▸ mx)]; omega
theorem tot_nn {ps : List PI} (h : ∀ q ∈ ps, 0 ≤ f q) : 0 ≤ tot ps f := by
  induction ps with
  | nil => exact Int.le_refl _
  | cons q r ih => rw [tot_cons]; have := h q List.mem_cons_self; have := ih fun x m => h x (List.mem_cons_of_mem _ m); omega
theorem tot_mem {ps : List PI} (h : ∀ q ∈ ps, 0 ≤ f q) (m : p ∈ ps) : f p ≤ tot ps f := by
  induction ps with
  | nil => cases m
  | cons q r ih =>
    rw [tot_cons]
    have a := h q List.mem_cons_self
    have b := tot_nn fun x m => h x (List.mem_cons_of_mem _ m)
    rcases List.mem_cons.mp m with rfl | m
    · omega
    · have := ih (fun x m => h x (List.mem_cons_of_mem _ m)) m; omega
end
/-- on a board of w by h squares the dict holds c p at each square p; st: it holds no nought -/
structure Sqs (st : Bool) (w h : Int) (ps : List PI) (c : PI → Int) : Prop where
  nd : ps.Nodup
  inn : ∀ p ∈ ps, (0 ≤ p.1 ∧ p.1 < w) ∧ 0 ≤ p.2 ∧ p.2 < h
  out : ∀ p, p ∉ ps → c p = 0
  nn : ∀ p, 0 ≤ c p
  st : st = true → ∀ p ∈ ps, c p ≠ 0
theorem nat_pigeon : ∀ (n : Nat) (l : List Nat), l.Nodup → (∀ x ∈ l, x < n) → l.length ≤ n
  | 0, l, _, h => by
    cases l with
    | nil => simp
    | cons x r => exact absurd (h x List.mem_cons_self) (by omega)
  | n + 1, l, nd, h => by
    have e := nat_pigeon n (l.erase n) (nd.erase n) fun x m => by
      have q := (List.Nodup.mem_erase_iff nd).mp m
      have := h x q.2
      have := q.1
      omega
    have := List.length_erase (a := n) (l := l)
    split at this <;> omega
section
variable {st : Bool} {w h : Int} {ps qs : List PI} {c c' : PI → Int} {p : PI} {v : Int}
theorem sqs_nil : Sqs st w h [] (fun _ => 0) := ⟨List.nodup_nil, by simp, fun _ _ => rfl, fun _ => Int.le_refl _, by simp⟩
theorem Sqs.len (s : Sqs st w h ps c) (hw : w ≤ 16) (hh : h ≤ 16) : ps.length ≤ 256 := by
  have q := nat_pigeon 256 (ps.map fun p => 16 * p.1.toNat + p.2.toNat) ?_ ?_
  · rw [List.length_map] at q; exact q
  · have nd := s.nd
    have inn := s.inn
    clear s
    induction ps with
    | nil => simp
    | cons p r ih =>
      obtain ⟨n1, n2⟩ := List.nodup_cons.mp nd
      rw [List.map_cons, List.nodup_cons]
      refine ⟨fun m => ?_, ih n2 fun x mx => inn x (List.mem_cons_of_mem _ mx)⟩
      obtain ⟨q, m, e⟩ := List.mem_map.mp m
      have a := inn p List.mem_cons_self
      have b := inn q (List.mem_cons_of_mem _ m)
      have : q = p := Prod.ext (by omega) (by omega)
      exact n1 (this ▸ m)
  · intro x m
    obtain ⟨q, m2, rfl⟩ := List.mem_map.mp m
    have b := s.inn q m2
    omega
theorem Sqs.put (s : Sqs st w h ps c) (hp : (0 ≤ p.1 ∧ p.1 < w) ∧ 0 ≤ p.2 ∧ p.2 < h) (hv : 0 ≤ v) (hs : st = true → v ≠ 0) : Sqs st w h (if p ∈ ps then ps else ps ++ [p]) (updP c p v) where
  nd := by
    by_cases e : p ∈ ps
    · rw [if_pos e]; exact s.nd
    · rw [if_neg e]
      exact List.nodup_append.mpr ⟨s.nd, by simp, fun a m b m2 => by simp at m2; subst m2; exact fun z => e (z ▸ m)⟩
  inn := fun q m => by
    by_cases e : p ∈ ps
    · rw [if_pos e] at m; exact s.inn q m
    · rw [if_neg e] at m
      rcases List.mem_append.mp m with m | m
      · exact s.inn q m
      · simp at m; subst m; exact hp
  out := fun q n => by
    have : q ≠ p ∧ q ∉ ps := by
      by_cases e : p ∈ ps
      · rw [if_pos e] at n; exact ⟨fun z => n (z ▸ e), n⟩
      · rw [if_neg e] at n; simp at n; exact ⟨n.2, n.1⟩
    show (if q = p then v else c q) = 0
    rw [if_neg this.1]; exact s.out q this.2
  nn := fun q => by
    show 0 ≤ (if q = p then v else c q)
    split
    · exact hv
    · exact s.nn q
  st := fun e q m => by
    show (if q = p then v else c q) ≠ 0
    split
    · exact hs e
    · rename_i z
      refine s.st e q ?_
      by_cases e : p ∈ ps
      · rw [if_pos e] at m; exact m
      · rw [if_neg e] at m
        rcases List.mem_append.mp m with m | m
        · exact m
        · simp at m; exact absurd m z
theorem Sqs.drop (s : Sqs st w h ps c) : Sqs st w h (ps.filter fun q => decide (q ≠ p)) (updP c p 0) where
  nd := s.nd.filter _
  inn := fun q m => s.inn q (List.mem_filter.mp m).1
  out := fun q n => by
    show (if q = p then 0 else c q) = 0
    split
    · rfl
    · rename_i z
      exact s.out q fun m => n (List.mem_filter.mpr ⟨m, by simp [z]⟩)
  nn := fun q => by
    show 0 ≤ (if q = p then 0 else c q)
    split
    · exact Int.le_refl _
    · exact s.nn q
  st := fun e q m => by
    have z : q ≠ p := by simpa using (List.mem_filter.mp m).2
    show (if q = p then 0 else c q) ≠ 0
    rw [if_neg z]; exact s.st e q (List.mem_filter.mp m).1
theorem Sqs.cong (s : Sqs st w h ps c) (e : ∀ q, c q = c' q) : Sqs st w h ps c' := by
  have : c = c' := funext e
  rw [← this]; exact s
theorem Sqs.mem (s : Sqs true w h ps c) : p ∈ ps ↔ c p ≠ 0 := ⟨s.st rfl p, fun z => Classical.byContradiction fun m => z (s.out p m)⟩
theorem updP_upd {c : PI → Int} {p : PI} {a b : Int} : ∀ q, updP (updP c p a) p b q = updP c p b q := fun q => by
  show (if q = p then b else if q = p then a else c q) = if q = p then b else c q
  split <;> rfl
/-- the squares with counters, rising -/
theorem Sqs.sort (s : Sqs true w h ps c) (t : Sqs st w h qs c) : psort ps = (psort qs).filter fun q => decide (0 < c q) := by
  refine psort_one ?_ (psort_pw _) ((psort_pw _).filter _)
  refine (psort_perm _).trans (List.Perm.trans ?_ ((psort_perm qs).symm.filter _))
  refine (List.perm_ext_iff_of_nodup s.nd (t.nd.filter _)).mpr fun a => ?_
  rw [s.mem, List.mem_filter]
  have := s.nn a
  constructor
  · intro z
    refine ⟨Classical.byContradiction fun m => z (t.out a m), by simp; omega⟩
  · rintro ⟨_, z⟩; simp at z; omega
theorem Sqs.tot_eq (s : Sqs true w h ps c) (t : Sqs st w h qs c) {f : PI → Int} (hf : ∀ q, c q = 0 → f q = 0) : tot ps f = tot qs f := by
  have a := tot_perm (f := f) (psort_perm ps)
  have b := tot_perm (f := f) (psort_perm qs)
  rw [← a, ← b, s.sort t]
  refine tot_filt fun q _ z => hf q ?_
  have := s.nn q
  simp at z
  omega
end
/-! ### boards -/
/-- at b stands a board of w by h squares whose dict, at d, holds c p at each square p -/
structure Bd (S : Sto) (b d : Nat) (w h : Int) (ps : List PI) (c : PI → Int) : Prop where
  ib : S[b]? = some (.ins "Board" [("columns", .int w), ("lines", .int h), ("kept", .cel d), ("total", .int (tot ps c))])
  id : S[d]? = some (.dT (sqK ps c))
  sq : Sqs true w h ps c
  w1 : 1 ≤ w ∧ w ≤ 16
  h1 : 1 ≤ h ∧ h ≤ 16
abbrev bdP (b d : Nat) : Nat → Prop := fun i => i = b ∨ i = d
abbrev onB (w h : Int) (p : PI) : Prop := (0 ≤ p.1 ∧ p.1 < w) ∧ 0 ≤ p.2 ∧ p.2 < h
section
variable {S S' : Sto} {b d : Nat} {w h : Int} {ps : List PI} {c c' : PI → Int} {p : PI} {v m : Int} {P : Nat → Prop}
theorem Bd.fr (k : Bd S b d w h ps c) (x : Fr P S S') (nb : ¬ P b) (nd : ¬ P d) : Bd S' b d w h ps c := ⟨x.get k.ib nb, x.get k.id nd, k.sq, k.w1, k.h1⟩
theorem Bd.ne (k : Bd S b d w h ps c) : b ≠ d := fun e => by
  have a := k.ib
  rw [e, k.id] at a
  cases a
theorem Bd.lb (k : Bd S b d w h ps c) : b < S.length := lt_of_get k.ib
theorem Bd.ld (k : Bd S b d w h ps c) : d < S.length := lt_of_get k.id
theorem atM_of {f cl : Str} {fs : List (Str × U)} {x : U} (e : S[b]? = some (.ins cl fs)) (l : fs.lookup f = some x) : atM cl f (.cel b) S = .ok x S := by
  unfold atM
  dsimp only
  rw [e]
  dsimp only
  rw [if_pos rfl, l]
theorem setAtM_of {f cl : Str} {fs : List (Str × U)} {x : U} (e : S[b]? = some (.ins cl fs)) (l : fs.length < 900) : setAtM cl f (.cel b) x S = some (S.set b (.ins cl (putU f x fs))) := by
  unfold setAtM
  dsimp only
  rw [e]
  dsimp only
  rw [if_pos ⟨rfl, l⟩]
theorem insM_of {f cl : Str} {fs : List (Str × U)} (e : S[b]? = some (.ins cl fs)) (l : (fs.lookup f).isNone = true) : insM cl f (.cel b) S = true := by
  unfold insM
  dsimp only
  rw [e]
  dsimp only
  rw [l]; simp
theorem Bd.aC (k : Bd S b d w h ps c) : atM "Board" "columns" (.cel b) S = .ok (.int w) S := atM_of k.ib rfl
theorem Bd.aL (k : Bd S b d w h ps c) : atM "Board" "lines" (.cel b) S = .ok (.int h) S := atM_of k.ib rfl
theorem Bd.aK (k : Bd S b d w h ps c) : atM "Board" "kept" (.cel b) S = .ok (.cel d) S := atM_of k.ib rfl
theorem Bd.aT (k : Bd S b d w h ps c) : atM "Board" "total" (.cel b) S = .ok (.int (tot ps c)) S := atM_of k.ib rfl
theorem Bd.aM (k : Bd S b d w h ps c) {f : Str} (hf : (([("columns", .int w), ("lines", .int h), ("kept", .cel d), ("total", .int (tot ps c))] : List (Str × U)).lookup f).isNone = true := by rfl) : insM "Board" f (.cel b) S = true := insM_of k.ib hf
theorem Bd.ms (k : Bd S b d w h ps c) : insM "Board" "has_square" (.cel b) S = true ∧ insM "Board" "need_square" (.cel b) S = true ∧ insM "Board" "at" (.cel b) S = true ∧ insM "Board" "put" (.cel b) S = true ∧ insM "Board" "take" (.cel b) S = true ∧ insM "Board" "more" (.cel b) S = true ∧ insM "Board" "many" (.cel b) S = true ∧ insM "Board" "worth" (.cel b) S = true ∧ insM "Board" "counters" (.cel b) S = true ∧ insM "Board" "wide" (.cel b) S = true ∧ insM "Board" "high" (.cel b) S = true ∧ insM "Board" "copied" (.cel b) S = true ∧ insM "Board" "become" (.cel b) S = true :=
  ⟨insM_of k.ib rfl, insM_of k.ib rfl, insM_of k.ib rfl, insM_of k.ib rfl, insM_of k.ib rfl, insM_of k.ib rfl, insM_of k.ib rfl, insM_of k.ib rfl, insM_of k.ib rfl, insM_of k.ib rfl, insM_of k.ib rfl, insM_of k.ib rfl, insM_of k.ib rfl⟩
theorem Bd.dc (k : Bd S b d w h ps c) : dcOf S (.cel d) = some (.t (sqK ps c)) := by unfold dcOf; dsimp only; rw [k.id]
theorem set_id {n : Nat} {x : Cl} (e : S[n]? = some x) : S.set n x = S := by
  refine List.ext_getElem? fun i => ?_
  by_cases z : n = i
  · subst z; rw [List.getElem?_set_self (lt_of_get e), e]
  · rw [List.getElem?_set_ne z]
/-! whether it is a square -/
def squareU (u : U) (w h : Int) : Bool := match u with
  | .tup [x, y] => wholeU x 0 (w - 1) && wholeU y 0 (h - 1)
  | _ => false
theorem wholeU_p {i w : Int} : wholeU (.int i) 0 (w - 1) = decide (0 ≤ i ∧ i < w) := by
  simp only [wholeU, ← Bool.decide_and, decide_eq_decide]; try omega
theorem squareU_p : squareU (pU p) w h = decide (onB w h p) := by
  show (wholeU (.int p.1) 0 (w - 1) && wholeU (.int p.2) 0 (h - 1)) = _
  rw [wholeU_p, wholeU_p, ← Bool.decide_and]
theorem square_p : m_is_square [pU p, .int w, .int h] S = .ok (.bl (decide (onB w h p))) S := by
  rw [← squareU_p]
  have e1 : lenM (pU p) S = .ok (.int 2) S := rfl
  have e2 : ixM (pU p) (.int 0) S = .ok (.int p.1) S := rfl
  have e3 : ixM (pU p) (.int 1) S = .ok (.int p.2) S := rfl
  have e0 : kdOf S (pU p) = some (.b "tuple") := rfl
  have e5 : (Kd.b "tuple").isB "tuple" = true := rfl
  show m_is_square [pU p, .int w, .int h] S = .ok (.bl (wholeU (.int p.1) 0 (w - 1) && wholeU (.int p.2) 0 (h - 1))) S
  have e6 := whole_ok (S := S) (u := .int p.1) (lo := 0) (hi := w - 1) (by simp [kdOf])
  have e7 := whole_ok (S := S) (u := .int p.2) (lo := 0) (hi := h - 1) (by simp [kdOf])
  cases q : wholeU (.int p.1) 0 (w - 1) <;> simp [m_is_square, mDef_f, b_is_square, e1, e2, e3, e0, e5, e6, e7, q]
/-! dicts of squares in the store -/
theorem get_sq : (Dc.t (sqK ps c)).get (pU p) = some (if p ∈ ps then some (.int (c p)) else none) := by
  show some (valG (sqK ps c) (kP p)) = _
  rw [val_sq]
theorem dcOf_T (e : S[d]? = some (.dT (sqK ps c))) : dcOf S (.cel d) = some (.t (sqK ps c)) := by unfold dcOf; dsimp only; rw [e]
theorem get2_sq {st : Bool} {ρ : Rho} {ma my : ME U} (e : dcOf S (.cel d) = some (.t (sqK ps c))) (s : Sqs st w h ps c) (e1 : ma ρ S = .ok (.cel d) S) (e2 : my ρ S = .ok (pU p) S) : mDGet2 ma my (mC (.int 0)) ρ S = .ok (.int (c p)) S := by
  by_cases z : p ∈ ps
  · simp [e1, e2, e, get_sq, z]
  · simp [e1, e2, e, get_sq, z, s.out p z]
theorem get1_sq {ρ : Rho} {ma my : ME U} (e : dcOf S (.cel d) = some (.t (sqK ps c))) (z : p ∈ ps) (e1 : ma ρ S = .ok (.cel d) S) (e2 : my ρ S = .ok (pU p) S) : mDGet ma my ρ S = .ok (.int (c p)) S := by
  simp [e1, e2, e, get_sq, z]
theorem set_sq {st : Bool} (e : S[d]? = some (.dT (sqK ps c))) (s : Sqs st w h ps c) (hw : w ≤ 16) (hh : h ≤ 16) : setDc (.cel d) (pU p) (.int v) S = some (S.set d (.dT (sqK (if p ∈ ps then ps else ps ++ [p]) (updP c p v)))) := by
  unfold setDc
  dsimp only
  rw [e]
  dsimp only
  rw [kTof_pU]
  dsimp only
  have := s.len hw hh
  rw [if_pos (by unfold sqK; rw [List.length_map]; omega), put_sq]
theorem filt_ne (z : p ∉ ps) : (ps.filter fun q => decide (q ≠ p)) = ps := List.filter_eq_self.mpr fun q m => by simp; exact fun e => z (e ▸ m)
theorem pop_sq {st : Bool} (e : S[d]? = some (.dT (sqK ps c))) (s : Sqs st w h ps c) : popTM (.cel d) [pU p, .int 0] S = .ok (.int (c p)) (S.set d (.dT (sqK (ps.filter fun q => decide (q ≠ p)) (updP c p 0)))) := by
  unfold popTM
  dsimp only
  rw [e]
  dsimp only
  rw [kTof_pU]
  dsimp only
  rw [val_sq]
  by_cases z : p ∈ ps
  · rw [if_pos z, drop_sq]
  · have q : sqK ps (updP c p 0) = sqK ps c := sqK_cong fun q m => by
      show (if q = p then 0 else c q) = c q
      rw [if_neg fun e : q = p => z (e ▸ m)]
    rw [if_neg z, filt_ne z, s.out p z, q, set_id e]
theorem isDT_of' {kvs : List (List Key × U)} (e : S[d]? = some (.dT kvs)) : isDT S (.cel d) = true := by unfold isDT; dsimp only; rw [e]
/-! dicts and lists made of dicts of squares -/
theorem updP_self {q : PI} : ∀ x, updP c q (c q) x = c x := fun x => by
  show (if x = q then c q else c x) = c x
  split
  · rename_i e; rw [e]
  · rfl
theorem merge_sq : ∀ {qs as : List PI}, (as ++ qs).Nodup → mergeGT (sqK as c) (sqK qs c) = sqK (as ++ qs) c
  | [], as, _ => by rw [List.append_nil]; rfl
  | q :: r, as, nd => by
    show mergeGT (putG (sqK as c) (kP q) (.int (c q))) (sqK r c) = _
    have n1 : q ∉ as := fun m => (List.nodup_append.mp nd).2.2 q m q List.mem_cons_self rfl
    rw [put_sq, if_neg n1, sqK_cong (f := c) fun x _ => updP_self x, merge_sq (by rw [List.append_assoc]; exact nd), List.append_assoc]
    rfl
theorem kvT_sq : ∀ {qs : List PI}, optMap kvT (qs.map fun p => .tup [pU p, .int (c p)]) = some (sqK qs c)
  | [] => rfl
  | q :: r => by
    rw [List.map_cons]
    unfold optMap
    rw [kvT_sq (qs := r)]; rfl
theorem dict_sq {qs : List PI} (nd : qs.Nodup) : dictM (.lst (qs.map fun p => .tup [pU p, .int (c p)])) S = .ok (.cel S.length) (S ++ [.dT (sqK qs c)]) := by
  unfold dictM
  rw [lsOf_lst]
  dsimp only
  rw [kvT_sq]
  dsimp only
  have := merge_sq (c := c) (qs := qs) (as := []) nd
  rw [show (sqK [] c) = [] from rfl, List.nil_append] at this
  rw [this]
theorem kp_sq : ∀ {qs : List PI}, optMap kpOf ((sqK qs c).map (·.1)) = some qs
  | [] => rfl
  | q :: r => by
    rw [sqK_cons, List.map_cons]
    unfold optMap
    rw [kp_sq (qs := r)]; rfl
theorem sort_sq (e : dcOf S (.cel d) = some (.t (sqK ps c))) (l : ps.length ≤ 1000) : sortDM false (.cel d) S = .ok (.lst ((psort ps).map pU)) S := by
  unfold sortDM
  rw [e]
  dsimp only
  rw [kp_sq]
  dsimp only
  exact new_f (by rw [List.length_map, psort_len]; omega)
def sqV (c : PI → Int) (u : U) : U := match u with
  | .tup [.int x, .int y] => .int (c (x, y))
  | _ => .non
theorem sqV_p : sqV c (pU p) = .int (c p) := rfl
theorem psort_nd (h : ps.Nodup) : (psort ps).Nodup := (psort_perm ps).nodup_iff.mpr h
theorem sum_ints : ∀ {ps : List PI} {f : PI → Int}, intsOf (ps.map fun p => .int (f p)) = some (ps.map f) := fun {ps f} => by
  have : ∀ l : List Int, intsOf (l.map U.int) = some l := by
    intro l
    induction l with
    | nil => rfl
    | cons x r ih => rw [List.map_cons]; unfold intsOf at ih ⊢; simp [ih]
  rw [← this (ps.map f), List.map_map]; rfl
theorem sumM_sq {f : PI → Int} : sumM (.lst (ps.map fun p => .int (f p))) S = .ok (.int (tot ps f)) S := by
  unfold sumM
  rw [lsOf_lst]
  show (match intsOf _ with | some ns => _ | none => _) = _
  rw [sum_ints]; rfl
/-- the walk of a dict of squares -/
theorem walk_sq {ma te : ME U} {i : Nat} {ρ : Rho} {f : PI → Int} (e : S[d]? = some (.dT (sqK ps c))) (ea : ma ρ S = .ok (.cel d) S) (l : ps.length ≤ 1000)
    (ht : ∀ p ∈ ps, ∃ ρ1, gN i (pU p) (wipeR ρ [i]) = some ρ1 ∧ te ρ1 (S.set d (.fT (sqK ps c))) = .ok (.int (f p)) (S.set d (.fT (sqK ps c)))) :
    mUnl ma (mLc false (mItK ma) (gN i) mYes te [i]) ρ S = .ok (.lst (ps.map fun p => .int (f p))) S := by
  have ld := lt_of_get e
  unfold mUnl
  rw [ea]
  dsimp only
  rw [e]
  dsimp only
  have e1 : mItK ma ρ S = .ok ⟨ps.map pU, none⟩ (S.set d (.fT (sqK ps c))) := by
    unfold mItK
    rw [ea, bind_ok]
    dsimp only
    rw [e]
    dsimp only
    rw [show ((sqK ps c).map fun kv => ktU kv.1) = ps.map pU by unfold sqK; rw [List.map_map]; rfl]
  have e2 : lcL (gN i) mYes te (fun _ => True) (wipeR ρ [i]) (ps.map pU) (S.set d (.fT (sqK ps c))) = .ok (ps.map fun p => .int (f p)) (S.set d (.fT (sqK ps c))) := by
    rw [lcL_map (sqV f) trivial fun u m => ?_]
    · rw [List.map_map]; rfl
    · obtain ⟨p, m2, rfl⟩ := List.mem_map.mp m
      exact ht p m2
  have e3 : (mLc false (mItK ma) (gN i) mYes te [i]) ρ S = .ok (.lst (ps.map fun p => .int (f p))) (S.set d (.fT (sqK ps c))) := by
    unfold mLc
    rw [e1, bind_ok]
    show (lcL (gN i) mYes te (fun _ => True) (wipeR ρ [i]) (ps.map pU) (S.set d (.fT (sqK ps c)))).bind (newLst false) = _
    rw [e2, bind_ok]
    exact new_f (by rw [List.length_map]; omega)
  rw [e3, bind_ok, get_set ld]
  dsimp only
  rw [List.set_set, set_id e]
abbrev wtP (c : PI → Int) (p : PI) : Int := c p * 2 ^ (p.1 + p.2).toNat
theorem sum_le {ps : List PI} (nn : ∀ p, 0 ≤ c p) (m : p ∈ ps) : c p ≤ tot ps c := tot_mem (fun q _ => nn q) m
theorem shl_sq {x : PI} {n : Int} (h0 : 0 ≤ x.1) (h1 : 0 ≤ x.2) (h2 : x.1 + x.2 ≤ 1000) (n0 : 0 ≤ n) (n1 : n < 10 ^ 20) : shlM (.int n) (.int (x.1 + x.2)) S = .ok (.int (n * 2 ^ (x.1 + x.2).toNat)) S :=
  shlM_i ⟨⟨by omega, by omega⟩, by omega, by omega⟩
end
section
variable {S S' : Sto} {b d : Nat} {w h : Int} {ps : List PI} {c c' : PI → Int} {p : PI} {v m : Int} {P : Nat → Prop}
theorem has_p (k : Bd S b d w h ps c) : m_Board_has_square [.cel b, pU p] S = .ok (.bl (decide (onB w h p))) S := by
  simp [m_Board_has_square, mDef_f, b_Board_has_square, k.aC, k.aL, square_p]
theorem need_p (k : Bd S b d w h ps c) (hp : onB w h p) : m_Board_need_square [.cel b, pU p] S = .ok .non S := by
  have e := has_p k (p := p)
  rw [decide_eq_true hp] at e
  simp [m_Board_need_square, mDef_f, b_Board_need_square, k.ms, e]
end
section
variable {S S' : Sto} {b d : Nat} {w h : Int} {ps : List PI} {c c' : PI → Int} {p : PI} {v m : Int} {P : Nat → Prop}
theorem many_p (k : Bd S b d w h ps c) : m_Board_many [.cel b] S = .ok (.int (tot ps c)) S := by
  simp [m_Board_many, mDef_f, b_Board_many, k.aT]
end
section
variable {S S' : Sto} {b d : Nat} {w h : Int} {ps : List PI} {c c' : PI → Int} {p : PI} {v m : Int} {P : Nat → Prop}
theorem more_p (k : Bd S b d w h ps c) (hp : onB w h p) (hv : 0 ≤ c p + m) : (m_Board_more [.cel b, pU p, .int m] S).Sat fun u S' => u = .non ∧ (∃ ps', Bd S' b d w h ps' (updP c p (c p + m))) ∧ Fr (bdP b d) S S' ∧ S'.length = S.length := by
  obtain ⟨c1, hc1⟩ : ∃ c1, c1 = updP c p 0 := ⟨_, rfl⟩
  obtain ⟨ps1, hps1⟩ : ∃ ps1, ps1 = ps.filter fun q => decide (q ≠ p) := ⟨_, rfl⟩
  obtain ⟨S1, hS1⟩ : ∃ S1, S1 = S.set d (.dT (sqK ps1 c1)) := ⟨_, rfl⟩
  have s1 : Sqs true w h ps1 c1 := by rw [hps1, hc1]; exact k.sq.drop
  have i1 : S1[b]? = some (.ins "Board" [("columns", .int w), ("lines", .int h), ("kept", .cel d), ("total", .int (tot ps c))]) := by rw [hS1, List.getElem?_set_ne (Ne.symm k.ne)]; exact k.ib
  have d1 : S1[d]? = some (.dT (sqK ps1 c1)) := by rw [hS1]; exact get_set k.ld
  obtain ⟨S2, hS2⟩ : ∃ S2, S2 = S1.set b (.ins "Board" [("columns", .int w), ("lines", .int h), ("kept", .cel d), ("total", .int (tot ps c + m))]) := ⟨_, rfl⟩
  have e0 : popTM (.cel d) [pU p, .int 0] S = .ok (.int (c p)) S1 := by rw [hS1, hps1, hc1]; exact pop_sq k.id k.sq
  have e1 : atM "Board" "total" (.cel b) S1 = .ok (.int (tot ps c)) S1 := atM_of i1 rfl
  have e2 : setAtM "Board" "total" (.cel b) (.int (tot ps c + m)) S1 = some S2 := by rw [hS2]; exact setAtM_of i1 (by simp)
  have i2 : S2[b]? = some (.ins "Board" [("columns", .int w), ("lines", .int h), ("kept", .cel d), ("total", .int (tot ps c + m))]) := by rw [hS2]; exact get_set (lt_of_get i1)
  have d2 : S2[d]? = some (.dT (sqK ps1 c1)) := by rw [hS2, List.getElem?_set_ne k.ne]; exact d1
  have e3 : atM "Board" "kept" (.cel b) S2 = .ok (.cel d) S2 := atM_of i2 rfl
  have e4 : setDc (.cel d) (pU p) (.int (c p + m)) S2 = some _ := set_sq (v := c p + m) d2 s1 k.w1.2 k.h1.2
  have n1 : p ∉ ps1 := by rw [hps1]; simp
  rw [if_neg n1] at e4
  have f1 : Fr (bdP b d) S S1 := by rw [hS1]; exact Fr.set (Or.inr rfl)
  have f2 : Fr (bdP b d) S S2 := f1.tr (by rw [hS2]; exact Fr.set (Or.inl rfl))
  have l2 : S2.length = S.length := by rw [hS2, hS1]; simp
  have cu : ∀ q, updP c1 p (c p + m) q = updP c p (c p + m) q := by rw [hc1]; exact updP_upd
  by_cases pos : 0 < c p + m
  · simp [m_Board_more, mDef_sat, b_Board_more, k.aK, isDT_of' k.id, e0, e1, e2, e3, e4, pos]
    refine ⟨⟨ps1 ++ [p], ?_, ?_, ?_, k.w1, k.h1⟩, f2.tr (Fr.set (Or.inr rfl)), l2⟩
    · rw [List.getElem?_set_ne (Ne.symm k.ne), i2]
      have : tot ps c + m = tot (ps1 ++ [p]) (updP c p (c p + m)) := by
        have a := tot_one (ps := ps) (c := updP c p (c p + m)) (f := c) (p := p) k.sq.nd (fun q n => if_neg n)
        rw [tot_app, tot_cons, tot_nil]
        have z : tot ps1 (updP c p (c p + m)) = tot ps c - c p := by
          rw [hps1, tot_cong (f := updP c p 0), tot_filt, tot_one (c := updP c p 0) (f := c) (p := p) k.sq.nd (fun q n => if_neg n)]
          · show tot ps c + (if p = p then 0 else c p) - c p = _
            rw [if_pos rfl]; omega
          · intro n
            show (if p = p then 0 else c p) = c p
            rw [if_pos rfl, k.sq.out p n]
          · intro q _ z
            have : q = p := by simpa using z
            exact if_pos this
          · intro q mq
            have : q ≠ p := by simpa using (List.mem_filter.mp mq).2
            show (if q = p then c p + m else c q) = if q = p then 0 else c q
            rw [if_neg this, if_neg this]
        rw [z]
        show _ = _ + ((if p = p then c p + m else c p) + 0)
        rw [if_pos rfl]; omega
      rw [this]
    · rw [get_set (lt_of_get d2), sqK_cong fun q _ => cu q]
    · have q := (s1.put (p := p) (v := c p + m) hp hv (fun _ => by omega)).cong cu
      rw [if_neg n1] at q; exact q
  · have z : c p + m = 0 := by omega
    simp [m_Board_more, mDef_sat, b_Board_more, k.aK, isDT_of' k.id, e0, e1, e2, e3, e4, pos]
    rw [z]
    refine ⟨⟨ps1, ?_, ?_, ?_, k.w1, k.h1⟩, f2, l2⟩
    · rw [i2]
      have : tot ps c + m = tot ps1 (updP c p 0) := by
        rw [hps1, tot_filt, tot_one (c := updP c p 0) (f := c) (p := p) k.sq.nd (fun q n => if_neg n)]
        · show tot ps c + m = tot ps c + (if p = p then 0 else c p) - c p
          rw [if_pos rfl]; omega
        · intro n
          show (if p = p then 0 else c p) = c p
          rw [if_pos rfl, k.sq.out p n]
        · intro q _ z
          have : q = p := by simpa using z
          exact if_pos this
      rw [this]
    · rw [d2, hc1]
    · rw [← hc1]; exact s1
end
section
variable {S S' : Sto} {b d : Nat} {w h : Int} {ps : List PI} {c c' : PI → Int} {p : PI} {v m : Int} {P : Nat → Prop}
theorem put_p (k : Bd S b d w h ps c) (hp : onB w h p) (h1 : 1 ≤ m) (h2 : m ≤ 1000) (h3 : tot ps c + m ≤ 100000) : (m_Board_put [.cel b, pU p, .int m] S).Sat fun u S' => u = .non ∧ (∃ ps', Bd S' b d w h ps' (updP c p (c p + m))) ∧ Fr (bdP b d) S S' ∧ S'.length = S.length := by
  have h3' : ¬ 100000 < tot ps c + m := by omega
  simp [m_Board_put, mDef_sat, b_Board_put, k.ms, need_p k hp, whole_int, many_p k, h1, h2, h3']
  refine (more_p k hp (by have := k.sq.nn p; omega)).use ?_
  rintro u S' ⟨rfl, q⟩
  exact q
end
section
variable {S S' : Sto} {b d : Nat} {w h : Int} {ps : List PI} {c c' : PI → Int} {p : PI} {v m : Int} {P : Nat → Prop}
theorem counters_p (k : Bd S b d w h ps c) : m_Board_counters [.cel b] S = .ok (.cel S.length) (S ++ [.dT (sqK (psort ps) c)]) := by
  have l := k.sq.len k.w1.2 k.h1.2
  have e : ∀ te : ME U, (∀ p ∈ ps, ∃ ρ1, gN 1 (pU p) [some (.cel b), none] = some ρ1 ∧ te ρ1 S = .ok (.tup [pU p, .int (c p)]) S) → lcL (gN 1) mYes te (fun _ => True) [some (.cel b), none] ((psort ps).map pU) S = .ok ((psort ps).map fun p => .tup [pU p, .int (c p)]) S := fun te H => by
    rw [lcL_map (fun u => .tup [u, sqV c u]) trivial fun u m => ?_]
    · rw [List.map_map]; rfl
    · obtain ⟨p, m2, rfl⟩ := List.mem_map.mp m
      exact H p (psort_mem m2)
  have e2 := e (mTup (mCons (mVar 1) (mCons (mDGet (mAt "Board" "kept" (mVar 0)) (mVar 1)) mNil))) fun p m => ⟨_, rfl, by
    have g := get1_sq (S := S) (ρ := [some (.cel b), some (pU p)]) (ma := mAt "Board" "kept" (mVar 0)) (my := mVar 1) k.dc m (by simp [k.aK]) rfl
    simp [-mDGet, g]⟩
  have e3 : (mLc false (mIt (mCB (on1 (sortDM false)) (mCons (mAt "Board" "kept" (mVar 0)) mNil))) (gN 1) mYes (mTup (mCons (mVar 1) (mCons (mDGet (mAt "Board" "kept" (mVar 0)) (mVar 1)) mNil))) [1]) [some (.cel b), none] S = .ok (.lst ((psort ps).map fun p => .tup [pU p, .int (c p)])) S := by
    unfold mLc
    have e4 : (mIt (mCB (on1 (sortDM false)) (mCons (mAt "Board" "kept" (mVar 0)) mNil))) [some (.cel b), none] S = .ok ⟨(psort ps).map pU, none⟩ S := by
      simp [k.aK, sort_sq k.dc (show ps.length ≤ 1000 by omega)]
    rw [e4, bind_ok]
    show (lcL (gN 1) mYes _ (fun _ => True) [some (.cel b), none] ((psort ps).map pU) S).bind (newLst false) = _
    rw [e2, bind_ok]
    exact new_f (by rw [List.length_map, psort_len]; omega)
  simp [-mLc, m_Board_counters, mDef_f, b_Board_counters, e3, dict_sq (psort_nd k.sq.nd)]
end
section
variable {S S' : Sto} {b d : Nat} {w h : Int} {ps : List PI} {c c' : PI → Int} {p : PI} {v m : Int} {P : Nat → Prop}
theorem worth_p (k : Bd S b d w h ps c) (ht : tot ps c < 10 ^ 20) : m_Board_worth [.cel b] S = .ok (.int (tot ps (wtP c))) S := by
  have l := k.sq.len k.w1.2 k.h1.2
  have e := walk_sq (i := 1) (ρ := [some (.cel b), none]) (ma := mAt "Board" "kept" (mVar 0)) (te := mOp shlM (mDGet (mAt "Board" "kept" (mVar 0)) (mVar 1)) (mOp (addM false) (mOp ixM (mVar 1) (mC (.int 0))) (mOp ixM (mVar 1) (mC (.int 1))))) (f := wtP c) k.id (by simp [k.aK]) (by omega) fun p m => ⟨_, rfl, by
    have ib : (S.set d (.fT (sqK ps c)))[b]? = some (.ins "Board" [("columns", .int w), ("lines", .int h), ("kept", .cel d), ("total", .int (tot ps c))]) := by rw [List.getElem?_set_ne (Ne.symm k.ne)]; exact k.ib
    have ed : dcOf (S.set d (.fT (sqK ps c))) (.cel d) = some (.t (sqK ps c)) := by unfold dcOf; dsimp only; rw [get_set k.ld]
    have g := get1_sq (ρ := [some (.cel b), some (pU p)]) (ma := mAt "Board" "kept" (mVar 0)) (my := mVar 1) ed m (by simp [atM_of (f := "kept") (x := .cel d) ib rfl]) rfl
    have i0 : ∀ S, ixM (pU p) (.int 0) S = .ok (.int p.1) S := fun _ => rfl
    have i1 : ∀ S, ixM (pU p) (.int 1) S = .ok (.int p.2) S := fun _ => rfl
    have q := k.sq.inn p m
    have w1 := k.w1
    have h1 := k.h1
    have sh := shl_sq (S := S.set d (.fT (sqK ps c))) (x := p) (n := c p) q.1.1 q.2.1 (by omega) (k.sq.nn p) (Int.lt_of_le_of_lt (sum_le k.sq.nn m) ht)
    show (mOp shlM (mDGet (mAt "Board" "kept" (mVar 0)) (mVar 1)) (mOp (addM false) (mOp ixM (mVar 1) (mC (.int 0))) (mOp ixM (mVar 1) (mC (.int 1))))) [some (.cel b), some (pU p)] _ = _
    simp [-mDGet, g, i0, i1, sh]⟩
  simp [-mUnl, -mLc, m_Board_worth, mDef_f, b_Board_worth, e, sumM_sq]
end
section
variable {S S' : Sto} {b d : Nat} {w h : Int} {ps : List PI} {c c' : PI → Int} {p : PI} {v m : Int} {P : Nat → Prop}
theorem init_p {n : Nat} (hn : S[n]? = some (.ins "Board" [])) (w1 : 1 ≤ w ∧ w ≤ 16) (h1 : 1 ≤ h ∧ h ≤ 16) : (m_Board_init [.cel n, .int w, .int h] S).Sat fun u S' => u = .non ∧ Bd S' n S.length w h [] (fun _ => 0) ∧ Fr (· = n) S S' ∧ S'.length = S.length + 1 := by
  have ln := lt_of_get hn
  obtain ⟨S1, hS1⟩ : ∃ S1, S1 = S.set n (.ins "Board" [("columns", .int w)]) := ⟨_, rfl⟩
  obtain ⟨S2, hS2⟩ : ∃ S2, S2 = S1.set n (.ins "Board" [("columns", .int w), ("lines", .int h)]) := ⟨_, rfl⟩
  obtain ⟨S3, hS3⟩ : ∃ S3, S3 = (S2 ++ [Cl.dT []]).set n (.ins "Board" [("columns", .int w), ("lines", .int h), ("kept", .cel S.length)]) := ⟨_, rfl⟩
  obtain ⟨S4, hS4⟩ : ∃ S4, S4 = S3.set n (.ins "Board" [("columns", .int w), ("lines", .int h), ("kept", .cel S.length), ("total", .int 0)]) := ⟨_, rfl⟩
  have l2 : S2.length = S.length := by rw [hS2, hS1]; simp
  have g1 : S1[n]? = some (.ins "Board" [("columns", .int w)]) := by rw [hS1]; exact get_set ln
  have g2 : S2[n]? = some (.ins "Board" [("columns", .int w), ("lines", .int h)]) := by rw [hS2]; exact get_set (lt_of_get g1)
  have g3' : (S2 ++ [Cl.dT []])[n]? = some (.ins "Board" [("columns", .int w), ("lines", .int h)]) := by rw [List.getElem?_append_left (lt_of_get g2)]; exact g2
  have g3 : S3[n]? = some (.ins "Board" [("columns", .int w), ("lines", .int h), ("kept", .cel S.length)]) := by rw [hS3]; exact get_set (lt_of_get g3')
  have g4 : S4[n]? = some (.ins "Board" [("columns", .int w), ("lines", .int h), ("kept", .cel S.length), ("total", .int 0)]) := by rw [hS4]; exact get_set (lt_of_get g3)
  have e1 : setAtM "Board" "columns" (.cel n) (.int w) S = some S1 := by rw [hS1]; exact setAtM_of hn (by simp)
  have e2 : setAtM "Board" "lines" (.cel n) (.int h) S1 = some S2 := by rw [hS2]; exact setAtM_of g1 (by simp)
  have e3 : setAtM "Board" "kept" (.cel n) (.cel S2.length) (S2 ++ [Cl.dT []]) = some S3 := by rw [hS3, l2]; exact setAtM_of g3' (by simp)
  have e4 : setAtM "Board" "total" (.cel n) (.int 0) S3 = some S4 := by rw [hS4]; exact setAtM_of g3 (by simp)
  simp [m_Board_init, mDef_sat, b_Board_init]
  refine for_satN (fun i ρ S' => S' = S ∧ ∃ x, ρ = [some (.cel n), some (.int w), some (.int h), x]) rfl ⟨rfl, none, rfl⟩ ?_ ?_
  · rintro i dd ρ S' hd ⟨rfl, x, rfl⟩
    refine ⟨_, rfl, ?_⟩
    have : ∃ v : Int, dd = .int v ∧ 1 ≤ v ∧ v ≤ 16 := by
      match i, hd with
      | 0, hd => exact ⟨w, (Option.some.inj hd).symm, w1⟩
      | 1, hd => exact ⟨h, (Option.some.inj hd).symm, h1⟩
    obtain ⟨v, rfl, v1, v2⟩ := this
    simp [whole_int, v1, v2]
  · rintro ρ S' ⟨rfl, x, rfl⟩
    simp [e1, e2, e3, e4]
    refine ⟨⟨g4, ?_, sqs_nil, w1, h1⟩, ?_, ?_⟩
    · rw [hS4, List.getElem?_set_ne (by omega), hS3, List.getElem?_set_ne (by omega), ← l2]
      exact get_new
    · rw [hS4, hS3]
      have a : Fr (· = n) S' S2 := by rw [hS2, hS1]; exact (Fr.set (P := (· = n)) rfl).tr (Fr.set rfl)
      exact ((a.tr (Fr.app (P := (· = n)))).tr (Fr.set rfl)).tr (Fr.set rfl)
    · rw [hS4, hS3]; simp [l2]
theorem new_p (w1 : 1 ≤ w ∧ w ≤ 16) (h1 : 1 ≤ h ∧ h ≤ 16) : (m_Board_init [.cel S.length, .int w, .int h] (S ++ [.ins "Board" []])).Sat fun u S' => u = .non ∧ Bd S' S.length (S.length + 1) w h [] (fun _ => 0) ∧ Fr nop S S' ∧ S'.length = S.length + 2 := by
  refine (init_p get_new w1 h1).use ?_
  rintro u S' ⟨rfl, k, f, l⟩
  rw [List.length_append] at k l
  exact ⟨rfl, k, (Fr.app (P := nop)).trans f fun i l z => absurd z (Nat.ne_of_lt l), by simpa using l⟩
end
/-! ### what is told of boards, as data -/
abbrev itU (c : PI → Int) (p : PI) : U := .tup [pU p, .int (c p)]
abbrev dI3 (c : PI → Int) (p : PI) : D := .tup [dQ p, .int (c p)]
theorem okI {n : Int} (h : n.natAbs < 10 ^ 30) : decide (n.natAbs < 10 ^ 570) = true :=
  decide_eq_true (Nat.lt_of_lt_of_le h (Nat.pow_le_pow_right (by decide) (by decide)))
theorem res_it {S : Sto} {k : Nat} {c : PI → Int} : ∀ ps : List PI, optMap (res S (k + 3)) (ps.map (itU c)) = some (ps.map (dI3 c))
  | [] => rfl
  | q :: r => by
    rw [List.map_cons, List.map_cons]
    unfold optMap
    rw [res_it r]; rfl
theorem fi_it {c : PI → Int} {ps : List PI} (h : ∀ p ∈ ps, (p.1.natAbs < 10 ^ 30 ∧ p.2.natAbs < 10 ^ 30) ∧ (c p).natAbs < 10 ^ 30) (l : ps.length ≤ 1000) : Fi (.lst (ps.map (dI3 c))) := by
  have key : ∀ ps : List PI, (∀ p ∈ ps, (p.1.natAbs < 10 ^ 30 ∧ p.2.natAbs < 10 ^ 30) ∧ (c p).natAbs < 10 ^ 30) → okDs (ps.map (dI3 c)) = true ∧ deps (ps.map (dI3 c)) ≤ 2 ∧ wts (ps.map (dI3 c)) = 5 * ps.length := by
    intro ps
    induction ps with
    | nil => intro _; exact ⟨by unfold okDs; rfl, by rw [List.map_nil]; unfold deps; omega, by unfold wts; rfl⟩
    | cons p r ih =>
      intro h
      obtain ⟨a, b, e⟩ := ih fun x m => h x (List.mem_cons_of_mem _ m)
      obtain ⟨⟨h1, h2⟩, h3⟩ := h p List.mem_cons_self
      have e1 := okI h1
      have e2 := okI h2
      have e3 := okI h3
      rw [List.map_cons]
      refine ⟨?_, ?_, ?_⟩
      · show okDs (D.tup [.tup [.int p.1, .int p.2], .int (c p)] :: _) = true
        simp only [okDs, okD, e1, e2, e3, a, Bool.and_true, Bool.and_self]
      · simp only [deps, dep]; omega
      · simp only [wts, wt, e, List.length_cons]; omega
  obtain ⟨a, b, e⟩ := key ps h
  exact ⟨by unfold okD; exact a, by unfold dep; omega, by unfold wt; omega⟩
theorem just_it {S : Sto} {c : PI → Int} {ps : List PI} (h : ∀ p ∈ ps, (p.1.natAbs < 10 ^ 30 ∧ p.2.natAbs < 10 ^ 30) ∧ (c p).natAbs < 10 ^ 30) (l : ps.length ≤ 1000) : m_law_just [.lst (ps.map (itU c)), .lst (ps.map (itU c))] S = .ok (.bl true) S :=
  just_ok (res_L (k := 8) (res_it (k := 5) ps)) (res_L (k := 8) (res_it (k := 5) ps)) (fi_it h l) (by simp) (by simp)
theorem just_ints {S : Sto} {ns : List Int} {x : U} (hx : x = .lst (uI ns) ∨ ∃ n, x = .cel n ∧ S[n]? = some (.lst (uI ns))) (h : ∀ n ∈ ns, n.natAbs < 10 ^ 570) (l : ns.length ≤ 17000) : m_law_just [x, .lst (uI ns)] S = .ok (.bl true) S := by
  rcases hx with rfl | ⟨n, rfl, e⟩
  · exact just_ok (res_intsL (k := 7)) (res_intsL (k := 7)) (fit_ints h l) (by simp) (by simp)
  · exact just_ok (res_intsC (k := 7) e) (res_intsL (k := 7)) (fit_ints h l) (by simp) (by simp)
theorem items_sq {S : Sto} {n : Nat} {c : PI → Int} {ps : List PI} (e : S[n]? = some (.dT (sqK ps c))) : itmsOf S (.cel n) = some (ps.map (itU c)) := by
  unfold itmsOf
  dsimp only
  rw [e]
  dsimp only
  unfold sqK
  rw [List.map_map]; rfl
/-- a comprehension over range -/
theorem lcR {cc : Bool} {mi : ME IT} {te : ME U} {k n : Nat} {ρ : Rho} {S : Sto} {f : Nat → Int} (e : mi ρ S = .ok ⟨rng 0 n, none⟩ S)
    (ht : ∀ i < n, ∃ ρ1, gN k (.int (i : Int)) (wipeR ρ [k]) = some ρ1 ∧ te ρ1 S = .ok (.int (f i)) S) : mLc cc mi (gN k) mYes te [k] ρ S = newLst cc (uI ((List.range n).map f)) S := by
  unfold mLc
  rw [e, bind_ok]
  show (lcL (gN k) mYes te (fun _ => True) (wipeR ρ [k]) (rng 0 n) S).bind (newLst cc) = _
  have q : lcL (gN k) mYes te (fun _ => True) (wipeR ρ [k]) (rng 0 n) S = .ok (uI ((List.range n).map f)) S := by
    rw [lcL_map (fun u => match u with | .int i => .int (f i.toNat) | _ => .non) trivial fun u m => ?_]
    · show Out.ok ((((List.range n).map fun i : Nat => U.int (0 + (i : Int)))).map _) S = Out.ok (((List.range n).map f).map U.int) S
      rw [List.map_map, List.map_map]
      congr 1
      refine List.map_congr_left fun i _ => ?_
      show U.int (f ((0 : Int) + (i : Int)).toNat) = U.int (f i)
      rw [show ((0 : Int) + (i : Int)).toNat = i by omega]
    · obtain ⟨i, m2, rfl⟩ := List.mem_map.mp m
      have li := List.mem_range.mp m2
      obtain ⟨ρ1, h1, h2⟩ := ht i li
      refine ⟨ρ1, by rw [show ((0 : Int) + (i : Int)) = i by omega]; exact h1, ?_⟩
      rw [h2]
      show _ = Out.ok (U.int (f ((0 : Int) + (i : Int)).toNat)) S
      rw [show ((0 : Int) + (i : Int)).toNat = i by omega]
  rw [q, bind_ok]
theorem small_c {w h : Int} {ps : List PI} {c : PI → Int} (s : Sqs true w h ps c) (hw : w ≤ 16) (hh : h ≤ 16) (l : tot ps c < 10 ^ 20) : ∀ p ∈ ps, (p.1.natAbs < 10 ^ 30 ∧ p.2.natAbs < 10 ^ 30) ∧ (c p).natAbs < 10 ^ 30 := fun p mp => by
  have a := s.inn p mp
  have b := sum_le s.nn mp
  have e := s.nn p
  omega
section
variable {st : Bool} {w h : Int} {ps qs : List PI} {c c' : PI → Int} {p : PI} {v : Int}
theorem Sqs.weak (s : Sqs st w h ps c) : Sqs false w h ps c := ⟨s.nd, s.inn, s.out, s.nn, by simp⟩
theorem tot_upd (s : Sqs st w h ps c) : tot (if p ∈ ps then ps else ps ++ [p]) (updP c p v) = tot ps c - c p + v := by
  by_cases e : p ∈ ps
  · rw [if_pos e, tot_one (c := updP c p v) (f := c) (p := p) s.nd (fun q n => if_neg n) (fun n => absurd e n)]
    show tot ps c + (if p = p then v else c p) - c p = _
    rw [if_pos rfl]; omega
  · rw [if_neg e, tot_app, tot_cons, tot_nil, s.out p e]
    have : tot ps (updP c p v) = tot ps c := tot_cong fun q m => if_neg fun z : q = p => e (z ▸ m)
    rw [this]
    show _ + ((if p = p then v else c p) + 0) = _
    rw [if_pos rfl]; omega
theorem Sqs.tot_put (s : Sqs true w h ps c) (t : Sqs true w h qs (updP c p v)) (hp : onB w h p) (hv : 0 ≤ v) : tot qs (updP c p v) = tot ps c - c p + v := by
  rw [t.tot_eq (s.weak.put hp hv (by simp)) fun _ h => h, tot_upd s]
end
/-! ### two loops, one within the other -/
abbrev NN := Nat × Nat
def gridP (as bs : List Nat) : List NN := as.flatMap fun x => bs.map fun y => (x, y)
theorem gridP_app {a1 a2 bs : List Nat} {x : Nat} : gridP (a1 ++ x :: a2) bs = gridP a1 bs ++ (bs.map fun y => (x, y)) ++ gridP a2 bs := by
  unfold gridP
  rw [List.flatMap_append, List.flatMap_cons, List.append_assoc]
def keepL (S S' : Sto) : Prop := ∀ (q : Nat) (us : List U), S[q]? = some (Cl.lst us) → S'[q]? = some (Cl.lst us)
theorem dbl_in {mi2 : ME IT} {body : MS} {i j : Nat} {bs : List Nat} {full : List NN} {I : List NN → Rho → Sto → Prop} {R : U → Sto → Prop} {x : Nat} {dn : List NN} {ρ : Rho} {S : Sto}
    (h2 : ∀ dn ρ S, I dn ρ S → ∃ q S', mi2 ρ S = .ok ⟨uN bs, some q⟩ S' ∧ S'[q]? = some (.lst (uN bs)) ∧ I dn ρ S' ∧ keepL S S')
    (hb : ∀ dn ρ S (x y : Nat), I dn ρ S → ρ[i]? = some (some (.int x)) → (∃ t, dn ++ (x, y) :: t = full) → (body (ρ.set j (some (.int y))) S).Sat (fun ρ' S' => I (dn ++ [(x, y)]) ρ' S' ∧ ρ'[i]? = some (some (.int x)) ∧ keepL S S') R)
    (ht : ∃ t, dn ++ (bs.map fun y => (x, y)) ++ t = full) (h : I dn ρ S) (hx : ρ[i]? = some (some (.int x))) :
    (mFor mi2 (gN j) body ρ S).Sat (fun ρ' S' => I (dn ++ bs.map fun y => (x, y)) ρ' S' ∧ keepL S S') R := by
  obtain ⟨t, ht⟩ := ht
  obtain ⟨q, S1, e, eq, h1, k1⟩ := h2 dn ρ S h
  refine for_sat (fun l ρ' S' => I (dn ++ (bs.take l).map fun y => (x, y)) ρ' S' ∧ ρ'[i]? = some (some (.int x)) ∧ S'[q]? = some (.lst (uN bs)) ∧ keepL S S') e ⟨by simpa using h1, hx, eq, k1⟩ (fun l ρ S z => ⟨_, z.2.2.1, rfl⟩) ?_ ?_
  · rintro l d ρ' S' hd ⟨z1, z2, z3, z4⟩
    rw [List.getElem?_map] at hd
    obtain ⟨y, hy, rfl⟩ := Option.map_eq_some_iff.mp hd
    have ly := (List.getElem?_eq_some_iff.mp hy).1
    have et : bs.take (l + 1) = bs.take l ++ [y] := by
      rw [List.take_succ, hy]; rfl
    refine ⟨_, rfl, ?_⟩
    have hpre : ∃ t', dn ++ (bs.take l).map (fun y => (x, y)) ++ (x, y) :: t' = full := by
      refine ⟨(bs.drop (l + 1)).map (fun y => (x, y)) ++ t, ?_⟩
      rw [← ht]
      have : bs = bs.take l ++ y :: bs.drop (l + 1) := by
        have a := (List.take_append_drop l bs).symm
        rw [List.drop_eq_getElem_cons ly] at a
        have b : bs[l] = y := by rw [List.getElem?_eq_getElem ly] at hy; exact Option.some.inj hy
        rw [b] at a
        exact a
      conv => rhs; rw [this]
      simp
    refine (hb _ ρ' S' x y z1 z2 hpre).use ?_ (fun _ _ h => h)
    rintro ρ2 S2 ⟨w1, w2, w3⟩
    refine ⟨?_, w2, w3 _ _ z3, fun q us e => w3 _ _ (z4 _ _ e)⟩
    rw [et, List.map_append, ← List.append_assoc]
    exact w1
  · rintro ρ' S' ⟨z1, z2, z3, z4⟩
    rw [List.length_map, List.take_length] at z1
    exact ⟨z1, z4⟩
theorem dbl_ok {mi1 mi2 : ME IT} {body : MS} {i j : Nat} {as bs : List Nat} {I : List NN → Rho → Sto → Prop} {R : U → Sto → Prop} {ρ : Rho} {S : Sto}
    (h1 : ∃ q S', mi1 ρ S = .ok ⟨uN as, some q⟩ S' ∧ S'[q]? = some (.lst (uN as)) ∧ I [] ρ S')
    (h2 : ∀ dn ρ S, I dn ρ S → ∃ q S', mi2 ρ S = .ok ⟨uN bs, some q⟩ S' ∧ S'[q]? = some (.lst (uN bs)) ∧ I dn ρ S' ∧ keepL S S')
    (hi : ∀ dn ρ S (x : Nat), I dn ρ S → I dn (ρ.set i (some (.int x))) S ∧ (ρ.set i (some (U.int x)))[i]? = some (some (.int x)))
    (hb : ∀ dn ρ S (x y : Nat), I dn ρ S → ρ[i]? = some (some (.int x)) → (∃ t, dn ++ (x, y) :: t = gridP as bs) → (body (ρ.set j (some (.int y))) S).Sat (fun ρ' S' => I (dn ++ [(x, y)]) ρ' S' ∧ ρ'[i]? = some (some (.int x)) ∧ keepL S S') R) :
    (mFor mi1 (gN i) (mFor mi2 (gN j) body) ρ S).Sat (fun ρ' S' => I (gridP as bs) ρ' S') R := by
  obtain ⟨q, S1, e, eq, h0⟩ := h1
  refine for_sat (fun l ρ' S' => I (gridP (as.take l) bs) ρ' S' ∧ S'[q]? = some (.lst (uN as))) e ⟨by simpa [gridP] using h0, eq⟩ (fun l ρ S z => ⟨_, z.2, rfl⟩) ?_ ?_
  · rintro l d ρ' S' hd ⟨z1, z2⟩
    rw [List.getElem?_map] at hd
    obtain ⟨x, hx, rfl⟩ := Option.map_eq_some_iff.mp hd
    have lx := (List.getElem?_eq_some_iff.mp hx).1
    have eb : as[l] = x := by rw [List.getElem?_eq_getElem lx] at hx; exact Option.some.inj hx
    have sp : as = as.take l ++ x :: as.drop (l + 1) := by
      have a := (List.take_append_drop l as).symm
      rw [List.drop_eq_getElem_cons lx, eb] at a
      exact a
    obtain ⟨y1, y2⟩ := hi _ ρ' S' x z1
    refine ⟨_, rfl, ?_⟩
    refine (dbl_in (full := gridP as bs) (x := x) (dn := gridP (as.take l) bs) h2 hb ⟨gridP (as.drop (l + 1)) bs, ?_⟩ y1 y2).use ?_ (fun _ _ h => h)
    · conv => rhs; rw [sp]
      rw [gridP_app]
    · rintro ρ2 S2 ⟨w1, w2⟩
      refine ⟨?_, w2 _ _ z2⟩
      have et : as.take (l + 1) = as.take l ++ x :: [] := by rw [List.take_succ, hx]; rfl
      rw [et, gridP_app]
      simpa [gridP] using w1
  · rintro ρ' S' ⟨z1, z2⟩
    rw [List.length_map, List.take_length] at z1
    exact z1
theorem bits_up : ∀ (n v p : Nat), v < 2 ^ n → (bits v p).Pairwise (· < ·) ∧ ∀ b ∈ bits v p, p ≤ b
  | 0, v, p, h => by
    have : v = 0 := by omega
    subst this
    rw [bits_0]; simp
  | n + 1, v, p, h => by
    by_cases z : v = 0
    · subst z; rw [bits_0]; simp
    · rw [bits_s z]
      obtain ⟨i1, i2⟩ := bits_up n (v / 2) (p + 1) (by rw [Nat.pow_succ] at h; omega)
      by_cases o : v % 2 = 1
      · rw [if_pos o]
        refine ⟨List.pairwise_cons.mpr ⟨fun b m => by have := i2 b m; omega, i1⟩, fun b m => ?_⟩
        rcases List.mem_cons.mp m with m | m
        · omega
        · have := i2 b m; omega
      · rw [if_neg o]
        exact ⟨i1, fun b m => by have := i2 b (by simpa using m); omega⟩
theorem gridP_mem {as bs : List Nat} {p : NN} : p ∈ gridP as bs ↔ p.1 ∈ as ∧ p.2 ∈ bs := by
  obtain ⟨x, y⟩ := p
  unfold gridP
  simp [List.mem_flatMap]
theorem gridP_pw : ∀ {as bs : List Nat}, as.Pairwise (· < ·) → bs.Pairwise (· < ·) → (gridP as bs).Pairwise fun p q => p.1 < q.1 ∨ (p.1 = q.1 ∧ p.2 < q.2)
  | [], bs, _, _ => List.Pairwise.nil
  | x :: as, bs, h1, h2 => by
    obtain ⟨a1, a2⟩ := List.pairwise_cons.mp h1
    show (List.flatMap _ (x :: as)).Pairwise _
    rw [List.flatMap_cons]
    refine List.pairwise_append.mpr ⟨?_, gridP_pw a2 h2, fun p hp q hq => ?_⟩
    · rw [List.pairwise_map]
      exact h2.imp fun h => Or.inr ⟨rfl, h⟩
    · obtain ⟨y, _, rfl⟩ := List.mem_map.mp hp
      exact Or.inl (a1 _ (gridP_mem.mp hq).1)
theorem gridP_len {as bs : List Nat} : (gridP as bs).length = as.length * bs.length := by
  induction as with
  | nil => simp [gridP]
  | cons x r ih =>
    show (List.flatMap _ (x :: r)).length = _
    rw [List.flatMap_cons, List.length_append, List.length_map, show (List.flatMap (fun x => bs.map fun y => (x, y)) r).length = _ from ih, List.length_cons, Nat.succ_mul, Nat.add_comm]
/-- as squares -/
abbrev toP (p : NN) : PI := ((p.1 : Int), (p.2 : Int))
def indP (dn : List NN) (p : PI) : Int := if p ∈ dn.map toP then 1 else 0
theorem toP_inj {p q : NN} (h : toP p = toP q) : p = q := by
  have a := congrArg Prod.fst h
  have b := congrArg Prod.snd h
  exact Prod.ext (by have : (p.1 : Int) = q.1 := a; omega) (by have : (p.2 : Int) = q.2 := b; omega)
theorem indP_app {dn : List NN} {x y : Nat} (h : (x, y) ∉ dn) : ∀ q, updP (indP dn) ((x : Int), (y : Int)) (indP dn ((x : Int), (y : Int)) + 1) q = indP (dn ++ [(x, y)]) q := fun q => by
  have n : ((x : Int), (y : Int)) ∉ dn.map toP := fun m => by
    obtain ⟨z, m, e⟩ := List.mem_map.mp m
    exact h (toP_inj (q := (x, y)) e ▸ m)
  show (if q = ((x : Int), (y : Int)) then indP dn ((x : Int), (y : Int)) + 1 else indP dn q) = _
  unfold indP
  rw [if_neg n, List.map_append]
  by_cases e : q = ((x : Int), (y : Int))
  · subst e; simp
  · have : q ∈ dn.map toP ++ [(x, y)].map toP ↔ q ∈ dn.map toP := by simp; exact fun z => absurd z e
    rw [if_neg e]
    by_cases m : q ∈ dn.map toP
    · rw [if_pos m, if_pos (this.mpr m)]
    · rw [if_neg m, if_neg (fun z => m (this.mp z))]
theorem sqs_ind {dn : List NN} {w h : Int} (nd : dn.Nodup) (inn : ∀ p ∈ dn, (p.1 : Int) < w ∧ (p.2 : Int) < h) : Sqs true w h (dn.map toP) (indP dn) where
  nd := by
    clear inn
    induction dn with
    | nil => exact List.nodup_nil
    | cons p r ih =>
      obtain ⟨a, b⟩ := List.nodup_cons.mp nd
      rw [List.map_cons]
      refine List.nodup_cons.mpr ⟨fun m => ?_, ih b⟩
      obtain ⟨z, m, e⟩ := List.mem_map.mp m
      exact a (toP_inj e ▸ m)
  inn := fun p m => by
    obtain ⟨z, m2, rfl⟩ := List.mem_map.mp m
    have := inn z m2
    exact ⟨⟨by show (0 : Int) ≤ (z.1 : Int); omega, this.1⟩, by show (0 : Int) ≤ (z.2 : Int); omega, this.2⟩
  out := fun p n => by unfold indP; rw [if_neg n]
  nn := fun p => by unfold indP; split <;> omega
  st := fun _ p m => by unfold indP; rw [if_pos m]; decide
theorem tot_ind {dn : List NN} : tot (dn.map toP) (indP dn) = dn.length := by
  have : ∀ l : List PI, (∀ q ∈ l, indP dn q = 1) → tot l (indP dn) = l.length := by
    intro l
    induction l with
    | nil => intro _; rfl
    | cons q r ih =>
      intro h
      rw [tot_cons, ih fun x m => h x (List.mem_cons_of_mem _ m), h q List.mem_cons_self, List.length_cons]; omega
  rw [this _ fun q m => by unfold indP; rw [if_pos m], List.length_map]
theorem Bd.cong {S : Sto} {b d : Nat} {w h : Int} {ps : List PI} {c c' : PI → Int} (k : Bd S b d w h ps c) (e : ∀ q, c q = c' q) : Bd S b d w h ps c' := by
  have : c = c' := funext e
  rw [← this]; exact k
theorem keepL_bd {S S' : Sto} {b d : Nat} {w h : Int} {ps : List PI} {c : PI → Int} (k : Bd S b d w h ps c) (f : Fr (bdP b d) S S') : keepL S S' := fun q us e => f.get e fun z => by
  rcases z with z | z
  · rw [z, k.ib] at e; cases e
  · rw [z, k.id] at e; cases e
theorem keepL_app {S t : Sto} : keepL S (S ++ t) := fun q us e => (Fr.app (P := nop)).get e fun h => h
theorem need_num {v lo hi : Int} {S : Sto} (h1 : lo ≤ v) (h2 : v ≤ hi) : m_need_number [.int v, .int lo, .int hi] S = .ok .non S := by
  simp [m_need_number, mDef_f, b_need_number, whole_int, h1, h2]
theorem onesE {v : Nat} {S : Sto} (h : v < 2 ^ 250) : m_ones_of [.int v] S = .ok (.cel S.length) (S ++ [.lst (uN (bits v 0))]) := by
  obtain ⟨u, S', e, rfl, rfl⟩ := (ones_ok (S := S) h).eq
  exact e
theorem b16 {v : Nat} (h : v ≤ 65535) : (bits v 0).length ≤ 16 ∧ (∀ b ∈ bits v 0, b < 16) ∧ (bits v 0).Pairwise (· < ·) ∧ v < 2 ^ 250 := by
  have a := bits_lt 16 v 0 (by omega)
  have b := bits_up 16 v 0 (by omega)
  exact ⟨a.1, fun x m => by have := a.2 x m; omega, b.1, Nat.lt_of_lt_of_le (show v < 2 ^ 16 by omega) (Nat.pow_le_pow_right (by decide) (by decide))⟩
theorem grid_nd {a b : Nat} (ha : a ≤ 65535) (hb : b ≤ 65535) : (gridP (bits a 0) (bits b 0)).Nodup :=
  (gridP_pw (b16 ha).2.2.1 (b16 hb).2.2.1).imp fun {p q} h e => by subst e; omega
theorem grid_in {a b : Nat} (ha : a ≤ 65535) (hb : b ≤ 65535) : ∀ p ∈ gridP (bits a 0) (bits b 0), (p.1 : Int) < 16 ∧ (p.2 : Int) < 16 := fun p m => by
  obtain ⟨m1, m2⟩ := gridP_mem.mp m
  have := (b16 ha).2.1 _ m1
  have := (b16 hb).2.1 _ m2
  omega
theorem grid_len {a b : Nat} (ha : a ≤ 65535) (hb : b ≤ 65535) : (gridP (bits a 0) (bits b 0)).length ≤ 256 := by
  rw [gridP_len]
  exact Nat.le_trans (Nat.mul_le_mul (b16 ha).1 (b16 hb).1) (by decide)
theorem product_ok {a b : Nat} {S : Sto} (ha : a ≤ 65535) (hb : b ≤ 65535) : (m_product [.int a, .int b] S).Sat fun u S' => u = .cel S.length ∧ (∃ ps, Bd S' S.length (S.length + 1) 16 16 ps (indP (gridP (bits a 0) (bits b 0)))) ∧ Fr nop S S' := by
  have n1 := need_num (v := a) (lo := 0) (hi := 65535) (S := S) (by omega) (by omega)
  have n2 := need_num (v := b) (lo := 0) (hi := 65535) (S := S) (by omega) (by omega)
  simp [-Int.reducePow, m_product, mDef_sat, b_product, n1, n2]
  refine (new_p (w := 16) (h := 16) (by decide) (by decide)).use ?_
  rintro _ S1 ⟨rfl, k1, f1, l1⟩
  simp [-Int.reducePow]
  have o1 := onesE (v := a) (S := S1) (b16 ha).2.2.2
  refine (dbl_ok (R := fun _ _ => False) (as := bits a 0) (bs := bits b 0) (I := fun dn ρ S' => (∃ x3 x4, ρ = [some (.int a), some (.int b), some (.cel S.length), x3, x4]) ∧ (∃ ps, Bd S' S.length (S.length + 1) 16 16 ps (indP dn)) ∧ Fr nop S S') ⟨S1.length, S1 ++ [.lst (uN (bits a 0))], ?_, get_new, ⟨_, _, rfl⟩, ⟨_, (k1.fr (Fr.app (P := nop)) (fun h => h) (fun h => h)).cong fun q => by simp [indP]⟩, f1.tr Fr.app⟩ ?_ ?_ ?_).use ?_ ?_
  · simp [-Int.reducePow, o1]
  · rintro dn ρ S2 ⟨⟨x3, x4, rfl⟩, ⟨ps, k⟩, f⟩
    have o2 := onesE (v := b) (S := S2) (b16 hb).2.2.2
    refine ⟨S2.length, S2 ++ [.lst (uN (bits b 0))], ?_, get_new, ⟨⟨_, _, rfl⟩, ⟨_, k.fr (Fr.app (P := nop)) (fun h => h) (fun h => h)⟩, f.tr Fr.app⟩, keepL_app⟩
    simp [-Int.reducePow, o2]
  · rintro dn ρ S2 x ⟨⟨x3, x4, rfl⟩, q⟩
    exact ⟨⟨⟨_, _, rfl⟩, q⟩, rfl⟩
  · rintro dn ρ S2 x y ⟨⟨x3, x4, rfl⟩, ⟨ps, k⟩, f⟩ hx ⟨t, ht⟩
    have e3 : x3 = some (.int x) := by simpa using hx
    subst e3
    have nd := grid_nd ha hb
    have inn := grid_in ha hb
    have ln := grid_len ha hb
    rw [← ht] at nd inn ln
    have nd1 : dn.Nodup := (List.nodup_append.mp nd).1
    have nx : (x, y) ∉ dn := fun m => (List.nodup_append.mp nd).2.2 _ m _ List.mem_cons_self rfl
    have s := sqs_ind (w := 16) (h := 16) nd1 fun p m => inn p (List.mem_append_left _ m)
    have tt : tot ps (indP dn) = dn.length := by rw [k.sq.tot_eq s fun _ h => h, tot_ind]
    have ixy := inn (x, y) (List.mem_append_right _ List.mem_cons_self)
    rw [List.length_append] at ln
    have pp := put_p k (p := ((x : Int), (y : Int))) (m := 1) ⟨⟨by show (0 : Int) ≤ (x : Int); omega, ixy.1⟩, by show (0 : Int) ≤ (y : Int); omega, ixy.2⟩ (by decide) (by decide) (by rw [tt]; omega)
    simp [-Int.reducePow, k.ms, pick]
    refine pp.use ?_
    rintro _ S3 ⟨rfl, ⟨ps3, k3⟩, f3, _⟩
    exact ⟨⟨⟨ps3, k3.cong (indP_app nx)⟩, f.trans f3 fun i l z => by rcases z with z | z <;> omega⟩, keepL_bd k f3⟩
  · rintro ρ S2 ⟨⟨x3, x4, rfl⟩, q, f⟩
    simp
    exact ⟨q, f⟩
  · exact fun _ _ h => h.elim

theorem tot_row {x : Nat} {g : PI → Int} : ∀ {bs : List Nat}, (∀ y ∈ bs, g ((x : Int), (y : Int)) = 2 ^ x * 2 ^ y) → tot ((bs.map fun y => (x, y)).map toP) g = 2 ^ x * (bs.map fun k => (2 : Int) ^ k).sum
  | [], _ => by simp [tot]
  | y :: r, h => by
    rw [List.map_cons, List.map_cons, tot_cons, tot_row fun z m => h z (List.mem_cons_of_mem _ m), List.map_cons, List.sum_cons, Int.mul_add]
    rw [show g (toP (x, y)) = 2 ^ x * 2 ^ y from h y List.mem_cons_self]
theorem tot_grid {g : PI → Int} {bs : List Nat} : ∀ {as : List Nat}, (∀ x ∈ as, ∀ y ∈ bs, g ((x : Int), (y : Int)) = 2 ^ x * 2 ^ y) → tot ((gridP as bs).map toP) g = (as.map fun k => (2 : Int) ^ k).sum * (bs.map fun k => (2 : Int) ^ k).sum
  | [], _ => by simp [gridP, tot]
  | x :: r, h => by
    have e : gridP (x :: r) bs = (bs.map fun y => (x, y)) ++ gridP r bs := by unfold gridP; rw [List.flatMap_cons]
    rw [e, List.map_append, tot_app, tot_row fun y m => h x List.mem_cons_self y m, tot_grid fun z m => h z (List.mem_cons_of_mem _ m), List.map_cons, List.sum_cons, Int.add_mul]
theorem wtP_ind {dn : List NN} {x y : Nat} (m : (x, y) ∈ dn) : wtP (indP dn) ((x : Int), (y : Int)) = 2 ^ x * 2 ^ y := by
  have : indP dn ((x : Int), (y : Int)) = 1 := by unfold indP; rw [if_pos (List.mem_map.mpr ⟨_, m, rfl⟩)]
  show indP dn ((x : Int), (y : Int)) * 2 ^ ((x : Int) + (y : Int)).toNat = _
  rw [this, Int.one_mul, show ((x : Int) + (y : Int)).toNat = x + y by omega, Int.pow_add]
section
variable {S S' : Sto} {b d : Nat} {ps : List PI} {x y : Nat}
abbrev gr (x y : Nat) : List NN := gridP (bits x 0) (bits y 0)
theorem prod_sorted (hx : x ≤ 65535) (hy : y ≤ 65535) (s : Sqs true 16 16 ps (indP (gr x y))) : psort ps = (gr x y).map toP := by
  have t := sqs_ind (w := 16) (h := 16) (grid_nd hx hy) (grid_in hx hy)
  rw [s.sort t]
  have e : (gr x y).map toP = psort ((gr x y).map toP) := psort_fix.mpr (by
    rw [List.pairwise_map]
    exact (gridP_pw (b16 hx).2.2.1 (b16 hy).2.2.1).imp fun {p q} h => leP_iff.mpr (by show (p.1 : Int) < q.1 ∨ ((p.1 : Int) = q.1 ∧ (p.2 : Int) ≤ q.2); omega))
  rw [← e]
  exact List.filter_eq_self.mpr fun p m => by unfold indP; rw [if_pos m]; rfl
theorem prod_many (hx : x ≤ 65535) (hy : y ≤ 65535) (s : Sqs true 16 16 ps (indP (gr x y))) : tot ps (indP (gr x y)) = (bits x 0).length * (bits y 0).length := by
  rw [s.tot_eq (sqs_ind (w := 16) (h := 16) (grid_nd hx hy) (grid_in hx hy)) fun _ h => h, tot_ind, gridP_len]; simp
theorem prod_worth (hx : x ≤ 65535) (hy : y ≤ 65535) (s : Sqs true 16 16 ps (indP (gr x y))) : tot ps (wtP (indP (gr x y))) = x * y := by
  rw [s.tot_eq (sqs_ind (w := 16) (h := 16) (grid_nd hx hy) (grid_in hx hy)) fun q h => by show indP _ q * _ = 0; rw [h, Int.zero_mul], tot_grid fun p mp q mq => wtP_ind (gridP_mem.mpr ⟨mp, mq⟩)]
  rw [bits_sum 16 x 0 (by omega), bits_sum 16 y 0 (by omega)]; simp
theorem prod_le (hx : x ≤ 65535) (hy : y ≤ 65535) : (bits x 0).length * (bits y 0).length ≤ 256 := Nat.le_trans (Nat.mul_le_mul (b16 hx).1 (b16 hy).1) (by decide)
end
/-! ### the factors of a board -/
theorem lcP {mi : ME IT} {te : ME U} {k : Nat} {ρ : Rho} {S : Sto} {ps : List PI} {f : PI → Int} (e : mi ρ S = .ok ⟨ps.map pU, none⟩ S) (l : ps.length ≤ 1000)
    (ht : ∀ p ∈ ps, ∃ ρ1, gN k (pU p) (wipeR ρ [k]) = some ρ1 ∧ te ρ1 S = .ok (.int (f p)) S) : mLc false mi (gN k) mYes te [k] ρ S = .ok (.lst (ps.map fun p => .int (f p))) S := by
  unfold mLc
  rw [e, bind_ok]
  show (lcL (gN k) mYes te (fun _ => True) (wipeR ρ [k]) (ps.map pU) S).bind (newLst false) = _
  rw [lcL_map (sqV f) trivial fun u m => ?_]
  · rw [bind_ok, List.map_map]
    exact new_f (by rw [List.length_map]; omega)
  · obtain ⟨p, m2, rfl⟩ := List.mem_map.mp m
    exact ht p m2
theorem lcN {mi : ME IT} {te : ME U} {k : Nat} {ρ : Rho} {S : Sto} {ns : List Int} {f : Int → Int} (e : mi ρ S = .ok ⟨uI ns, none⟩ S) (l : ns.length ≤ 1000)
    (ht : ∀ n ∈ ns, ∃ ρ1, gN k (.int n) (wipeR ρ [k]) = some ρ1 ∧ te ρ1 S = .ok (.int (f n)) S) : mLc false mi (gN k) mYes te [k] ρ S = .ok (.lst (uI (ns.map f))) S := by
  unfold mLc
  rw [e, bind_ok]
  show (lcL (gN k) mYes te (fun _ => True) (wipeR ρ [k]) (uI ns) S).bind (newLst false) = _
  rw [lcL_map (fun u => match u with | .int n => .int (f n) | _ => .non) trivial fun u m => ?_]
  · rw [bind_ok]
    have e2 : (uI ns).map (fun u => match u with | .int n => .int (f n) | _ => .non) = uI (ns.map f) := by simp only [uI, List.map_map]; rfl
    rw [e2]
    exact new_f (by rw [List.length_map, List.length_map]; omega)
  · obtain ⟨n, m2, rfl⟩ := List.mem_map.mp m
    exact ht n m2
theorem ints_uI : ∀ ns : List Int, intsOf (uI ns) = some ns
  | [] => rfl
  | n :: r => by
    have := ints_uI r
    show (intsOf (uI r)).map (n :: ·) = _
    rw [this]; rfl
theorem sumM_uI {S : Sto} {ns : List Int} : sumM (.lst (uI ns)) S = .ok (.int ns.sum) S := by
  unfold sumM
  rw [lsOf_lst]
  show (match intsOf _ with | some ns => _ | none => _) = _
  rw [ints_uI]
theorem lenM_lst {S : Sto} {us : List U} : lenM (.lst us) S = .ok (.int us.length) S := rfl
theorem dedI_lt {ns : List Int} : (dedI ns).length ≤ 60 := by
  unfold dedI
  rw [List.length_map]
  exact Nat.le_trans (List.length_filter_le _ _) (by rw [List.length_range]; exact Nat.le_refl _)
theorem dedI_in {ns : List Int} : ∀ k ∈ dedI ns, 0 ≤ k ∧ k < 60 := fun k m => by
  unfold dedI at m
  obtain ⟨j, mj, rfl⟩ := List.mem_map.mp m
  have := List.mem_range.mp (List.mem_filter.mp mj).1
  omega
abbrev colI (ps : List PI) : List Int := dedI ((psort ps).map (·.1))
abbrev linI (ps : List PI) : List Int := dedI ((psort ps).map (·.2))
def facU (ps : List PI) (c : PI → Int) : U := if tot ps c ≠ ps.length ∨ ps.length ≠ (colI ps).length * (linI ps).length then .non else .tup [.int ((colI ps).map fun k => (2 : Int) ^ k.toNat).sum, .int ((linI ps).map fun k => (2 : Int) ^ k.toNat).sum]
section
variable {S : Sto} {b d : Nat} {w h : Int} {ps : List PI} {c : PI → Int}
theorem kd_bd (k : Bd S b d w h ps c) : kdOf S (.cel b) = some (.i "Board") := by unfold kdOf; dsimp only; rw [k.ib]
theorem needb_p (k : Bd S b d w h ps c) : m_need_board [.cel b] S = .ok .non S := by
  have kc : Kd.isC "Board" (.i "Board") = true := by decide
  simp [m_need_board, mDef_f, b_need_board, kd_bd k, kc]
theorem shl_one {S : Sto} {k : Int} (h0 : 0 ≤ k) (h1 : k < 60) : shlM (.int 1) (.int k) S = .ok (.int (2 ^ k.toNat)) S := by
  have := shlM_i (i := 1) (j := k) (S := S) ⟨⟨h0, by omega⟩, by decide, by decide⟩
  rw [Int.one_mul] at this
  exact this
theorem factors_p (k : Bd S b d w h ps c) : m_factors [.cel b] S = .ok (facU ps c) (S ++ [.dT (sqK (psort ps) c)]) := by
  have lp := k.sq.len k.w1.2 k.h1.2
  have w1 := k.w1
  have h1 := k.h1
  obtain ⟨S2, hS2⟩ : ∃ S2, S2 = S ++ [Cl.dT (sqK (psort ps) c)] := ⟨_, rfl⟩
  have ec : m_Board_counters [.cel b] S = .ok (.cel S.length) S2 := by rw [hS2]; exact counters_p k
  have k2 : Bd S2 b d w h ps c := by rw [hS2]; exact k.fr (Fr.app (P := nop)) (fun h => h) (fun h => h)
  have g2 : S2[S.length]? = some (.dT (sqK (psort ps) c)) := by rw [hS2]; exact get_new
  have ek : dcOf S2 (.cel S.length) = some (.t (sqK (psort ps) c)) := dcOf_T g2
  have kk : ((sqK (psort ps) c).map fun kv => ktU kv.1) = (psort ps).map pU := by unfold sqK; rw [List.map_map]; rfl
  have nl : newLst false ((psort ps).map pU) S2 = .ok (.lst ((psort ps).map pU)) S2 := new_f (by rw [List.length_map, psort_len]; omega)
  have inn : ∀ p ∈ psort ps, (0 ≤ p.1 ∧ p.1 < 16) ∧ 0 ≤ p.2 ∧ p.2 < 16 := fun p m => by have := k.sq.inn p (psort_mem m); omega
  have l1 : ∀ x2 x3 x4 x5 x6, mLc false (mIt (mVar 1)) (gN 3) mYes (mOp ixM (mVar 3) (mC (.int 0))) [3] [some (.cel b), some (.lst ((psort ps).map pU)), x2, x3, x4, x5, x6] S2 = .ok (.lst ((psort ps).map fun p => .int p.1)) S2 := fun x2 x3 x4 x5 x6 =>
    lcP (f := fun p => p.1) (by simp) (by rw [psort_len]; omega) fun p m => ⟨_, rfl, rfl⟩
  have l2 : ∀ x2 x3 x4 x5 x6, mLc false (mIt (mVar 1)) (gN 3) mYes (mOp ixM (mVar 3) (mC (.int 1))) [3] [some (.cel b), some (.lst ((psort ps).map pU)), x2, x3, x4, x5, x6] S2 = .ok (.lst ((psort ps).map fun p => .int p.2)) S2 := fun x2 x3 x4 x5 x6 =>
    lcP (f := fun p => p.2) (by simp) (by rw [psort_len]; omega) fun p m => ⟨_, rfl, rfl⟩
  have i1 : (lsOf S2 (.lst ((psort ps).map fun p => .int p.1))).bind intsOf = some ((psort ps).map (·.1)) := by
    rw [lsOf_lst]
    have := ints_uI ((psort ps).map (·.1))
    simp only [uI, List.map_map] at this
    exact this
  have i2 : (lsOf S2 (.lst ((psort ps).map fun p => .int p.2))).bind intsOf = some ((psort ps).map (·.2)) := by
    rw [lsOf_lst]
    have := ints_uI ((psort ps).map (·.2))
    simp only [uI, List.map_map] at this
    exact this
  have a1 : ((psort ps).map (·.1)).length ≤ 1000 ∧ (((psort ps).map (·.1)).all fun k => decide (0 ≤ k ∧ k < 60)) = true := ⟨by rw [List.length_map, psort_len]; omega, by
    rw [List.all_eq_true]
    intro x m
    obtain ⟨p, mp, rfl⟩ := List.mem_map.mp m
    have := inn p mp
    exact decide_eq_true (by omega)⟩
  have a2 : ((psort ps).map (·.2)).length ≤ 1000 ∧ (((psort ps).map (·.2)).all fun k => decide (0 ≤ k ∧ k < 60)) = true := ⟨by rw [List.length_map, psort_len]; omega, by
    rw [List.all_eq_true]
    intro x m
    obtain ⟨p, mp, rfl⟩ := List.mem_map.mp m
    have := inn p mp
    exact decide_eq_true (by omega)⟩
  have n1 : newLst false (uI (colI ps)) S2 = .ok (.lst (uI (colI ps))) S2 := new_f (by rw [List.length_map]; exact Nat.le_trans dedI_lt (by decide))
  have n2 : newLst false (uI (linI ps)) S2 = .ok (.lst (uI (linI ps))) S2 := new_f (by rw [List.length_map]; exact Nat.le_trans dedI_lt (by decide))
  have s1 : ∀ x2 x3 x5 x6, mSortSet false (mLc false (mIt (mVar 1)) (gN 3) mYes (mOp ixM (mVar 3) (mC (.int 0))) [3]) [some (.cel b), some (.lst ((psort ps).map pU)), x2, x3, x5, x6] S2 = mSortSet false (mLc false (mIt (mVar 1)) (gN 3) mYes (mOp ixM (mVar 3) (mC (.int 0))) [3]) [some (.cel b), some (.lst ((psort ps).map pU)), x2, x3, x5, x6] S2 := fun _ _ _ _ => rfl
  have q1 : ∀ x2 x3 x4 x5 x6, mSortSet false (mLc false (mIt (mVar 1)) (gN 3) mYes (mOp ixM (mVar 3) (mC (.int 0))) [3]) [some (.cel b), some (.lst ((psort ps).map pU)), x2, x3, x4, x5, x6] S2 = .ok (.lst (uI (colI ps))) S2 := fun x2 x3 x4 x5 x6 => by
    unfold mSortSet
    rw [l1, bind_ok, i1]
    dsimp only
    rw [if_pos a1]
    exact n1
  have q2 : ∀ x2 x3 x4 x5 x6, mSortSet false (mLc false (mIt (mVar 1)) (gN 3) mYes (mOp ixM (mVar 3) (mC (.int 1))) [3]) [some (.cel b), some (.lst ((psort ps).map pU)), x2, x3, x4, x5, x6] S2 = .ok (.lst (uI (linI ps))) S2 := fun x2 x3 x4 x5 x6 => by
    unfold mSortSet
    rw [l2, bind_ok, i2]
    dsimp only
    rw [if_pos a2]
    exact n2
  have r1 : ∀ x3 x5 x6, mLc false (mIt (mVar 2)) (gN 5) mYes (mOp shlM (mC (.int 1)) (mVar 5)) [5] [some (.cel b), some (.lst ((psort ps).map pU)), some (.lst (uI (colI ps))), x3, some (.lst (uI (linI ps))), x5, x6] S2 = .ok (.lst (uI ((colI ps).map fun k => 2 ^ k.toNat))) S2 := fun x3 x5 x6 =>
    lcN (f := fun k => 2 ^ k.toNat) (by simp) (Nat.le_trans dedI_lt (by decide)) fun n m => ⟨_, rfl, by
      have := dedI_in n m
      show (mOp shlM (mC (.int 1)) (mVar 5)) [some (.cel b), some (.lst ((psort ps).map pU)), some (.lst (uI (colI ps))), x3, some (.lst (uI (linI ps))), some (.int n), x6] S2 = _
      simp [-Int.reducePow, shl_one this.1 this.2]⟩
  have r2 : ∀ x3 x5 x6, mLc false (mIt (mVar 4)) (gN 6) mYes (mOp shlM (mC (.int 1)) (mVar 6)) [6] [some (.cel b), some (.lst ((psort ps).map pU)), some (.lst (uI (colI ps))), x3, some (.lst (uI (linI ps))), x5, x6] S2 = .ok (.lst (uI ((linI ps).map fun k => 2 ^ k.toNat))) S2 := fun x3 x5 x6 =>
    lcN (f := fun k => 2 ^ k.toNat) (by simp) (Nat.le_trans dedI_lt (by decide)) fun n m => ⟨_, rfl, by
      have := dedI_in n m
      show (mOp shlM (mC (.int 1)) (mVar 6)) [some (.cel b), some (.lst ((psort ps).map pU)), some (.lst (uI (colI ps))), x3, some (.lst (uI (linI ps))), x5, some (.int n)] S2 = _
      simp [-Int.reducePow, shl_one this.1 this.2]⟩
  have lc := dedI_lt (ns := (psort ps).map (·.1))
  have ll := dedI_lt (ns := (psort ps).map (·.2))
  have lc' : (colI ps).length ≤ 60 := lc
  have ll' : (linI ps).length ≤ 60 := ll
  have mm : mulM false (.int (colI ps).length) (.int (linI ps).length) S2 = .ok (.int (((colI ps).length : Int) * ((linI ps).length : Int))) S2 := mulM_i ⟨⟨by omega, by omega⟩, by omega, by omega⟩
  rw [← hS2]
  unfold facU
  by_cases c1 : tot ps c = ps.length
  · by_cases c2 : ps.length = (colI ps).length * (linI ps).length
    · have c2' : (ps.length : Int) = ((colI ps).length : Int) * ((linI ps).length : Int) := by exact_mod_cast c2
      rw [if_neg (by simp [c1]; exact c2)]
      simp [-Int.reducePow, -mLc, -mSortSet, -List.map_map, m_factors, mDef_f, b_factors, needb_p k, k.ms, ec, ek, kk, nl, q1, q2, k2.ms, many_p k2, lenM_lst, psort_len, c1, mm, ← c2', r1, r2, sumM_uI]
    · rw [if_pos (Or.inr c2)]
      have c2' : ¬ (ps.length : Int) = ((colI ps).length : Int) * ((linI ps).length : Int) := by exact_mod_cast c2
      simp [-Int.reducePow, -mLc, -mSortSet, -List.map_map, m_factors, mDef_f, b_factors, needb_p k, k.ms, ec, ek, kk, nl, q1, q2, k2.ms, many_p k2, lenM_lst, psort_len, c1, mm, c2', r1, r2, sumM_uI]
  · rw [if_pos (Or.inl c1)]
    simp [-Int.reducePow, -mLc, -mSortSet, -List.map_map, m_factors, mDef_f, b_factors, needb_p k, k.ms, ec, ek, kk, nl, q1, q2, k2.ms, many_p k2, lenM_lst, psort_len, c1, mm, r1, r2, sumM_uI]
end
/-! ### digits, falling -/
def dwn : Nat → Nat → List Nat
  | 0, _ => []
  | k + 1, m => if 2 ^ k ≤ m then k :: dwn k (m - 2 ^ k) else dwn k m
theorem dwn_lo : ∀ (k v : Nat), v < 2 ^ (k + 1) → dwn (k + 1) v = (dwn k (v / 2)).map (· + 1) ++ (if v % 2 = 1 then [0] else [])
  | 0, v, h => by
    have : v = 0 ∨ v = 1 := by omega
    rcases this with rfl | rfl <;> simp [dwn]
  | k + 1, v, h => by
    have e : dwn (k + 1 + 1) v = if 2 ^ (k + 1) ≤ v then (k + 1) :: dwn (k + 1) (v - 2 ^ (k + 1)) else dwn (k + 1) v := rfl
    have e2 : dwn (k + 1) (v / 2) = if 2 ^ k ≤ v / 2 then k :: dwn k (v / 2 - 2 ^ k) else dwn k (v / 2) := rfl
    have p : 2 ^ (k + 1) = 2 ^ k * 2 := Nat.pow_succ ..
    have p2 : 2 ^ (k + 1 + 1) = 2 ^ (k + 1) * 2 := Nat.pow_succ ..
    rw [e, e2]
    by_cases c : 2 ^ (k + 1) ≤ v
    · rw [if_pos c, if_pos (by omega), dwn_lo k (v - 2 ^ (k + 1)) (by omega)]
      rw [show (v - 2 ^ (k + 1)) / 2 = v / 2 - 2 ^ k by omega, show (v - 2 ^ (k + 1)) % 2 = v % 2 by omega]
      simp
    · rw [if_neg c, if_neg (by omega), dwn_lo k v (by omega)]
theorem bits_dwn : ∀ (k v p : Nat), v < 2 ^ k → (bits v p).reverse = (dwn k v).map (· + p)
  | 0, v, p, h => by
    have : v = 0 := by omega
    subst this
    rw [bits_0]; rfl
  | k + 1, v, p, h => by
    rw [dwn_lo k v h]
    by_cases z : v = 0
    · subst z
      rw [bits_0]
      have : dwn k 0 = [] := by
        clear h
        induction k with
        | zero => rfl
        | succ k ih => show (if 2 ^ k ≤ 0 then _ else dwn k 0) = []; rw [if_neg (by have := Nat.pow_pos (n := k) (show 0 < 2 by decide); omega), ih]
      simp [this]
    · rw [bits_s z, List.reverse_append, bits_dwn k (v / 2) (p + 1) (by rw [Nat.pow_succ] at h; omega), List.map_append, List.map_map]
      congr 1
      · refine List.map_congr_left fun x _ => ?_
        show x + (p + 1) = x + 1 + p
        omega
      · by_cases o : v % 2 = 1
        · rw [if_pos o, if_pos o]; simp
        · rw [if_neg o, if_neg o]; rfl
theorem dwn_bits {k v : Nat} (h : v < 2 ^ k) : dwn k v = (bits v 0).reverse := by
  rw [bits_dwn k v 0 h]; simp
theorem dwn_sum {k v : Nat} (h : v < 2 ^ k) : ((dwn k v).map fun p => (2 : Int) ^ p).sum = v := by
  rw [dwn_bits h, List.map_reverse, List.sum_reverse, bits_sum k v 0 h]; simp
theorem e16d (ρ : Rho) (S : Sto) : mRange3 (mCons (mOp subM (mC (.int 16)) (mC (.int 1))) (mCons (mUn negM (mC (.int 1))) (mCons (mUn negM (mC (.int 1))) mNil))) ρ S = .ok ⟨rngD 15 16, none⟩ S := by
  have l : (15 : Int) < 2 ^ 62 := by decide
  have l2 : -2 ^ 62 ≤ (15 : Int) := by decide
  have l3 : (-1 : Int) < 2 ^ 62 := by decide
  have l4 : -2 ^ 62 ≤ (-1 : Int) := by decide
  simp [-Int.reducePow, l, l2, l3, l4]
theorem rngD_get {n i : Nat} {lo : Int} {d : U} (h : (rngD lo n)[i]? = some d) : i < n ∧ d = .int (lo - i) := by
  unfold rngD at h
  rw [List.getElem?_map] at h
  obtain ⟨j, e1, e2⟩ := Option.map_eq_some_iff.mp h
  obtain ⟨l, e⟩ := List.getElem?_eq_some_iff.mp e1
  rw [List.getElem_range] at e
  rw [List.length_range] at l
  subst e
  exact ⟨l, e2.symm⟩
theorem shl_i {v k : Nat} {S : Sto} (hv : v < 10 ^ 20) (hk : k ≤ 100000) : shlM (.int v) (.int k) S = .ok (.int ((v : Int) * 2 ^ k)) S := by
  have := shlM_i (i := v) (j := k) (S := S) ⟨⟨by omega, by omega⟩, by omega, by omega⟩
  rw [Int.toNat_natCast] at this
  exact this
/-! ### roots -/
def IsRt (r n : Nat) : Prop := r * r ≤ n ∧ n < (r + 1) * (r + 1)
theorem IsRt.one {r s n : Nat} (a : IsRt r n) (b : IsRt s n) : r = s := by
  rcases Nat.lt_trichotomy r s with h | h | h
  · have := Nat.mul_le_mul (show r + 1 ≤ s from h) (show r + 1 ≤ s from h)
    have := a.2; have := b.1; omega
  · exact h
  · have := Nat.mul_le_mul (show s + 1 ≤ r from h) (show s + 1 ≤ r from h)
    have := b.2; have := a.1; omega
theorem IsRt.le {r n : Nat} (a : IsRt r n) (h : n ≤ 4294967295) : r ≤ 65535 := by
  rcases Nat.lt_or_ge 65535 r with q | q
  · have := Nat.mul_le_mul (show 65536 ≤ r from q) (show 65536 ≤ r from q)
    have := a.1; omega
  · exact q
theorem sqI {r : Nat} {S : Sto} (h : r ≤ 200000) : mulM false (.int r) (.int r) S = .ok (.int ((r * r : Nat) : Int)) S := by
  rw [mulM_i ⟨⟨by omega, by omega⟩, by omega, by omega⟩]; rfl
def RtP (n : Nat) (S0 : Sto) (i : Nat) (ρ : Rho) (S : Sto) : Prop :=
  ∃ (f : Nat) (x2 x3 : Option U), ρ = [some (.int n), some (.int f), x2, x3] ∧ S = S0 ∧ f * f ≤ n ∧ n < (f + 2 ^ (16 - i)) * (f + 2 ^ (16 - i)) ∧ f + 2 ^ (16 - i) ≤ 65536
theorem root_ok {n : Nat} {S : Sto} (h : n ≤ 4294967295) : (m_root [.int n] S).Sat fun u S' => ∃ (r b : Nat), IsRt r n ∧ u = .tup [.cel b, .int ((n : Int) - ((r * r : Nat) : Int))] ∧ S.length ≤ b ∧ (∃ ps, Bd S' b (b + 1) 16 16 ps (indP (gridP (bits r 0) (bits r 0)))) ∧ Fr nop S S' := by
  have n1 := need_num (v := n) (lo := 0) (hi := 4294967295) (S := S) (by omega) (by omega)
  simp [-Int.reducePow, m_root, mDef_sat, b_root, n1]
  refine for_satN (RtP n S) (e16d _ _) ⟨0, none, none, rfl, rfl, by omega, by
    show n < (0 + 65536) * (0 + 65536)
    omega, by decide⟩ ?_ ?_
  · rintro i d ρ S' hd ⟨f, x2, x3, rfl, rfl, h1, h2, h3⟩
    obtain ⟨li, rfl⟩ := rngD_get hd
    have ek : (15 : Int) - (i : Int) = ((15 - i : Nat) : Int) := by omega
    rw [ek]
    obtain ⟨k, hk⟩ : ∃ k, k = 15 - i := ⟨_, rfl⟩
    rw [← hk]
    have k16 : 16 - i = k + 1 := by omega
    have k16' : 16 - (i + 1) = k := by omega
    rw [k16, Nat.pow_succ] at h2 h3
    have s2 := shl_i (v := 1) (k := k) (S := S') (by decide) (by omega)
    rw [show ((1 : Nat) : Int) * 2 ^ k = ((2 ^ k : Nat) : Int) by rw [Int.natCast_pow]; simp] at s2
    have s2' : shlM (.int 1) (.int (k : Int)) S' = .ok (.int ((2 ^ k : Nat) : Int)) S' := s2
    obtain ⟨t, ht⟩ : ∃ t : Nat, t = 2 ^ k := ⟨_, rfl⟩
    rw [← ht] at s2' h2 h3
    have m2 := sqI (r := f + t) (S := S') (by omega)
    have ad : addM false (.int (f : Int)) (.int (t : Int)) S' = .ok (.int ((f + t : Nat) : Int)) S' := rfl
    refine ⟨_, rfl, ?_⟩
    by_cases c : (f + t) * (f + t) ≤ n
    · have c' : (((f + t) * (f + t) : Nat) : Int) ≤ (n : Int) := by exact_mod_cast c
      simp only [mSeq, mSet, mOp, mVar, mC, mIf, mTB, mNx]
      simp [-Int.reducePow, -addM_i, -Int.natCast_add, -Int.natCast_mul, s2', ad, m2, c', asB]
      refine ⟨f + t, _, _, rfl, rfl, c, ?_, ?_⟩
      · rw [k16', ← ht, show f + t + t = f + t * 2 by omega]; exact h2
      · rw [k16', ← ht]; omega
    · have c' : ¬ (((f + t) * (f + t) : Nat) : Int) ≤ (n : Int) := by exact_mod_cast c
      simp only [mSeq, mSet, mOp, mVar, mC, mIf, mTB, mNx]
      simp [-Int.reducePow, -addM_i, -Int.natCast_add, -Int.natCast_mul, s2', ad, m2, c', asB]
      refine ⟨f, _, _, rfl, rfl, h1, ?_, ?_⟩
      · rw [k16', ← ht]; omega
      · rw [k16', ← ht]; omega
  · rintro ρ S' ⟨f, x2, x3, rfl, rfl, h1, h2, h3⟩
    rw [rngD_len] at h2 h3
    have rt : IsRt f n := ⟨h1, h2⟩
    have f16 := rt.le h
    have m2 : ∀ S, mulM false (.int (f : Int)) (.int (f : Int)) S = .ok (.int ((f * f : Nat) : Int)) S := fun S => sqI (r := f) (by omega)
    refine (product_ok f16 f16).use ?_
    rintro _ S2 ⟨rfl, k2, f2⟩
    simp [-Int.reducePow, -Int.natCast_mul, -sat_mul, m2]
    exact ⟨f, rt, S'.length, ⟨rfl, rfl⟩, Nat.le_refl _, k2, f2⟩
theorem bits_ne {v : Nat} (h : v ≤ 65535) (z : v ≠ 0) : bits v 0 ≠ [] := fun e => by
  have s := bits_sum 16 v 0 (by omega)
  rw [e] at s
  simp at s
  omega
theorem fac_col {as bs : List Nat} (ha : as.Pairwise (· < ·)) (hl : ∀ x ∈ as, x < 16) (hb : bs ≠ []) : dedI (((gridP as bs).map toP).map (·.1)) = as.map fun n : Nat => (n : Int) := by
  refine rise_one (dedI_pw _) (by rw [List.pairwise_map]; exact ha.imp fun {p q} h => by omega) fun k => ?_
  rw [dedI_mem fun k m => by
    obtain ⟨p, m2, rfl⟩ := List.mem_map.mp m
    obtain ⟨z, m3, rfl⟩ := List.mem_map.mp m2
    have := hl _ (gridP_mem.mp m3).1
    show 0 ≤ (z.1 : Int) ∧ (z.1 : Int) < 60
    omega]
  constructor
  · intro m
    obtain ⟨p, m2, rfl⟩ := List.mem_map.mp m
    obtain ⟨z, m3, rfl⟩ := List.mem_map.mp m2
    exact List.mem_map.mpr ⟨z.1, (gridP_mem.mp m3).1, rfl⟩
  · intro m
    obtain ⟨x, mx, rfl⟩ := List.mem_map.mp m
    obtain ⟨y, my⟩ := List.exists_mem_of_ne_nil bs hb
    exact List.mem_map.mpr ⟨toP (x, y), List.mem_map.mpr ⟨(x, y), gridP_mem.mpr ⟨mx, my⟩, rfl⟩, rfl⟩
theorem fac_lin {as bs : List Nat} (hb : bs.Pairwise (· < ·)) (hl : ∀ x ∈ bs, x < 16) (ha : as ≠ []) : dedI (((gridP as bs).map toP).map (·.2)) = bs.map fun n : Nat => (n : Int) := by
  refine rise_one (dedI_pw _) (by rw [List.pairwise_map]; exact hb.imp fun {p q} h => by omega) fun k => ?_
  rw [dedI_mem fun k m => by
    obtain ⟨p, m2, rfl⟩ := List.mem_map.mp m
    obtain ⟨z, m3, rfl⟩ := List.mem_map.mp m2
    have := hl _ (gridP_mem.mp m3).2
    show 0 ≤ (z.2 : Int) ∧ (z.2 : Int) < 60
    omega]
  constructor
  · intro m
    obtain ⟨p, m2, rfl⟩ := List.mem_map.mp m
    obtain ⟨z, m3, rfl⟩ := List.mem_map.mp m2
    exact List.mem_map.mpr ⟨z.2, (gridP_mem.mp m3).2, rfl⟩
  · intro m
    obtain ⟨y, my, rfl⟩ := List.mem_map.mp m
    obtain ⟨x, mx⟩ := List.exists_mem_of_ne_nil as ha
    exact List.mem_map.mpr ⟨toP (x, y), List.mem_map.mpr ⟨(x, y), gridP_mem.mpr ⟨mx, my⟩, rfl⟩, rfl⟩
theorem fac_sum {v : Nat} (h : v ≤ 65535) : (((bits v 0).map fun n : Nat => (n : Int)).map fun k => (2 : Int) ^ k.toNat).sum = v := by
  rw [List.map_map]
  have := bits_sum 16 v 0 (by omega)
  show ((bits v 0).map fun n : Nat => (2 : Int) ^ ((n : Int)).toNat).sum = v
  simp only [Int.toNat_natCast]
  simpa using this
theorem prod_fac {x y : Nat} {ps : List PI} (hx : x ≤ 65535) (hy : y ≤ 65535) (s : Sqs true 16 16 ps (indP (gr x y))) (z : x = 0 ↔ y = 0) : facU ps (indP (gr x y)) = .tup [.int x, .int y] := by
  have so := prod_sorted hx hy s
  have pl : ps.length = (gr x y).length := by rw [← psort_len ps, so, List.length_map]
  have mn := prod_many hx hy s
  unfold facU colI linI
  rw [so, mn, pl, gridP_len]
  by_cases x0 : x = 0
  · have y0 := z.mp x0
    subst x0 y0
    have g0 : gr 0 0 = [] := by
      show gridP (bits 0 0) (bits 0 0) = []
      rw [bits_0]; rfl
    have d0 : dedI [] = [] := by
      unfold dedI
      rw [List.filter_eq_nil_iff.mpr (by simp)]; rfl
    rw [bits_0, g0]
    simp [d0]
  · have y0 : ¬ y = 0 := fun e => x0 (z.mpr e)
    rw [fac_col (b16 hx).2.2.1 (b16 hx).2.1 (bits_ne hy y0), fac_lin (b16 hy).2.2.1 (b16 hy).2.1 (bits_ne hx x0), List.length_map, List.length_map, fac_sum hx, fac_sum hy]
    rw [if_neg (by simp)]
/-! ### the steps of a quotient -/
def stI (bw : Int) : List Nat → Int → List (Nat × Int)
  | [], _ => []
  | p :: r, n => (p, n - bw * 2 ^ p) :: stI bw r (n - bw * 2 ^ p)
abbrev stT (z : Nat × Int) : U := .tup [.int z.1, .int z.2]
abbrev stU (bw : Int) (ps : List Nat) (n : Int) : List U := (stI bw ps n).map stT
theorem stI_len {bw : Int} : ∀ {ps : List Nat} {n : Int}, (stI bw ps n).length = ps.length
  | [], _ => rfl
  | p :: r, n => by unfold stI; rw [List.length_cons, stI_len, List.length_cons]
theorem stI_fst {bw : Int} : ∀ {ps : List Nat} {n : Int}, (stI bw ps n).map (·.1) = ps
  | [], _ => rfl
  | p :: r, n => by unfold stI; rw [List.map_cons, stI_fst]
theorem stI_last {bw : Int} : ∀ {ps : List Nat} {n : Int}, ps ≠ [] → ∃ p, (stI bw ps n)[ps.length - 1]? = some (p, n - bw * (ps.map fun p => (2 : Int) ^ p).sum)
  | [], _, h => absurd rfl h
  | [p], n, _ => ⟨p, by simp [stI]⟩
  | p :: q :: r, n, _ => by
    obtain ⟨z, e⟩ := stI_last (bw := bw) (ps := q :: r) (n := n - bw * 2 ^ p) (by simp)
    refine ⟨z, ?_⟩
    have : (p :: q :: r).length - 1 = ((q :: r).length - 1) + 1 := by simp
    rw [this]
    show ((p, n - bw * 2 ^ p) :: stI bw (q :: r) (n - bw * 2 ^ p))[_ + 1]? = _
    rw [List.getElem?_cons_succ, e]
    simp only [List.map_cons, List.sum_cons, Int.mul_add, Int.sub_sub]
theorem stI_bound {bw : Int} (hb : 0 ≤ bw) : ∀ {k : Nat} {m : Nat} {n : Int}, m < 2 ^ k → bw * m ≤ n → ∀ z ∈ stI bw (dwn k m) n, z.1 < k ∧ 0 ≤ z.2 ∧ z.2 ≤ n
  | 0, m, n, _, _ => fun z h => nomatch h
  | k + 1, m, n, hm, hn => by
    intro z h
    have pk : (0 : Int) < 2 ^ k := Int.pow_pos (by decide)
    by_cases c : 2 ^ k ≤ m
    · have e : dwn (k + 1) m = k :: dwn k (m - 2 ^ k) := if_pos c
      rw [e] at h
      have hc : (2 : Int) ^ k ≤ m := by exact_mod_cast c
      have h1 : bw * 2 ^ k ≤ bw * m := Int.mul_le_mul_of_nonneg_left hc hb
      have h2 : bw * ((m - 2 ^ k : Nat) : Int) = bw * m - bw * 2 ^ k := by
        rw [Int.ofNat_sub c, Int.mul_sub]; congr 2
      have h3 : 0 ≤ bw * 2 ^ k := Int.mul_nonneg hb (by omega)
      have h0 : 0 ≤ bw * ((m - 2 ^ k : Nat) : Int) := Int.mul_nonneg hb (by omega)
      rcases List.mem_cons.mp h with rfl | h
      · exact ⟨by show k < k + 1; omega, by show 0 ≤ n - bw * 2 ^ k; omega, by show n - bw * 2 ^ k ≤ n; omega⟩
      · have := stI_bound hb (by rw [Nat.pow_succ] at hm; omega) (by omega) z h
        omega
    · have e : dwn (k + 1) m = dwn k m := if_neg c
      rw [e] at h
      have := stI_bound hb (by omega) hn z h
      omega
def StP (S0 : Sto) (n bw : Nat) (i : Nat) (ρ : Rho) (S : Sto) : Prop :=
  ∃ (r : Nat) (L : List (Nat × Int)) (x3 : Option U), ρ = [some (.int r), some (.int bw), some (.cel S0.length), x3] ∧ S = S0 ++ [.lst (L.map stT)] ∧ L ++ stI bw (dwn (16 - i) (r / bw)) r = stI bw (dwn 16 (n / bw)) n ∧ r < bw * 2 ^ (16 - i) ∧ L.length ≤ i
theorem steps_ok {n bw : Nat} {S : Sto} (h1 : 1 ≤ bw) (h2 : bw ≤ 65535) (h3 : n ≤ 4294967295) (h4 : n < bw * 65536) : (m_steps [.int n, .int bw] S).Sat fun u S' => u = .cel S.length ∧ S' = S ++ [.lst (stU bw (dwn 16 (n / bw)) n)] := by
  have n1 := need_num (v := n) (lo := 0) (hi := 4294967295) (S := S) (by omega) (by omega)
  have n2 := need_num (v := bw) (lo := 1) (hi := 65535) (S := S) (by omega) (by omega)
  have s1 : shlM (.int bw) (.int 16) S = .ok (.int ((bw : Int) * 2 ^ 16)) S := shl_i (k := 16) (by omega) (by decide)
  have h4' : ¬ ((bw : Int) * 2 ^ 16 ≤ n) := by omega
  simp [-Int.reducePow, m_steps, mDef_sat, b_steps, n1, n2, s1, h4']
  refine for_satN (StP S n bw) (e16d _ _) ⟨n, [], none, rfl, rfl, rfl, by omega, by simp⟩ ?_ ?_
  · rintro i d ρ S' hd ⟨r, L, x3, rfl, rfl, e, lr, ll⟩
    obtain ⟨li, rfl⟩ := rngD_get hd
    have ek : (15 : Int) - (i : Int) = ((15 - i : Nat) : Int) := by omega
    rw [ek]
    obtain ⟨k, hk⟩ : ∃ k, k = 15 - i := ⟨_, rfl⟩
    rw [← hk]
    have k16 : 16 - i = k + 1 := by omega
    have k16' : 16 - (i + 1) = k := by omega
    have kl : k ≤ 15 := by omega
    rw [k16] at e lr
    refine ⟨_, rfl, ?_⟩
    have s2 : shlM (.int bw) (.int k) (S ++ [.lst (L.map stT)]) = .ok (.int ((bw : Int) * 2 ^ k)) (S ++ [.lst (L.map stT)]) := shl_i (by omega) (by omega)
    have de : dwn (k + 1) (r / bw) = if 2 ^ k ≤ r / bw then k :: dwn k (r / bw - 2 ^ k) else dwn k (r / bw) := rfl
    have cq : 2 ^ k ≤ r / bw ↔ bw * 2 ^ k ≤ r := by rw [Nat.le_div_iff_mul_le (by omega), Nat.mul_comm]
    by_cases c : bw * 2 ^ k ≤ r
    · have c' : (bw : Int) * 2 ^ k ≤ r := by exact_mod_cast c
      have er : (r : Int) - (bw : Int) * 2 ^ k = ((r - bw * 2 ^ k : Nat) : Int) := by rw [Int.ofNat_sub c]; congr 1
      rw [de, if_pos (cq.mpr c)] at e
      simp [-Int.reducePow, s2, c', appM_cel get_new, show L.length < 10000000 by omega]
      refine ⟨r - bw * 2 ^ k, L ++ [(k, (r : Int) - bw * 2 ^ k)], _, by rw [← er], by simp, ?_, ?_, by simp; omega⟩
      · rw [k16', ← e, List.append_assoc]
        have q : (r - bw * 2 ^ k) / bw = r / bw - 2 ^ k := by
          rw [Nat.sub_mul_div]
        rw [q, ← er]
        rfl
      · rw [k16']
        rw [Nat.pow_succ, ← Nat.mul_assoc] at lr
        omega
    · have c' : ¬ (bw : Int) * 2 ^ k ≤ r := by exact_mod_cast c
      rw [de, if_neg (fun z => c (cq.mp z))] at e
      simp [-Int.reducePow, s2, c']
      refine ⟨r, L, _, rfl, rfl, by rw [k16']; exact e, by rw [k16']; omega, by omega⟩
  · rintro ρ S' ⟨r, L, x3, rfl, rfl, e, lr, ll⟩
    rw [rngD_len] at e
    simp at e
    simp [-Int.reducePow, e]
    rw [show stI (↑bw) (dwn (16 - 16) (r / bw)) ↑r = [] from rfl, List.append_nil] at e
    rw [e]
theorem at_last {xs : List U} (h : 0 < xs.length) : atI xs (-1) = xs[xs.length - 1]? := by
  have e : ixN xs.length (-1) = some (xs.length - 1) := by unfold ixN; simp; omega
  unfold atI
  rw [e]; rfl
theorem sum_places {ps : List Nat} {S : Sto} : sumM (.lst (ps.map fun p => .int ((2 : Int) ^ p))) S = .ok (.int (ps.map fun p => (2 : Int) ^ p).sum) S := by
  have : ∀ l : List Int, intsOf (l.map U.int) = some l := by
    intro l
    induction l with
    | nil => rfl
    | cons x r ih => rw [List.map_cons]; unfold intsOf at ih ⊢; simp [ih]
  unfold sumM
  rw [lsOf_lst]
  show (match intsOf _ with | some ns => _ | none => _) = _
  have e := this (ps.map fun p => (2 : Int) ^ p)
  rw [List.map_map] at e
  rw [show intsOf (ps.map fun p => U.int ((2 : Int) ^ p)) = some (ps.map fun p => (2 : Int) ^ p) from e]
def fst2 (u : U) : U := match u with
  | .tup [.int p, _] => .int (2 ^ p.toNat)
  | _ => .non
theorem quotient_ok {n bw : Nat} {S : Sto} (h1 : 1 ≤ bw) (h2 : bw ≤ 65535) (h3 : n ≤ 4294967295) (h4 : n < bw * 65536) : (m_quotient [.int n, .int bw] S).Sat fun u S' => ∃ b, u = .tup [.cel b, .int ((n % bw : Nat) : Int)] ∧ S.length ≤ b ∧ (∃ ps, Bd S' b (b + 1) 16 16 ps (indP (gridP (bits bw 0) (bits (n / bw) 0)))) ∧ Fr nop S S' := by
  have hq : n / bw < 2 ^ 16 := by rw [Nat.div_lt_iff_lt_mul (by omega), Nat.mul_comm]; exact h4
  have hs := dwn_sum hq
  have ld : (dwn 16 (n / bw)).length ≤ 16 := by rw [dwn_bits hq, List.length_reverse]; exact (bits_lt 16 (n / bw) 0 hq).1
  have lst : (stU bw (dwn 16 (n / bw)) n).length = (dwn 16 (n / bw)).length := by rw [List.length_map, stI_len]
  simp [-Int.reducePow, m_quotient, mDef_sat, b_quotient]
  refine (steps_ok h1 h2 h3 h4).use ?_
  rintro _ _ ⟨rfl, rfl⟩
  obtain ⟨S1, hS1⟩ : ∃ S1, S1 = S ++ [Cl.lst (stU bw (dwn 16 (n / bw)) n)] := ⟨_, rfl⟩
  rw [← hS1]
  have g1 : S1[S.length]? = some (.lst (stU bw (dwn 16 (n / bw)) n)) := by rw [hS1]; exact get_new
  have le : lenM (.cel S.length) S1 = .ok (.int (dwn 16 (n / bw)).length) S1 := by
    show (match sqOf S1 (.cel S.length) with | some us => Out.ok (U.int us.length) S1 | none => .bad) = _
    rw [show sqOf S1 (.cel S.length) = some _ from lsOf_cel g1]
    dsimp only
    rw [lst]
  have sw : ∀ p : Nat, p < 16 → shlM (.int 1) (.int p) S1 = .ok (.int (2 ^ p)) S1 := fun p hp => by
    have := shl_i (v := 1) (k := p) (S := S1) (by decide) (by omega)
    rw [show ((1 : Nat) : Int) * 2 ^ p = 2 ^ p by simp] at this
    exact this
  have p16 : ∀ p ∈ dwn 16 (n / bw), p < 16 := fun p m => by
    rw [dwn_bits hq, List.mem_reverse] at m
    have := (bits_lt 16 (n / bw) 0 hq).2 p m
    omega
  have lc : ∀ r3 x4 x5, mLc false (mIt (mVar 2)) (gT [(gN 4), (gN 5)]) mYes (mOp shlM (mC (.int 1)) (mVar 4)) [4, 5] [some (.int n), some (.int bw), some (.cel S.length), some r3, x4, x5] S1 = .ok (.lst ((dwn 16 (n / bw)).map fun p => .int ((2 : Int) ^ p))) S1 := fun r3 x4 x5 => by
    unfold mLc
    have e : mIt (mVar 2) [some (.int n), some (.int bw), some (.cel S.length), some r3, x4, x5] S1 = .ok ⟨stU bw (dwn 16 (n / bw)) n, some S.length⟩ S1 := by simp [g1]
    rw [e, bind_ok]
    have q := lcL_map (gm := gT [(gN 4), (gN 5)]) (te := mOp shlM (mC (.int 1)) (mVar 4)) (chk := (IT.mk (stU bw (dwn 16 (n / bw)) n) (some S.length)).chk) (ρ := wipeR [some (.int n), some (.int bw), some (.cel S.length), some r3, x4, x5] [4, 5]) (S := S1) (us := stU bw (dwn 16 (n / bw)) n) fst2 ⟨_, g1, rfl⟩ fun u m => by
      obtain ⟨z, mz, rfl⟩ := List.mem_map.mp m
      have mp : z.1 ∈ dwn 16 (n / bw) := by rw [← stI_fst (bw := (bw : Int)) (ps := dwn 16 (n / bw)) (n := (n : Int))]; exact List.mem_map.mpr ⟨z, mz, rfl⟩
      refine ⟨[some (.int n), some (.int bw), some (.cel S.length), some r3, some (.int z.1), some (.int z.2)], by simp [wipeR], ?_⟩
      simp [-Int.reducePow, sw z.1 (p16 _ mp), fst2]
    dsimp only at q ⊢
    rw [q, bind_ok, List.map_map]
    have e2 : (stI (bw : Int) (dwn 16 (n / bw)) n).map (fst2 ∘ stT) = (dwn 16 (n / bw)).map fun p => .int ((2 : Int) ^ p) := by
      conv => rhs; rw [← stI_fst (bw := (bw : Int)) (ps := dwn 16 (n / bw)) (n := (n : Int)), List.map_map]
      refine List.map_congr_left fun z _ => ?_
      show U.int (2 ^ ((z.1 : Int)).toNat) = U.int (2 ^ z.1)
      rw [Int.toNat_natCast]
    rw [e2]
    exact new_f (by rw [List.length_map]; omega)
  have sp : sumM (.lst ((dwn 16 (n / bw)).map fun p => .int ((2 : Int) ^ p))) S1 = .ok (.int ((n / bw : Nat) : Int)) S1 := by rw [sum_places, hs]
  have md : (n : Int) - (bw : Int) * ((n / bw : Nat) : Int) = ((n % bw : Nat) : Int) := by
    have := Nat.div_add_mod n bw
    have : ((bw * (n / bw) + n % bw : Nat) : Int) = n := by rw [this]
    rw [Int.natCast_add, Int.natCast_mul] at this
    omega
  have f1 : Fr nop S S1 := by rw [hS1]; exact Fr.app
  have l1 : S1.length = S.length + 1 := by rw [hS1]; simp
  have pr : (m_product [.int bw, .int ((n : Int) / (bw : Int))] S1).Sat fun u S' => u = .cel S1.length ∧ (∃ ps, Bd S' S1.length (S1.length + 1) 16 16 ps (indP (gridP (bits bw 0) (bits (n / bw) 0)))) ∧ Fr nop S1 S' := product_ok (S := S1) (b := n / bw) h2 (by omega)
  have sp' : sumM (.lst ((dwn 16 (n / bw)).map fun p => .int ((2 : Int) ^ p))) S1 = .ok (.int ((n : Int) / (bw : Int))) S1 := sp
  by_cases z : dwn 16 (n / bw) = []
  · have ln : (dwn 16 (n / bw)).length = 0 := by rw [z]; rfl
    have q0 : n / bw = 0 := by
      rw [z] at hs
      simp at hs
      omega
    have mn : n % bw = n := by have := Nat.div_add_mod n bw; rw [q0] at this; omega
    rw [ln] at le
    simp [-Int.reducePow, -mLc, le, lc, sp']
    refine pr.use ?_
    rintro _ S2 ⟨rfl, k2, f2⟩
    exact ⟨S1.length, ⟨rfl, by exact_mod_cast mn.symm⟩, by omega, k2, f1.tr f2⟩
  · have ln : 0 < (dwn 16 (n / bw)).length := List.length_pos_iff.mpr z
    obtain ⟨p, ep⟩ := stI_last (bw := (bw : Int)) (n := (n : Int)) z
    rw [hs, md] at ep
    have ix : ixM (.cel S.length) (.int (-1)) S1 = .ok (.tup [.int p, .int ((n % bw : Nat) : Int)]) S1 := by
      refine ixM_cel g1 ?_
      rw [at_last (by rw [lst]; exact ln), lst, List.getElem?_map, ep]; rfl
    have ix2 : ∀ x : Int, ixM (.tup [.int p, .int x]) (.int 1) S1 = .ok (.int x) S1 := fun _ => rfl
    simp [-Int.reducePow, -mLc, le, ln, ix, ix2, lc, sp']
    refine pr.use ?_
    rintro _ S2 ⟨rfl, k2, f2⟩
    exact ⟨S1.length, rfl, by omega, k2, f1.tr f2⟩
/-! ### walks of the law's own dict -/
theorem small_kP {w h : Int} {qs : List PI} {c : PI → Int} {st : Bool} (t : Sqs st w h qs c) (hw : w ≤ 16) (hh : h ≤ 16) : ((sqK qs c).all fun kv => smallK kv.1) = true := by
  rw [List.all_eq_true]
  intro kv mk
  obtain ⟨p, mp, rfl⟩ := List.mem_map.mp mk
  have a := t.inn p mp
  show (decide (0 ≤ p.1 ∧ p.1 < 16) && decide (0 ≤ p.2 ∧ p.2 < 16)) = true
  rw [decide_eq_true (by omega), decide_eq_true (by omega)]; rfl
theorem dict_cp {w h : Int} {qs : List PI} {c : PI → Int} {st : Bool} {S : Sto} {m : Nat} (e : S[m]? = some (.dT (sqK qs c))) (t : Sqs st w h qs c) (hw : w ≤ 16) (hh : h ≤ 16) : dictM (.cel m) S = .ok (.cel S.length) (S ++ [.dT (sqK qs c)]) := by
  unfold dictM
  have l : lsOf S (.cel m) = none := by unfold lsOf; dsimp only; rw [e]
  rw [l]
  dsimp only
  rw [dcOf_T e]
  dsimp only
  rw [if_pos (small_kP t hw hh)]
/-- the walk of a dict of squares, some of which are taken -/
theorem walk_fm {ma te : ME U} {tt : ME Bool} {i : Nat} {ρ : Rho} {S : Sto} {d : Nat} {ps : List PI} {c : PI → Int} {f : PI → U} {t : PI → Bool} (e : S[d]? = some (.dT (sqK ps c))) (ea : ma ρ S = .ok (.cel d) S) (l : ps.length ≤ 1000)
    (ht : ∀ p ∈ ps, ∃ ρ1, gN i (pU p) (wipeR ρ [i]) = some ρ1 ∧ tt ρ1 (S.set d (.fT (sqK ps c))) = .ok (t p) (S.set d (.fT (sqK ps c))) ∧ (t p = true → te ρ1 (S.set d (.fT (sqK ps c))) = .ok (f p) (S.set d (.fT (sqK ps c))))) :
    mUnl ma (mLc false (mItK ma) (gN i) tt te [i]) ρ S = .ok (.lst ((ps.filter t).map f)) S := by
  have ld := lt_of_get e
  obtain ⟨g, hg⟩ : ∃ g : U → PI, ∀ p, g (pU p) = p := ⟨fun u => match u with | .tup [.int x, .int y] => (x, y) | _ => (0, 0), fun _ => rfl⟩
  unfold mUnl
  rw [ea]
  dsimp only
  rw [e]
  dsimp only
  have e1 : mItK ma ρ S = .ok ⟨ps.map pU, none⟩ (S.set d (.fT (sqK ps c))) := by
    unfold mItK
    rw [ea, bind_ok]
    dsimp only
    rw [e]
    dsimp only
    rw [show ((sqK ps c).map fun kv => ktU kv.1) = ps.map pU by unfold sqK; rw [List.map_map]; rfl]
  have e2 : lcL (gN i) tt te (fun _ => True) (wipeR ρ [i]) (ps.map pU) (S.set d (.fT (sqK ps c))) = .ok ((ps.filter t).map f) (S.set d (.fT (sqK ps c))) := by
    rw [lcL_fm (fun u => t (g u)) (fun u => f (g u)) trivial fun u m => ?_]
    · rw [List.filter_map, List.map_map]
      have a : ((fun u => t (g u)) ∘ pU) = t := by funext p; show t (g (pU p)) = t p; rw [hg]
      have b : ((fun u => f (g u)) ∘ pU) = f := by funext p; show f (g (pU p)) = f p; rw [hg]
      rw [a, b]
    · obtain ⟨p, m2, rfl⟩ := List.mem_map.mp m
      rw [hg]
      exact ht p m2
  have e3 : (mLc false (mItK ma) (gN i) tt te [i]) ρ S = .ok (.lst ((ps.filter t).map f)) (S.set d (.fT (sqK ps c))) := by
    unfold mLc
    rw [e1, bind_ok]
    show (lcL (gN i) tt te (fun _ => True) (wipeR ρ [i]) (ps.map pU) (S.set d (.fT (sqK ps c)))).bind (newLst false) = _
    rw [e2, bind_ok]
    exact new_f (by rw [List.length_map]; have := List.length_filter_le t ps; omega)
  rw [e3, bind_ok, get_set ld]
  dsimp only
  rw [List.set_set, set_id e]
theorem Sqs.pos {w h : Int} {qs : List PI} {c : PI → Int} {st : Bool} (t : Sqs st w h qs c) : Sqs true w h (qs.filter fun q => decide (0 < c q)) c where
  nd := t.nd.filter _
  inn := fun p m => t.inn p (List.mem_filter.mp m).1
  out := fun p n => by
    by_cases m : p ∈ qs
    · have := t.nn p
      have : ¬ 0 < c p := fun z => n (List.mem_filter.mpr ⟨m, decide_eq_true z⟩)
      omega
    · exact t.out p m
  nn := t.nn
  st := fun _ p m => by
    have := (List.mem_filter.mp m).2
    simp at this
    omega
/-! ### comprehensions that only read -/
theorem lcG {α : Type} {mi : ME IT} {gm : MG} {tt : ME Bool} {te : ME U} {own : List Nat} {ρ : Rho} {S : Sto} {xs : List α} {en : α → U} {t : α → Bool} {f : α → U}
    (inj : ∃ g : U → α, ∀ x, g (en x) = x) (e : mi ρ S = .ok ⟨xs.map en, none⟩ S) (l : xs.length ≤ 1000)
    (ht : ∀ x ∈ xs, ∃ ρ1, gm (en x) (wipeR ρ own) = some ρ1 ∧ tt ρ1 S = .ok (t x) S ∧ (t x = true → te ρ1 S = .ok (f x) S)) :
    mLc false mi gm tt te own ρ S = .ok (.lst ((xs.filter t).map f)) S := by
  obtain ⟨g, hg⟩ := inj
  unfold mLc
  rw [e, bind_ok]
  show (lcL gm tt te (fun _ => True) (wipeR ρ own) (xs.map en) S).bind (newLst false) = _
  rw [lcL_fm (fun u => t (g u)) (fun u => f (g u)) trivial fun u m => ?_]
  · rw [List.filter_map, List.map_map, bind_ok]
    have a : ((fun u => t (g u)) ∘ en) = t := by funext p; show t (g (en p)) = t p; rw [hg]
    have b : ((fun u => f (g u)) ∘ en) = f := by funext p; show f (g (en p)) = f p; rw [hg]
    rw [a, b]
    exact new_f (by rw [List.length_map]; have := List.length_filter_le t xs; omega)
  · obtain ⟨p, m2, rfl⟩ := List.mem_map.mp m
    rw [hg]
    exact ht p m2
theorem gI : ∃ g : U → Int, ∀ n, g (.int n) = n := ⟨fun u => match u with | .int n => n | _ => 0, fun _ => rfl⟩
theorem gP : ∃ g : U → PI, ∀ p, g (pU p) = p := ⟨fun u => match u with | .tup [.int x, .int y] => (x, y) | _ => (0, 0), fun _ => rfl⟩
theorem eqE_l {us : List U} {S : Sto} : eqEM true (.lst us) (.lst []) S = .ok (.bl (!us.isEmpty)) S := rfl
theorem eqF_l {us : List U} {S : Sto} : eqEM false (.lst us) (.lst []) S = .ok (.bl us.isEmpty) S := rfl
theorem filt_any {α β : Type} {t : α → Bool} {f : α → β} : ∀ xs : List α, (!((xs.filter t).map f).isEmpty) = xs.any t
  | [] => rfl
  | x :: xs => by
    cases e : t x with
    | true => rw [List.filter_cons_of_pos e, List.any_cons, e]; rfl
    | false => rw [List.filter_cons_of_neg (by simp [e]), List.any_cons, e, Bool.false_or]; exact filt_any xs
theorem filt_all {α β : Type} {t : α → Bool} {f : α → β} (xs : List α) : ((xs.filter t).map f).isEmpty = !xs.any t := by rw [← filt_any (f := f), Bool.not_not]
/-- 0, 1, .. -/
def upI (n : Nat) : List Int := (List.range n).map fun k : Nat => (k : Int)
theorem upI_pw (n : Nat) : (upI n).Pairwise (· < ·) := by
  unfold upI
  rw [List.pairwise_map]
  exact List.pairwise_lt_range.imp fun h => by exact_mod_cast h
theorem upI_mem {n : Nat} {k : Int} : k ∈ upI n ↔ 0 ≤ k ∧ k < n := by
  unfold upI
  rw [List.mem_map]
  constructor
  · rintro ⟨j, mj, rfl⟩
    have := List.mem_range.mp mj
    omega
  · intro h
    exact ⟨k.toNat, List.mem_range.mpr (by omega), by omega⟩
theorem rng_up {n : Nat} : rng 0 n = (upI n).map U.int := by
  unfold rng upI
  rw [List.map_map]
  congr 1
  funext i
  show U.int (0 + (i : Int)) = .int (i : Int)
  rw [Int.zero_add]
theorem range16 {ρ : Rho} {S : Sto} : mRange1 (mCons (mC (.int 16)) mNil) ρ S = .ok ⟨(upI 16).map U.int, none⟩ S := by
  rw [← rng_up]
  simp [-Int.reducePow]
  decide
theorem ded16 {t : Int → Bool} {ns : List Int} (h : ∀ n ∈ ns, 0 ≤ n ∧ n < 16) (ht : ∀ k, t k = true ↔ k ∈ ns) : (upI 16).filter t = dedI ns :=
  rise_one ((upI_pw 16).filter _) (dedI_pw ns) fun k => by
    rw [dedI_mem fun k m => by have := h k m; omega, List.mem_filter, upI_mem, ht]
    exact ⟨fun z => z.2, fun z => ⟨by have := h k z; omega, z⟩⟩
/-! ### the law's own factors -/
abbrev pw2 (ks : List Int) : Int := (ks.map fun k => (2 : Int) ^ k.toNat).sum
abbrev colS (ps : List PI) : List Int := dedI (ps.map (·.1))
abbrev linS (ps : List PI) : List Int := dedI (ps.map (·.2))
def wholeS (ps : List PI) (c : PI → Int) : List Int := (colS ps).filter fun x => (linS ps).any fun y => decide (c (x, y) ≠ 1)
def facS (ps : List PI) (c : PI → Int) : U := if wholeS ps c = [] then .tup [.int (pw2 (colS ps)), .int (pw2 (linS ps))] else .non
theorem dedI_cong {a b : List Int} (h : ∀ k, k ∈ a ↔ k ∈ b) : dedI a = dedI b := by
  unfold dedI
  congr 1
  exact List.filter_congr fun k _ => decide_eq_decide.mpr (h _)
theorem mem_img {ps qs : List PI} (h : ∀ p, p ∈ ps ↔ p ∈ qs) (f : PI → Int) (k : Int) : k ∈ ps.map f ↔ k ∈ qs.map f := by
  rw [List.mem_map, List.mem_map]
  exact ⟨fun ⟨p, m, e⟩ => ⟨p, (h p).mp m, e⟩, fun ⟨p, m, e⟩ => ⟨p, (h p).mpr m, e⟩⟩
theorem colS_cong {ps qs : List PI} (h : ∀ p, p ∈ ps ↔ p ∈ qs) : colS ps = colS qs := dedI_cong (mem_img h _)
theorem linS_cong {ps qs : List PI} (h : ∀ p, p ∈ ps ↔ p ∈ qs) : linS ps = linS qs := dedI_cong (mem_img h _)
theorem facS_cong {ps qs : List PI} {c : PI → Int} (h : ∀ p, p ∈ ps ↔ p ∈ qs) : facS ps c = facS qs c := by
  unfold facS wholeS
  rw [colS_cong h, linS_cong h]
def grd (as bs : List Int) : List PI := as.flatMap fun x => bs.map fun y => (x, y)
theorem grd_mem {as bs : List Int} {p : PI} : p ∈ grd as bs ↔ p.1 ∈ as ∧ p.2 ∈ bs := by
  obtain ⟨x, y⟩ := p
  simp [grd]
theorem grd_len {as bs : List Int} : (grd as bs).length = as.length * bs.length := by
  unfold grd
  induction as with
  | nil => simp
  | cons a r ih => rw [List.flatMap_cons, List.length_append, ih, List.length_map, List.length_cons, Nat.succ_mul, Nat.add_comm]
theorem len_sub : ∀ {a b : List PI}, a.Nodup → (∀ x ∈ a, x ∈ b) → a.length ≤ b.length ∧ (b.length ≤ a.length → ∀ x ∈ b, x ∈ a)
  | [], b, _, _ => ⟨Nat.zero_le _, fun h x m => by
    have : b = [] := List.length_eq_zero_iff.mp (Nat.le_zero.mp h)
    rw [this] at m; exact m⟩
  | y :: a, b, nd, h => by
    have my : y ∈ b := h y List.mem_cons_self
    rw [List.nodup_cons] at nd
    have le : (b.erase y).length + 1 = b.length := by rw [List.length_erase_of_mem my]; have := List.length_pos_of_mem my; omega
    have ih := len_sub (b := b.erase y) nd.2 fun x m => (List.mem_erase_of_ne (fun z => nd.1 (by rw [← z]; exact m))).mpr (h x (List.mem_cons_of_mem _ m))
    rw [List.length_cons]
    refine ⟨by omega, fun hl x m => ?_⟩
    by_cases z : x = y
    · rw [z]; exact List.mem_cons_self
    · exact List.mem_cons_of_mem _ (ih.2 (by omega) x ((List.mem_erase_of_ne z).mpr m))
theorem grd_nd {as bs : List Int} (ha : as.Nodup) (hb : bs.Nodup) : (grd as bs).Nodup := by
  unfold grd
  induction as with
  | nil => exact List.nodup_nil
  | cons a r ih =>
    rw [List.nodup_cons] at ha
    rw [List.flatMap_cons, List.nodup_append]
    refine ⟨?_, ih ha.2, fun p mp q mq => ?_⟩
    · rw [List.nodup_iff_pairwise_ne, List.pairwise_map]
      exact (List.nodup_iff_pairwise_ne.mp hb).imp fun h z => h (Prod.mk.inj z).2
    · obtain ⟨y, _, rfl⟩ := List.mem_map.mp mp
      have m2 := (grd_mem (as := r) (bs := bs)).mp mq
      rintro rfl
      exact ha.1 m2.1
theorem tot_ones : ∀ {ps : List PI} {c : PI → Int}, (∀ p ∈ ps, 1 ≤ c p) → (ps.length : Int) ≤ tot ps c ∧ (tot ps c = ps.length ↔ ∀ p ∈ ps, c p = 1)
  | [], c, _ => ⟨by simp [tot], by simp [tot]⟩
  | q :: r, c, h => by
    obtain ⟨i1, i2⟩ := tot_ones (ps := r) (c := c) fun p m => h p (List.mem_cons_of_mem _ m)
    have hq := h q List.mem_cons_self
    rw [tot_cons, List.length_cons]
    refine ⟨by omega, fun e => ?_, fun z => ?_⟩
    · have e1 : c q = 1 := by omega
      have e2 := i2.mp (by omega)
      intro p m
      rcases List.mem_cons.mp m with rfl | m
      · exact e1
      · exact e2 p m
    · have e1 := z q List.mem_cons_self
      have e2 := i2.mpr fun p m => z p (List.mem_cons_of_mem _ m)
      omega
section
variable {w h : Int} {ps : List PI} {c : PI → Int}
theorem Sqs.in16 {st : Bool} (s : Sqs st w h ps c) (hw : w ≤ 16) (hh : h ≤ 16) : (∀ n ∈ ps.map (·.1), 0 ≤ n ∧ n < 16) ∧ ∀ n ∈ ps.map (·.2), 0 ≤ n ∧ n < 16 := by
  constructor
  · intro n m
    obtain ⟨p, mp, rfl⟩ := List.mem_map.mp m
    have := s.inn p mp
    show 0 ≤ p.1 ∧ p.1 < 16
    omega
  · intro n m
    obtain ⟨p, mp, rfl⟩ := List.mem_map.mp m
    have := s.inn p mp
    show 0 ≤ p.2 ∧ p.2 < 16
    omega
theorem fac_char (s : Sqs true w h ps c) (hw : w ≤ 16) (hh : h ≤ 16) : facU ps c = facS ps c := by
  have pm : ∀ p, p ∈ psort ps ↔ p ∈ ps := fun p => (psort_perm ps).mem_iff
  have ec : colI ps = colS ps := colS_cong pm
  have el : linI ps = linS ps := linS_cong pm
  obtain ⟨i1, i2⟩ := s.in16 hw hh
  have mc : ∀ k, k ∈ colS ps ↔ k ∈ ps.map (·.1) := fun k => dedI_mem fun k m => by have := i1 k m; omega
  have ml : ∀ k, k ∈ linS ps ↔ k ∈ ps.map (·.2) := fun k => dedI_mem fun k m => by have := i2 k m; omega
  have sub : ∀ p ∈ ps, p ∈ grd (colS ps) (linS ps) := fun p m => grd_mem.mpr ⟨(mc _).mpr (List.mem_map.mpr ⟨p, m, rfl⟩), (ml _).mpr (List.mem_map.mpr ⟨p, m, rfl⟩)⟩
  have c1 : ∀ p ∈ ps, 1 ≤ c p := fun p m => by have := s.st rfl p m; have := s.nn p; omega
  have gn : (grd (colS ps) (linS ps)).Nodup := grd_nd ((dedI_pw _).imp fun h => by omega) ((dedI_pw _).imp fun h => by omega)
  have key : (tot ps c = ps.length ∧ ps.length = (colS ps).length * (linS ps).length) ↔ wholeS ps c = [] := by
    have wh : wholeS ps c = [] ↔ ∀ p ∈ grd (colS ps) (linS ps), c p = 1 := by
      unfold wholeS
      rw [List.filter_eq_nil_iff]
      constructor
      · intro z p mp
        obtain ⟨m1, m2⟩ := grd_mem.mp mp
        refine Classical.byContradiction fun n => z p.1 m1 ?_
        rw [List.any_eq_true]
        exact ⟨p.2, m2, decide_eq_true n⟩
      · intro z x mx a
        rw [List.any_eq_true] at a
        obtain ⟨y, my, d⟩ := a
        exact of_decide_eq_true d (z (x, y) (grd_mem.mpr ⟨mx, my⟩))
    rw [wh, ← grd_len]
    obtain ⟨l1, l2⟩ := len_sub s.nd sub
    constructor
    · rintro ⟨a, b⟩ p mp
      exact (tot_ones c1).2.mp a p (l2 (by omega) p mp)
    · intro z
      have g2 : ∀ p ∈ grd (colS ps) (linS ps), p ∈ ps := fun p mp => s.mem.mpr (by rw [z p mp]; decide)
      exact ⟨(tot_ones c1).2.mpr fun p m => z p (sub p m), Nat.le_antisymm l1 (len_sub gn g2).1⟩
  unfold facU facS
  rw [ec, el]
  by_cases z : wholeS ps c = []
  · rw [if_pos z]
    have := key.mpr z
    rw [if_neg]
    rintro (n | n)
    · exact n this.1
    · exact n this.2
  · rw [if_neg z]
    rw [if_pos]
    refine Classical.byContradiction fun n => z (key.mp ?_)
    rw [not_or] at n
    exact ⟨Classical.not_not.mp n.1, Classical.not_not.mp n.2⟩
end
/-! ### two factors as data -/
theorem pw2_nn (ks : List Int) : 0 ≤ pw2 ks := by
  induction ks with
  | nil => exact Int.le_refl _
  | cons k r ih =>
    show 0 ≤ (((2 : Int) ^ k.toNat) :: _).sum
    rw [List.sum_cons]
    have : (0 : Int) < 2 ^ k.toNat := Int.pow_pos (by decide)
    have ih' : 0 ≤ (r.map fun k => (2 : Int) ^ k.toNat).sum := ih
    omega
theorem pw2_le {T : Int} : ∀ {ks : List Int}, (∀ k ∈ ks, (2 : Int) ^ k.toNat ≤ T) → pw2 ks ≤ ks.length * T
  | [], _ => by simp [pw2]
  | k :: r, h => by
    have ih := pw2_le (ks := r) fun k m => h k (List.mem_cons_of_mem _ m)
    have hk := h k List.mem_cons_self
    have e1 : pw2 (k :: r) = 2 ^ k.toNat + pw2 r := by
      show (((2 : Int) ^ k.toNat) :: _).sum = _
      rw [List.sum_cons]
    have e2 : ((k :: r).length : Int) * T = r.length * T + T := by rw [List.length_cons, Int.natCast_succ, Int.add_mul, Int.one_mul]
    omega
theorem pw2_small {ns : List Int} : (pw2 (dedI ns)).natAbs < 10 ^ 30 := by
  have a := pw2_nn (dedI ns)
  have b := pw2_le (T := 2 ^ 60) (ks := dedI ns) fun k m => by
    have := dedI_in k m
    have : (2 : Nat) ^ k.toNat ≤ 2 ^ 60 := Nat.pow_le_pow_right (by decide) (by omega)
    exact_mod_cast this
  have l : (dedI ns).length ≤ 60 := dedI_lt
  have c : ((dedI ns).length : Int) * 2 ^ 60 ≤ 60 * 2 ^ 60 := Int.mul_le_mul_of_nonneg_right (by omega) (by decide)
  have e : (60 : Int) * 2 ^ 60 < 10 ^ 30 := by decide
  have := Int.lt_of_le_of_lt (Int.le_trans b c) e
  generalize pw2 (dedI ns) = x at *
  have : (x.natAbs : Int) < 10 ^ 30 := by rw [Int.natAbs_of_nonneg a]; exact this
  exact_mod_cast this
theorem facS_two (ps : List PI) (c : PI → Int) : facS ps c = .non ∨ ∃ a b : Int, facS ps c = .tup [.int a, .int b] ∧ a.natAbs < 10 ^ 30 ∧ b.natAbs < 10 ^ 30 := by
  unfold facS
  split
  · exact Or.inr ⟨_, _, rfl, pw2_small, pw2_small⟩
  · exact Or.inl rfl
theorem just_fac {S : Sto} (ps : List PI) (c : PI → Int) : m_law_just [.lst [facS ps c, facS ps c], .lst [facS ps c, facS ps c]] S = .ok (.bl true) S := by
  rcases facS_two ps c with h | ⟨a, b, h, ha, hb⟩
  · rw [h]
    exact just_ok (d := .lst [.non, .non]) rfl rfl ⟨by decide +kernel, by decide +kernel, by decide +kernel⟩ (by simp) (by simp)
  · rw [h]
    have e1 := okI ha
    have e2 := okI hb
    refine just_ok (d := .lst [.tup [.int a, .int b], .tup [.int a, .int b]]) rfl rfl ⟨?_, ?_, ?_⟩ (by simp) (by simp)
    · simp only [okD, okDs, e1, e2, Bool.and_true]
    · simp only [dep, deps]; decide
    · simp only [wt, wts]; decide
def mostN : Nat := 10 ^ 60
theorem most_lt {v : Nat} (h : v ≤ 10 ^ 60) : v < 2 ^ 200 := Nat.lt_of_le_of_lt h (by decide)
theorem places_ok {v : Nat} {S : Sto} (h : v ≤ 10 ^ 60) : (m_places_of [.int v] S).Sat fun u S' => u = .cel S.length ∧ S' = S ++ [.lst (uN (bits v 0))] := by
  have h2 : (v : Int) ≤ 10 ^ 60 := by omega
  have h3 : (0 : Int) ≤ v := by omega
  simp [-Int.reducePow, m_places_of, mDef_sat, b_places_of, whole_int, h2, h3]
  exact ones_ok (Nat.lt_trans (most_lt h) (by decide))
theorem places_ex {u : U} {S : Sto} (k : kdOf S u ≠ none) (h : wholeU u 0 (10 ^ 60) = false) : m_places_of [u] S = .ex (.exc "NoNumber" "what is no number within its bounds" ["found"] [u]) S := by
  simp [-Int.reducePow, m_places_of, mDef_f, b_places_of, whole_ok k, h]
theorem uN_uI (ns : List Nat) : uN ns = uI (ns.map fun n : Nat => (n : Int)) := by simp [uN, uI]
theorem bits_fit {v : Nat} (h : v ≤ 10 ^ 60) : Fi (.lst (dI ((bits v 0).map fun n : Nat => (n : Int)))) := by
  obtain ⟨b1, b2⟩ := bits_lt 200 v 0 (most_lt h)
  refine fit_ints (fun n m => ?_) (by simp; omega)
  obtain ⟨k, mk, rfl⟩ := List.mem_map.mp m
  have := b2 k mk
  have e : (k : Int).natAbs = k := by omega
  rw [e]
  exact Nat.lt_of_lt_of_le (show k < 200 by omega) (Nat.le_trans (by decide : 200 ≤ 10 ^ 3) (Nat.pow_le_pow_right (by decide) (by decide)))
/-! ### equal pairs of numbers -/
theorem eqT2 {S : Sto} {a b c d : Int} (ha : a.natAbs < 10 ^ 30) (hb : b.natAbs < 10 ^ 30) (hc : c.natAbs < 10 ^ 30) (hd : d.natAbs < 10 ^ 30) : eqM (.tup [.int a, .int b]) (.tup [.int c, .int d]) S = .ok (.bl (decide (a = c ∧ b = d))) S ∧ neM (.tup [.int a, .int b]) (.tup [.int c, .int d]) S = .ok (.bl (!decide (a = c ∧ b = d))) S := by
  have fi : ∀ {x y : Int}, x.natAbs < 10 ^ 30 → y.natAbs < 10 ^ 30 → Fi (.tup [.int x, .int y]) := fun h1 h2 => ⟨by simp only [okD, okDs, okI h1, okI h2, Bool.and_true], by simp only [dep, deps]; decide, by simp only [wt, wts]; decide⟩
  have e := eqM_res (S := S) (x := .tup [.int a, .int b]) (y := .tup [.int c, .int d]) (d := dQ (a, b)) (e := dQ (c, d)) rfl rfl (fi ha hb) (fi hc hd)
  rw [eqD_pr] at e
  have e' : neM (.tup [.int a, .int b]) (.tup [.int c, .int d]) S = .ok (.bl (!decide (((a, b) : PI) = (c, d)))) S := by
    unfold neM
    dsimp only
    rw [show res S 9 (.tup [.int a, .int b]) = some (dQ (a, b)) from rfl, show res S 9 (.tup [.int c, .int d]) = some (dQ (c, d)) from rfl]
    dsimp only
    rw [if_pos ⟨(fi ha hb).e, (fi hc hd).e⟩, eqD_pr]
  have z : decide (((a, b) : PI) = (c, d)) = decide (a = c ∧ b = d) := by
    by_cases h : a = c ∧ b = d
    · rw [decide_eq_true h, h.1, h.2]; exact decide_eq_true rfl
    · rw [decide_eq_false h]; exact decide_eq_false fun w => h ⟨(Prod.mk.inj w).1, (Prod.mk.inj w).2⟩
  rw [z] at e e'
  exact ⟨e, e'⟩
theorem lenM_tup {S : Sto} {us : List U} : lenM (.tup us) S = .ok (.int us.length) S := rfl
section
variable {S : Sto} {x y a b : U} {d m : Nat} {w h : Int} {ps : List PI} {c : PI → Int} {us : List U}
theorem pair_1 (h : ∃ k, kdOf S x = some k ∧ k.isB "tuple" = false) : m_is_pair [x] S = .ok (.bl false) S := by
  obtain ⟨k, e, f⟩ := h
  simp [m_is_pair, mDef_f, b_is_pair, e, f]
theorem kd_tup : kdOf S (.tup us) = some (.b "tuple") := rfl
theorem tup_isB : Kd.isB "tuple" (.b "tuple") = true := by decide
theorem pair_2 (h : us.length ≠ 2) : m_is_pair [.tup us] S = .ok (.bl false) S := by
  have h' : ¬ (us.length : Int) = 2 := by omega
  simp [m_is_pair, mDef_f, b_is_pair, kd_tup, tup_isB, lenM_tup, h']
theorem pair_3 (h : ∃ k, kdOf S a = some k ∧ Kd.isC "Board" k = false) : m_is_pair [.tup [a, b]] S = .ok (.bl false) S := by
  obtain ⟨k, e, f⟩ := h
  have i0 : ixM (.tup [a, b]) (.int 0) S = .ok a S := rfl
  simp [m_is_pair, mDef_f, b_is_pair, kd_tup, tup_isB, lenM_tup, i0, e, f]
theorem pair_4 (h : ∃ k, kdOf S a = some k ∧ Kd.isC "Board" k = true) (hy : kdOf S b ≠ none) : m_is_pair [.tup [a, b]] S = .ok (.bl (wholeU b 0 4294967295)) S := by
  obtain ⟨k, e, f⟩ := h
  have i0 : ixM (.tup [a, b]) (.int 0) S = .ok a S := rfl
  have i1 : ixM (.tup [a, b]) (.int 1) S = .ok b S := rfl
  simp [m_is_pair, mDef_f, b_is_pair, kd_tup, tup_isB, lenM_tup, i0, i1, e, f, whole_ok hy]
end
section
variable {S : Sto} {x a b : U} {bd d m : Nat} {w h : Int} {ps : List PI} {c : PI → Int} {us : List U} {n y r : Int}
theorem bd_kd (k : Bd S bd d w h ps c) : ∃ kd, kdOf S (.cel bd) = some kd ∧ Kd.isC "Board" kd = true := ⟨_, kd_bd k, by decide⟩
theorem shows_two {p q : Int} (k : Bd S bd d w h ps c) (hr : 0 ≤ r ∧ r ≤ 4294967295) (hn : 0 ≤ n ∧ n ≤ 4294967295) (hy : 1 ≤ y ∧ y ≤ 65535) (f : facS ps c = .tup [.int p, .int q]) (hp : p.natAbs < 10 ^ 30) (hq : q.natAbs < 10 ^ 30) :
    m_shows_quotient [.int n, .int y, .tup [.cel bd, .int r]] S = .ok (.bl (decide (((p = 0 ∧ q = 0) ∨ p = y) ∧ r < y ∧ y * q + r = n))) (S ++ [.dT (sqK (psort ps) c)]) := by
  have pp := pair_4 (b := .int r) (bd_kd k) (by simp [kdOf])
  rw [show wholeU (.int r) 0 4294967295 = true by show (decide (0 ≤ r) && decide (r ≤ 4294967295)) = true; rw [decide_eq_true hr.1, decide_eq_true hr.2]; rfl] at pp
  have fp := factors_p k
  rw [fac_char k.sq k.w1.2 k.h1.2, f] at fp
  have i0 : ∀ S, ixM (.tup [.cel bd, .int r]) (.int 0) S = .ok (.cel bd) S := fun _ => rfl
  have i1 : ∀ S, ixM (.tup [.cel bd, .int r]) (.int 1) S = .ok (.int r) S := fun _ => rfl
  have j0 : ∀ p q S, ixM (.tup [.int p, .int q]) (.int 0) S = .ok (.int p) S := fun _ _ _ => rfl
  have j1 : ∀ p q S, ixM (.tup [.int p, .int q]) (.int 1) S = .ok (.int q) S := fun _ _ _ => rfl
  have n1 : ∀ us S, isnM (.tup us) .non S = .ok (.bl false) S := fun _ _ => rfl
  have ne : ∀ S, neM (.tup [.int p, .int q]) (.tup [.int 0, .int 0]) S = .ok (.bl (!decide (p = 0 ∧ q = 0))) S := fun S => (eqT2 (S := S) hp hq (by decide) (by decide)).2
  have mu : ∀ S, mulM false (.int y) (.int q) S = .ok (.int (y * q)) S := fun S => mulM_i (by omega)
  by_cases c1 : p = 0 ∧ q = 0
  · obtain ⟨rfl, rfl⟩ := c1
    by_cases c2 : r < y
    · simp [-Int.reducePow, -Int.mul_zero, m_shows_quotient, mDef_f, b_shows_quotient, need_num hn.1 hn.2, need_num hy.1 hy.2, pp, i0, i1, j0, j1, fp, n1, ne, mu, c2]
    · simp [-Int.reducePow, -Int.mul_zero, m_shows_quotient, mDef_f, b_shows_quotient, need_num hn.1 hn.2, need_num hy.1 hy.2, pp, i0, i1, j0, j1, fp, n1, ne, mu, c2]
  · have ne' : ∀ S, neM (.tup [.int p, .int q]) (.tup [.int 0, .int 0]) S = .ok (.bl true) S := fun S => by rw [ne, decide_eq_false c1]; rfl
    by_cases c3 : p = y
    · subst c3
      by_cases c2 : r < p
      · simp [-Int.reducePow, m_shows_quotient, mDef_f, b_shows_quotient, need_num hn.1 hn.2, need_num hy.1 hy.2, pp, i0, i1, j0, j1, fp, n1, ne', mu, c2]
      · simp [-Int.reducePow, m_shows_quotient, mDef_f, b_shows_quotient, need_num hn.1 hn.2, need_num hy.1 hy.2, pp, i0, i1, j0, j1, fp, n1, ne', mu, c2]
    · simp [-Int.reducePow, m_shows_quotient, mDef_f, b_shows_quotient, need_num hn.1 hn.2, need_num hy.1 hy.2, pp, i0, i1, j0, j1, fp, n1, ne', mu, c3, c1]
theorem shows_v {p q : Int} {v : Bool} (k : Bd S bd d w h ps c) (hr : 0 ≤ r ∧ r ≤ 4294967295) (hn : 0 ≤ n ∧ n ≤ 4294967295) (hy : 1 ≤ y ∧ y ≤ 65535) (f : facS ps c = .tup [.int p, .int q]) (hp : p.natAbs < 10 ^ 30) (hq : q.natAbs < 10 ^ 30) (hv : decide (((p = 0 ∧ q = 0) ∨ p = y) ∧ r < y ∧ y * q + r = n) = v) :
    m_shows_quotient [.int n, .int y, .tup [.cel bd, .int r]] S = .ok (.bl v) (S ++ [.dT (sqK (psort ps) c)]) := by rw [← hv]; exact shows_two k hr hn hy f hp hq
theorem rshows_two {p q : Int} (k : Bd S bd d w h ps c) (hr : 0 ≤ r ∧ r ≤ 4294967295) (hn : 0 ≤ n ∧ n ≤ 4294967295) (f : facS ps c = .tup [.int p, .int q]) (hp : p.natAbs < 10 ^ 30) :
    m_shows_root [.int n, .tup [.cel bd, .int r]] S = .ok (.bl (decide (p = q ∧ r ≤ 2 * p ∧ p * p + r = n))) (S ++ [.dT (sqK (psort ps) c)]) := by
  have pp := pair_4 (b := .int r) (bd_kd k) (by simp [kdOf])
  rw [show wholeU (.int r) 0 4294967295 = true by show (decide (0 ≤ r) && decide (r ≤ 4294967295)) = true; rw [decide_eq_true hr.1, decide_eq_true hr.2]; rfl] at pp
  have fp := factors_p k
  rw [fac_char k.sq k.w1.2 k.h1.2, f] at fp
  have i0 : ∀ S, ixM (.tup [.cel bd, .int r]) (.int 0) S = .ok (.cel bd) S := fun _ => rfl
  have i1 : ∀ S, ixM (.tup [.cel bd, .int r]) (.int 1) S = .ok (.int r) S := fun _ => rfl
  have j0 : ∀ p q S, ixM (.tup [.int p, .int q]) (.int 0) S = .ok (.int p) S := fun _ _ _ => rfl
  have j1 : ∀ p q S, ixM (.tup [.int p, .int q]) (.int 1) S = .ok (.int q) S := fun _ _ _ => rfl
  have n1 : ∀ us S, isnM (.tup us) .non S = .ok (.bl false) S := fun _ _ => rfl
  have mu : ∀ S, mulM false (.int p) (.int p) S = .ok (.int (p * p)) S := fun S => mulM_i (by omega)
  have m2 : ∀ S, mulM false (.int 2) (.int p) S = .ok (.int (2 * p)) S := fun S => mulM_i (by omega)
  by_cases c1 : p = q
  · subst c1
    by_cases c2 : r ≤ 2 * p
    · simp [-Int.reducePow, m_shows_root, mDef_f, b_shows_root, need_num hn.1 hn.2, pp, i0, i1, j0, j1, fp, n1, mu, m2, c2]
    · simp [-Int.reducePow, m_shows_root, mDef_f, b_shows_root, need_num hn.1 hn.2, pp, i0, i1, j0, j1, fp, n1, mu, m2, c2]
  · simp [-Int.reducePow, m_shows_root, mDef_f, b_shows_root, need_num hn.1 hn.2, pp, i0, i1, j0, j1, fp, n1, mu, m2, c1]
theorem rshows_v {p q : Int} {v : Bool} (k : Bd S bd d w h ps c) (hr : 0 ≤ r ∧ r ≤ 4294967295) (hn : 0 ≤ n ∧ n ≤ 4294967295) (f : facS ps c = .tup [.int p, .int q]) (hp : p.natAbs < 10 ^ 30) (hv : decide (p = q ∧ r ≤ 2 * p ∧ p * p + r = n) = v) :
    m_shows_root [.int n, .tup [.cel bd, .int r]] S = .ok (.bl v) (S ++ [.dT (sqK (psort ps) c)]) := by rw [← hv]; exact rshows_two k hr hn f hp
end
/-! ### Boards with the same counters are equal -/
theorem fac_nil {c : PI → Int} : facS [] c = .tup [.int 0, .int 0] := by
  have a : wholeS [] c = [] := by
    unfold wholeS
    rw [show colS [] = [] by decide +kernel]; rfl
  have b : pw2 (colS []) = 0 := by decide +kernel
  have d : pw2 (linS []) = 0 := by decide +kernel
  unfold facS
  rw [if_pos a, b, d]
def kI (ps : List PI) (c : PI → Int) : List (List Key × Int) := ps.map fun p => (kP p, c p)
theorem kvOf_sq {c : PI → Int} : ∀ {ps : List PI}, kvOf (sqK ps c) = some (kI ps c)
  | [] => rfl
  | p :: r => by
    rw [sqK_cons]
    unfold kvOf
    rw [kvOf_sq (ps := r)]
    rfl
theorem valI_sq {c : PI → Int} {p : PI} : ∀ {ps : List PI}, p ∈ ps → L2.eqKI.valG' (kI ps c) (kP p) = some (c p)
  | [], h => nomatch h
  | q :: r, h => by
    show L2.eqKI.valG' ((kP q, c q) :: kI r c) (kP p) = _
    unfold L2.eqKI.valG'
    by_cases z : q = p
    · subst z
      rw [List.find?_cons_of_pos (by simp)]; rfl
    · rw [List.find?_cons_of_neg (by simp [kP_inj, z])]
      rcases List.mem_cons.mp h with e | e
      · exact absurd e.symm z
      · exact valI_sq e
theorem eqKI_sq {c : PI → Int} {ps qs : List PI} (n1 : ps.Nodup) (n2 : qs.Nodup) (h : ∀ p, p ∈ ps ↔ p ∈ qs) : eqKI (kI ps c) (kI qs c) = true := by
  have l : ps.length = qs.length := Nat.le_antisymm (len_sub n1 fun p m => (h p).mp m).1 (len_sub n2 fun p m => (h p).mpr m).1
  unfold eqKI
  rw [Bool.and_eq_true]
  refine ⟨by simp [kI, l], ?_⟩
  rw [List.all_eq_true]
  intro kv m
  obtain ⟨p, mp, rfl⟩ := List.mem_map.mp m
  exact decide_eq_true (valI_sq ((h p).mp mp))
section
variable {S : Sto} {b d b2 d2 : Nat} {w h : Int} {ps ps2 : List PI} {c c2 : PI → Int}
theorem eq_p (k : Bd S b d w h ps c) (k2 : Bd S b2 d2 w h ps2 c) : m_Board_eq [.cel b, .cel b2] S = .ok (.bl true) S := by
  have kc : Kd.isC "Board" (.i "Board") = true := by decide
  have e : eqDTM (.cel d) (.cel d2) S = .ok (.bl true) S := by
    unfold eqDTM
    rw [k.dc, k2.dc]
    dsimp only
    rw [kvOf_sq, kvOf_sq]
    dsimp only
    rw [eqKI_sq k.sq.nd k2.sq.nd fun p => by rw [k.sq.mem, k2.sq.mem]]
  simp [m_Board_eq, mDef_f, b_Board_eq, kd_bd k2, kc, k.aC, k2.aC, k.aL, k2.aL, k.aK, k2.aK, e]
theorem ne_p (k : Bd S b d w h ps c) (k2 : Bd S b2 d2 w h ps2 c) : eqIM "Board" m_Board_eq true (.cel b) (.cel b2) S = .ok (.bl false) S := by
  unfold eqIM
  rw [if_pos ⟨k.aM (f := "__eq__"), k2.aM (f := "__eq__")⟩, eq_p k k2]
  rfl
end
theorem rev_bits {q : Nat} (h : q < 2 ^ 16) : (uN (bits q 0)).reverse = uN (dwn 16 q) := by
  rw [dwn_bits h]
  unfold uN
  rw [List.map_reverse]
theorem nab {v : Nat} (h : v ≤ 65535) : ((v : Int)).natAbs < 10 ^ 30 := by omega
theorem fac_pr {S : Sto} {b d : Nat} {x y : Nat} {ps : List PI} (hx : 1 ≤ x ∧ x ≤ 65535) (hy : y ≤ 65535) (k : Bd S b d 16 16 ps (indP (gr x y))) : ∃ p q : Int, facS ps (indP (gr x y)) = .tup [.int p, .int q] ∧ p.natAbs < 10 ^ 30 ∧ q.natAbs < 10 ^ 30 ∧ ((p = 0 ∧ q = 0) ∨ p = x) ∧ q = y := by
  have fc := fac_char k.sq (by decide) (by decide)
  by_cases z : y = 0
  · subst z
    have e0 : gr x 0 = [] := by
      unfold gr gridP
      rw [show bits 0 0 = [] by unfold bits; rfl]
      induction (bits x 0) with
      | nil => rfl
      | cons a r ih => rw [List.flatMap_cons, ih]; rfl
    have en : ps = [] := by
      cases ps with
      | nil => rfl
      | cons p r =>
        have := k.sq.st rfl p List.mem_cons_self
        rw [e0] at this
        exact absurd rfl this
    exact ⟨0, 0, by rw [en]; exact fac_nil, by decide, by decide, Or.inl ⟨rfl, rfl⟩, rfl⟩
  · have pf := prod_fac hx.2 hy k.sq ⟨fun z0 => by omega, fun z0 => absurd z0 z⟩
    rw [fc] at pf
    exact ⟨x, y, pf, nab hx.2, nab hy, Or.inr rfl, rfl⟩
theorem fac_sq {S : Sto} {b d : Nat} {x : Nat} {ps : List PI} (hx : x ≤ 65535) (k : Bd S b d 16 16 ps (indP (gr x x))) : facS ps (indP (gr x x)) = .tup [.int x, .int x] := by
  by_cases z : x = 0
  · subst z
    have e0 : gr 0 0 = [] := by
      unfold gr gridP
      rw [show bits 0 0 = [] by unfold bits; rfl]; rfl
    have en : ps = [] := by
      cases ps with
      | nil => rfl
      | cons p r =>
        have := k.sq.st rfl p List.mem_cons_self
        rw [e0] at this
        exact absurd rfl this
    rw [en]; exact fac_nil
  · have fc := fac_char k.sq (by decide) (by decide)
    have pf := prod_fac hx hx k.sq Iff.rfl
    rw [fc] at pf
    exact pf
def fst3 (u : U) : U := match u with
  | .tup [.int p, _] => .int p
  | _ => .non
theorem uN_uI' (ns : List Nat) : uN ns = uI (ns.map fun n : Nat => (n : Int)) := by simp [uN, uI]
theorem right_ok {bw q rs : Nat} {S : Sto} (h1 : 1 ≤ bw ∧ bw ≤ 65535) (hq : q ≤ 65535) (hr : rs < bw) : (m_law_right [.int bw, .int q, .int rs] S).Sat fun u S' => u = .bl true ∧ Fr nop S S' := by
  have hm : bw * q ≤ 65535 * 65535 := Nat.mul_le_mul h1.2 hq
  have hm2 : bw * q + rs < bw * 65536 := by
    have : bw * q + bw = bw * (q + 1) := by rw [Nat.mul_add, Nat.mul_one]
    have h2 : bw * (q + 1) ≤ bw * 65536 := Nat.mul_le_mul_left _ (by omega)
    omega
  obtain ⟨nn, hnn⟩ : ∃ nn, nn = bw * q + rs := ⟨_, rfl⟩
  have dv : nn / bw = q := by rw [hnn, Nat.mul_add_div (by omega), Nat.div_eq_of_lt hr, Nat.add_zero]
  have md : nn % bw = rs := by rw [hnn, Nat.mul_add_mod, Nat.mod_eq_of_lt hr]
  have h3 : nn ≤ 4294967294 := by omega
  have h4 : nn < bw * 65536 := by omega
  have eI : (nn : Int) = (bw : Int) * q + rs := by rw [hnn, Int.natCast_add, Int.natCast_mul]
  have wI : ((bw * q : Nat) : Int) + (rs : Int) = nn := by rw [hnn]; exact (Int.natCast_add _ _).symm
  have mu : ∀ S, mulM false (.int bw) (.int q) S = .ok (.int ((bw * q : Nat) : Int)) S := fun S => by rw [mulM_i (by omega), Int.natCast_mul]
  simp [-Int.reducePow, -mLc, m_law_right, mDef_sat, b_law_right, eI.symm]
  refine ⟨⟨ltBig_of (by omega), ltBig_of (by omega)⟩, ?_⟩
  refine (product_ok (a := bw) (b := q) h1.2 hq).use ?_
  rintro _ S1 ⟨rfl, ⟨ps, k1⟩, f1⟩
  refine (quotient_ok h1.1 h1.2 (by omega) h4).use ?_
  rintro _ S2 ⟨b2, rfl, lb2, ⟨ps2, k2⟩, f2⟩
  rw [dv] at k2
  rw [md]
  have kb := k1.fr f2 (fun z => z) (fun z => z)
  generalize S.length = b at *
  have ne := ne_p k2 kb
  have i0 : ∀ a b S, ixM (.tup [a, b]) (.int 0) S = .ok a S := fun _ _ _ => rfl
  have i1 : ∀ a b S, ixM (.tup [a, b]) (.int 1) S = .ok b S := fun _ _ _ => rfl
  have tm := prod_many h1.2 hq kb.sq
  have tl := prod_le h1.2 hq
  have wo := worth_p kb (by rw [tm]; have : (((bits bw 0).length * (bits q 0).length : Nat) : Int) ≤ 256 := by exact_mod_cast tl
                            push_cast at this ⊢
                            omega)
  rw [prod_worth h1.2 hq kb.sq] at wo
  have wo' : m_Board_worth [.cel b] S2 = .ok (.int ((bw * q : Nat) : Int)) S2 := by rw [wo, Int.natCast_mul]
  have j1 : m_law_just [.lst [.int rs, .int nn], .lst [.int rs, .int nn]] S2 = .ok (.bl true) S2 :=
    just_ints (ns := [(rs : Int), (nn : Int)]) (Or.inl rfl) (fun n mn => by
      have : n.natAbs < 10 ^ 30 := by
        simp at mn
        rcases mn with rfl | rfl <;> omega
      exact Nat.lt_of_lt_of_le this (Nat.pow_le_pow_right (by decide) (by decide))) (by simp)
  obtain ⟨p, qq, ef, hp, hq2, c1, c2⟩ := fac_pr h1 hq kb
  subst c2
  have s1 := shows_v (v := true) (n := nn) (y := bw) (r := rs) kb (by omega) (by omega) (by omega) ef hp hq2 (decide_eq_true ⟨c1, by omega, eI.symm⟩)
  obtain ⟨S3, hS3⟩ : ∃ S3, S3 = S2 ++ [Cl.dT (sqK (psort ps) (indP (gr bw q)))] := ⟨_, rfl⟩
  rw [← hS3] at s1
  have f3 : Fr nop S2 S3 := by rw [hS3]; exact Fr.app
  have k3 := kb.fr f3 (fun z => z) (fun z => z)
  have s2 := shows_v (v := false) (n := (nn : Int) + 1) (y := bw) (r := rs) k3 (by omega) (by omega) (by omega) ef hp hq2 (decide_eq_false fun z => by have := z.2.2; omega)
  obtain ⟨S4, hS4⟩ : ∃ S4, S4 = S3 ++ [Cl.dT (sqK (psort ps) (indP (gr bw q)))] := ⟨_, rfl⟩
  rw [← hS4] at s2
  have f4 : Fr nop S3 S4 := by rw [hS4]; exact Fr.app
  have k4 := k3.fr f4 (fun z => z) (fun z => z)
  have s3 := shows_v (v := false) (n := nn) (y := bw) (r := (rs : Int) + 1) k4 (by omega) (by omega) (by omega) ef hp hq2 (decide_eq_false fun z => by have := z.2.2; omega)
  obtain ⟨S5, hS5⟩ : ∃ S5, S5 = S4 ++ [Cl.dT (sqK (psort ps) (indP (gr bw q)))] := ⟨_, rfl⟩
  rw [← hS5] at s3
  have f5 : Fr nop S4 S5 := by rw [hS5]; exact Fr.app
  have ad : addM false (.lst [.bl true, .bl false]) (.lst [.bl false]) S5 = .ok (.lst [.bl true, .bl false, .bl false]) S5 := addM_L (by simp)
  have j2 : m_law_just [.lst [.bl true, .bl false, .bl false], .lst [.bl true, .bl false, .bl false]] S5 = .ok (.bl true) S5 :=
    just_ok (d := .lst [.bl true, .bl false, .bl false]) rfl rfl ⟨by decide +kernel, by decide +kernel, by decide +kernel⟩ (by simp) (by simp)
  have am : addM false (.int ((bw * q : Nat) : Int)) (.int rs) S2 = .ok (.int nn) S2 := by
    rw [← wI]; rfl
  simp [-Int.reducePow, -mLc, -Int.natCast_mul, newLst, i0, i1, ne, kb.ms, wo', am, j1, s1, s2, s3, ad, j2]
  refine (steps_ok h1.1 h1.2 (by omega) h4).use ?_
  rintro _ S6 ⟨rfl, hS6⟩
  rw [dv] at hS6
  have hq16 : q < 2 ^ 16 := by omega
  have g6 : S6[S5.length]? = some (.lst (stU bw (dwn 16 q) nn)) := by rw [hS6]; exact get_new
  have f6 : Fr nop S5 S6 := by rw [hS6]; exact Fr.app
  generalize S5.length = l at *
  have ld : (dwn 16 q).length ≤ 16 := by rw [dwn_bits hq16, List.length_reverse]; exact (bits_lt 16 q 0 hq16).1
  have lc : ∀ x0 x1 x2 x3 x4 x5 x6 x8 x9, mLc false (mIt (mVar 7)) (gT [(gN 8), (gN 9)]) mYes (mVar 8) [8, 9] [x0, x1, x2, x3, x4, x5, x6, some (.cel l), x8, x9] S6 = .ok (.lst (uN (dwn 16 q))) S6 := fun x0 x1 x2 x3 x4 x5 x6 x8 x9 => by
    unfold mLc
    have e : mIt (mVar 7) [x0, x1, x2, x3, x4, x5, x6, some (.cel l), x8, x9] S6 = .ok ⟨stU bw (dwn 16 q) nn, some l⟩ S6 := by simp [g6]
    rw [e, bind_ok]
    have qq := lcL_map (gm := gT [(gN 8), (gN 9)]) (te := mVar 8) (chk := (IT.mk (stU bw (dwn 16 q) nn) (some l)).chk) (ρ := wipeR [x0, x1, x2, x3, x4, x5, x6, some (.cel l), x8, x9] [8, 9]) (S := S6) (us := stU bw (dwn 16 q) nn) fst3 ⟨_, g6, rfl⟩ fun u m => by
      obtain ⟨z, mz, rfl⟩ := List.mem_map.mp m
      exact ⟨[x0, x1, x2, x3, x4, x5, x6, some (.cel l), some (.int z.1), some (.int z.2)], by simp [wipeR], by simp [fst3]⟩
    dsimp only at qq ⊢
    rw [qq, bind_ok, List.map_map]
    have e2 : (stI (bw : Int) (dwn 16 q) nn).map (fst3 ∘ stT) = uN (dwn 16 q) := by
      unfold uN
      conv => rhs; rw [← stI_fst (bw := (bw : Int)) (ps := dwn 16 q) (n := (nn : Int)), List.map_map]
      exact List.map_congr_left fun z _ => rfl
    rw [e2]
    exact new_f (by unfold uN; rw [List.length_map]; omega)
  rw [lc, sat_ok]
  refine (places_ok (v := q) (by omega)).use ?_
  rintro _ S7 ⟨rfl, hS7⟩
  have g7 : S7[S6.length]? = some (.lst (uN (bits q 0))) := by rw [hS7]; exact get_new
  have f7 : Fr nop S6 S7 := by rw [hS7]; exact Fr.app
  have rv : revSM false (.cel S6.length) S7 = .ok (.lst (uN (dwn 16 q))) S7 := by
    unfold revSM
    rw [lsOf_cel g7]
    dsimp only
    rw [rev_bits hq16]
    exact new_f (by unfold uN; rw [List.length_map]; omega)
  have j3 : m_law_just [.lst (uN (dwn 16 q)), .lst (uN (dwn 16 q))] S7 = .ok (.bl true) S7 := by
    rw [uN_uI']
    exact just_ints (Or.inl rfl) (fun n mn => by
      obtain ⟨k, mk, rfl⟩ := List.mem_map.mp mn
      rw [dwn_bits hq16, List.mem_reverse] at mk
      have := (bits_lt 16 q 0 hq16).2 k mk
      have e : (k : Int).natAbs = k := by omega
      rw [e]
      exact Nat.lt_of_lt_of_le (show k < 10 ^ 2 by omega) (Nat.pow_le_pow_right (by decide) (by decide))) (by rw [List.length_map]; omega)
  have g8 := f7.get g6 fun z => z
  have fa : Fr nop S S7 := (((((f1.tr f2).tr f3).tr f4).tr f5).tr f6).tr f7
  have lst : (stU (bw : Int) (dwn 16 q) nn).length = (dwn 16 q).length := by rw [List.length_map, stI_len]
  have kl : ∀ us : List U, S7[l]? = some (.lst us) → eqEM false (.cel l) (.lst []) S7 = .ok (.bl us.isEmpty) S7 := fun us e => by
    unfold eqEM kL
    dsimp only
    rw [e]; rfl
  have ee := kl _ g8
  by_cases z : dwn 16 q = []
  · have e0 : (stU (bw : Int) (dwn 16 q) nn).isEmpty = true := by rw [z]; rfl
    rw [e0] at ee
    simp [-Int.reducePow, rv, j3, ee]
    exact fa
  · have e0 : (stU (bw : Int) (dwn 16 q) nn).isEmpty = false := by
      cases hz : stU (bw : Int) (dwn 16 q) nn with
      | nil => rw [hz] at lst; exact absurd (List.length_eq_zero_iff.mp lst.symm) z
      | cons a r => rfl
    rw [e0] at ee
    obtain ⟨pl, el⟩ := stI_last (bw := (bw : Int)) (ps := dwn 16 q) (n := (nn : Int)) z
    have lp : 0 < (dwn 16 q).length := by cases hz : dwn 16 q with
      | nil => exact absurd hz z
      | cons a r => simp
    have al : atI (stU (bw : Int) (dwn 16 q) nn) (-1) = some (.tup [.int pl, .int rs]) := by
      rw [at_last (by omega), lst]
      unfold stU
      rw [List.getElem?_map, el]
      show some (U.tup [.int pl, .int _]) = _
      rw [dwn_sum hq16]
      rw [show (nn : Int) - (bw : Int) * (q : Int) = rs by omega]
    have ix : ixM (.cel l) (.int (-1)) S7 = .ok (.tup [.int pl, .int rs]) S7 := ixM_cel g8 al
    simp [-Int.reducePow, rv, j3, ee, ix, i1]
    exact fa
theorem rootR_ok {x rs : Nat} {S : Sto} (hx : x ≤ 65535) (hr : rs ≤ 2 * x) : (m_law_root_right [.int x, .int rs] S).Sat fun u S' => u = .bl true ∧ Fr nop S S' := by
  have hm : x * x ≤ 65535 * 65535 := Nat.mul_le_mul hx hx
  obtain ⟨nn, hnn⟩ : ∃ nn, nn = x * x + rs := ⟨_, rfl⟩
  have h3 : nn ≤ 4294967295 := by omega
  have eI : (nn : Int) = (x : Int) * x + rs := by rw [hnn, Int.natCast_add, Int.natCast_mul]
  have ex : (x + 1) * (x + 1) = x * x + 2 * x + 1 := by rw [Nat.add_mul, Nat.mul_add, Nat.one_mul, Nat.mul_one]; omega
  have ir : IsRt x nn := ⟨by omega, by rw [ex]; omega⟩
  simp [-Int.reducePow, m_law_root_right, mDef_sat, b_law_root_right, eI.symm]
  refine ⟨ltBig_of (by omega), ?_⟩
  refine (product_ok (a := x) (b := x) hx hx).use ?_
  rintro _ S1 ⟨rfl, ⟨ps, k1⟩, f1⟩
  refine (root_ok h3).use ?_
  rintro _ S2 ⟨r, b2, hi, rfl, lb2, ⟨ps2, k2⟩, f2⟩
  have er := hi.one ir
  subst er
  have er2 : (nn : Int) - ((r * r : Nat) : Int) = rs := by omega
  rw [er2]
  have kb := k1.fr f2 (fun z => z) (fun z => z)
  generalize S.length = b at *
  have ne := ne_p k2 kb
  have i0 : ∀ a b S, ixM (.tup [a, b]) (.int 0) S = .ok a S := fun _ _ _ => rfl
  have i1 : ∀ a b S, ixM (.tup [a, b]) (.int 1) S = .ok b S := fun _ _ _ => rfl
  have ef := fac_sq hx kb
  have ef2 := fac_sq hx k2
  have fp := factors_p kb
  rw [fac_char kb.sq (by decide) (by decide), ef] at fp
  obtain ⟨S3, hS3⟩ : ∃ S3, S3 = S2 ++ [Cl.dT (sqK (psort ps) (indP (gr r r)))] := ⟨_, rfl⟩
  rw [← hS3] at fp
  have f3 : Fr nop S2 S3 := by rw [hS3]; exact Fr.app
  have k3 := kb.fr f3 (fun z => z) (fun z => z)
  have k3b := k2.fr f3 (fun z => z) (fun z => z)
  have o1 := okI (n := (rs : Int)) (by omega)
  have o2 := okI (n := (r : Int)) (by omega)
  have j1 : m_law_just [.lst [.int rs, .tup [.int r, .int r]], .lst [.int rs, .tup [.int r, .int r]]] S3 = .ok (.bl true) S3 := by
    refine just_ok (d := .lst [.int rs, .tup [.int r, .int r]]) rfl rfl ⟨?_, ?_, ?_⟩ (by simp) (by simp)
    · simp only [okD, okDs, o1, o2, Bool.and_true]
    · simp only [dep, deps]; decide
    · simp only [wt, wts]; decide
  have s1 := rshows_v (v := true) (n := nn) (r := rs) k3b (by omega) (by omega) ef2 (nab hx) (decide_eq_true ⟨rfl, by omega, eI.symm⟩)
  obtain ⟨S4, hS4⟩ : ∃ S4, S4 = S3 ++ [Cl.dT (sqK (psort ps2) (indP (gr r r)))] := ⟨_, rfl⟩
  rw [← hS4] at s1
  have f4 : Fr nop S3 S4 := by rw [hS4]; exact Fr.app
  have k4 := k3.fr f4 (fun z => z) (fun z => z)
  have s2 := rshows_v (v := false) (n := nn) (r := (rs : Int) + 1) k4 (by omega) (by omega) ef (nab hx) (decide_eq_false fun z => by have := z.2.2; omega)
  obtain ⟨S5, hS5⟩ : ∃ S5, S5 = S4 ++ [Cl.dT (sqK (psort ps) (indP (gr r r)))] := ⟨_, rfl⟩
  rw [← hS5] at s2
  have f5 : Fr nop S4 S5 := by rw [hS5]; exact Fr.app
  have k5 := k4.fr f5 (fun z => z) (fun z => z)
  have s3 := rshows_v (v := true) (n := nn) (r := rs) k5 (by omega) (by omega) ef (nab hx) (decide_eq_true ⟨rfl, by omega, eI.symm⟩)
  obtain ⟨S6, hS6⟩ : ∃ S6, S6 = S5 ++ [Cl.dT (sqK (psort ps) (indP (gr r r)))] := ⟨_, rfl⟩
  rw [← hS6] at s3
  have f6 : Fr nop S5 S6 := by rw [hS6]; exact Fr.app
  have j2 : m_law_just [.lst [.bl true, .bl false, .bl true], .lst [.bl true, .bl false, .bl true]] S6 = .ok (.bl true) S6 :=
    just_ok (d := .lst [.bl true, .bl false, .bl true]) rfl rfl ⟨by decide +kernel, by decide +kernel, by decide +kernel⟩ (by simp) (by simp)
  simp [-Int.reducePow, newLst, i0, i1, ne, fp, j1, s1, s2, s3, j2]
  exact (((((f1.tr f2).tr f3).tr f4).tr f5).tr f6)
def OI51 (ns : List Int) (i : Nat) (ρ : Rho) (S : Sto) : Prop := ∃ a1 a2 a3 a4, ρ = [some (.scr ns), a1, a2, a3, a4]
theorem law_is (ns : List Int) (h : ns.length ≤ 63) : ∃ S, m_law [.scr ns] [] = .ok (.bl true) S := by
  have main : (m_law [.scr ns] []).Sat fun u _ => u = .bl true := by
    simp [-Int.reducePow, -mFor, m_law, mDef_sat, b_law]
    refine (right_ok (bw := 7) (q := 14) (rs := 2) (by decide) (by decide) (by decide)).use ?_
    rintro _ S1 ⟨rfl, f1⟩
    simp [-Int.reducePow, -mFor]
    refine (rootR_ok (x := 9) (rs := 18) (by decide) (by decide)).use ?_
    rintro _ S2 ⟨rfl, f2⟩
    simp [-Int.reducePow, -mFor]
    obtain ⟨N, hN, eN⟩ := range_ok (ns := ns) (a := 2) (b := 6) (ρ := [none, none, none, none]) (S := S2) (by decide) (by decide) (by decide)
    refine for_satN (OI51 ns) eN ⟨_, _, _, _, rfl⟩ ?_ ?_
    · rintro i d ρ S hd ⟨a1, a2, a3, a4, rfl⟩
      obtain ⟨li, rfl⟩ := rng_get hd
      refine ⟨_, rfl, ?_⟩
      simp [-Int.reducePow]
      refine (cell_ok (by omega)).use ?_
      rintro _ S ⟨rfl, r, rfl⟩
      refine box_ok.use ?_
      rintro _ S2 ⟨rfl, x2, f2⟩
      refine (number_ok x2 (by decide) (by decide) (by decide)).use ?_
      rintro _ S3 ⟨v, rfl, hv, x3, f3⟩
      obtain ⟨bw, hbw⟩ : ∃ bw : Nat, max 1 (v : Int) = (bw : Int) := ⟨max 1 v, by omega⟩
      simp [-Int.reducePow, hbw]
      have hb1 : 1 ≤ bw ∧ bw ≤ 65535 := by omega
      refine (number_ok x3 (by decide) (by decide) (by decide)).use ?_
      rintro _ S4 ⟨q, rfl, hq, x4, f4⟩
      refine (take_ok x4 (by omega) (by omega) (by omega)).use ?_
      rintro _ S5 ⟨t, rfl, t0, t1, x5, f5⟩
      obtain ⟨rs, rfl⟩ : ∃ w : Nat, t = (w : Int) := ⟨t.toNat, by omega⟩
      refine (right_ok (bw := bw) (q := q) (rs := rs) hb1 (by omega) (by omega)).use ?_
      rintro _ S6 ⟨rfl, f6⟩
      have x6 := x5.fr f6 fun z => z
      simp [-Int.reducePow]
      refine (number_ok x6 (by decide) (by decide) (by decide)).use ?_
      rintro _ S7 ⟨x, rfl, hx, x7, f7⟩
      have m2 : ∀ S, mulM false (.int 2) (.int x) S = .ok (.int (2 * x)) S := fun S => mulM_i (by omega)
      simp [-Int.reducePow, m2]
      refine (take_ok x7 (by omega) (by omega) (by omega)).use ?_
      rintro _ S8 ⟨t2, rfl, t20, t21, x8, f8⟩
      obtain ⟨r2, rfl⟩ : ∃ w : Nat, t2 = (w : Int) := ⟨t2.toNat, by omega⟩
      refine (rootR_ok (x := x) (rs := r2) (by omega) (by omega)).use ?_
      rintro _ S9 ⟨rfl, f9⟩
      simp
      exact ⟨_, _, _, _, rfl⟩
    · rintro ρ S ⟨a1, a2, a3, a4, rfl⟩
      simp
  obtain ⟨v, S, e, rfl⟩ := main.eq
  exact ⟨S, e⟩
end Z

namespace Z
open PySem PySem.Spec PyProof.Rows L2

abbrev sI_NoBoard : Stmt := inClass (topS 5) 0
theorem scI_NoBoard : FnScope ["self", "found"] ["self", "found"] (defScope sI_NoBoard) := ⟨rfl, rfl, rfl, by decide +kernel, rfl, by decide +kernel, by decide +kernel⟩
abbrev sI_NoNumber : Stmt := inClass (topS 3) 0
theorem scI_NoNumber : FnScope ["self", "found"] ["self", "found"] (defScope sI_NoNumber) := ⟨rfl, rfl, rfl, by decide +kernel, rfl, by decide +kernel, by decide +kernel⟩
abbrev sI_NoSquare : Stmt := inClass (topS 4) 0
theorem scI_NoSquare : FnScope ["self", "found"] ["self", "found"] (defScope sI_NoSquare) := ⟨rfl, rfl, rfl, by decide +kernel, rfl, by decide +kernel, by decide +kernel⟩
abbrev sI_TooGreat : Stmt := inClass (topS 7) 0
theorem scI_TooGreat : FnScope ["self", "found"] ["self", "found"] (defScope sI_TooGreat) := ⟨rfl, rfl, rfl, by decide +kernel, rfl, by decide +kernel, by decide +kernel⟩
abbrev sI_TooMany : Stmt := inClass (topS 6) 0
theorem scI_TooMany : FnScope ["self", "found"] ["self", "found"] (defScope sI_TooMany) := ⟨rfl, rfl, rfl, by decide +kernel, rfl, by decide +kernel, by decide +kernel⟩
/-! ### what the top has written -/
theorem all_mk {P : Program} {w : World} {K : PySem.W.Frag} {h : Heap} {mg : Str → Option Value} {fa : Addr} (X : K.In h) (G : h.Ns mainGlobals mg) (hfa : mg "law" = some (.ref fa)) (y_MOST : ∃ u, mg "MOST" = some u ∧ RelV (V.int (10 ^ 60)) u)
    {C_Board : Addr}
    {od0 an0 : Option Addr} {sl0 : Array (Option Value)} {oc0 kV0 dc0 pm0 cd0 ct0 : Value} {f0 : Addr}
    {od1 an1 : Option Addr} {sl1 : Array (Option Value)} {oc1 kV1 dc1 pm1 cd1 ct1 : Value} {f1 : Addr}
    {od2 an2 : Option Addr} {sl2 : Array (Option Value)} {oc2 kV2 dc2 pm2 cd2 ct2 : Value} {f2 : Addr}
    {od3 an3 : Option Addr} {sl3 : Array (Option Value)} {oc3 kV3 dc3 pm3 cd3 ct3 : Value} {f3 : Addr}
    {od4 an4 : Option Addr} {sl4 : Array (Option Value)} {oc4 kV4 dc4 pm4 cd4 ct4 : Value} {f4 : Addr}
    {od5 an5 : Option Addr} {sl5 : Array (Option Value)} {oc5 kV5 dc5 pm5 cd5 ct5 : Value} {f5 : Addr}
    {od6 an6 : Option Addr} {sl6 : Array (Option Value)} {oc6 kV6 dc6 pm6 cd6 ct6 : Value} {f6 : Addr}
    {od7 an7 : Option Addr} {sl7 : Array (Option Value)} {oc7 kV7 dc7 pm7 cd7 ct7 : Value} {f7 : Addr}
    {od8 an8 : Option Addr} {sl8 : Array (Option Value)} {oc8 kV8 dc8 pm8 cd8 ct8 : Value} {f8 : Addr}
    {od9 an9 : Option Addr} {sl9 : Array (Option Value)} {oc9 kV9 dc9 pm9 cd9 ct9 : Value} {f9 : Addr}
    {dT9 : Addr} {do9 : Value} {dd9 : Option Addr} {dsl9 : Array (Option Value)} {dn9 : Nat} {dt9_0 : Tok}
    {od10 an10 : Option Addr} {sl10 : Array (Option Value)} {oc10 kV10 dc10 pm10 cd10 ct10 : Value} {f10 : Addr}
    {od11 an11 : Option Addr} {sl11 : Array (Option Value)} {oc11 kV11 dc11 pm11 cd11 ct11 : Value} {f11 : Addr}
    {od12 an12 : Option Addr} {sl12 : Array (Option Value)} {oc12 kV12 dc12 pm12 cd12 ct12 : Value} {f12 : Addr}
    {od13 an13 : Option Addr} {sl13 : Array (Option Value)} {oc13 kV13 dc13 pm13 cd13 ct13 : Value} {f13 : Addr}
    {od14 an14 : Option Addr} {sl14 : Array (Option Value)} {oc14 kV14 dc14 pm14 cd14 ct14 : Value} {f14 : Addr}
    {od15 an15 : Option Addr} {sl15 : Array (Option Value)} {oc15 kV15 dc15 pm15 cd15 ct15 : Value} {f15 : Addr}
    {od16 an16 : Option Addr} {sl16 : Array (Option Value)} {oc16 kV16 dc16 pm16 cd16 ct16 : Value} {f16 : Addr}
    {od17 an17 : Option Addr} {sl17 : Array (Option Value)} {oc17 kV17 dc17 pm17 cd17 ct17 : Value} {f17 : Addr}
    {od18 an18 : Option Addr} {sl18 : Array (Option Value)} {oc18 kV18 dc18 pm18 cd18 ct18 : Value} {f18 : Addr}
    {od19 an19 : Option Addr} {sl19 : Array (Option Value)} {oc19 kV19 dc19 pm19 cd19 ct19 : Value} {f19 : Addr}
    {od20 an20 : Option Addr} {sl20 : Array (Option Value)} {oc20 kV20 dc20 pm20 cd20 ct20 : Value} {f20 : Addr}
    {od21 an21 : Option Addr} {sl21 : Array (Option Value)} {oc21 kV21 dc21 pm21 cd21 ct21 : Value} {f21 : Addr}
    {od22 an22 : Option Addr} {sl22 : Array (Option Value)} {oc22 kV22 dc22 pm22 cd22 ct22 : Value} {f22 : Addr}
    {od23 an23 : Option Addr} {sl23 : Array (Option Value)} {oc23 kV23 dc23 pm23 cd23 ct23 : Value} {f23 : Addr}
    {od24 an24 : Option Addr} {sl24 : Array (Option Value)} {oc24 kV24 dc24 pm24 cd24 ct24 : Value} {f24 : Addr}
    {od25 an25 : Option Addr} {sl25 : Array (Option Value)} {oc25 kV25 dc25 pm25 cd25 ct25 : Value} {f25 : Addr}
    {od26 an26 : Option Addr} {sl26 : Array (Option Value)} {oc26 kV26 dc26 pm26 cd26 ct26 : Value} {f26 : Addr}
    {od27 an27 : Option Addr} {sl27 : Array (Option Value)} {oc27 kV27 dc27 pm27 cd27 ct27 : Value} {f27 : Addr}
    {od28 an28 : Option Addr} {sl28 : Array (Option Value)} {oc28 kV28 dc28 pm28 cd28 ct28 : Value} {f28 : Addr}
    {od29 an29 : Option Addr} {sl29 : Array (Option Value)} {oc29 kV29 dc29 pm29 cd29 ct29 : Value} {f29 : Addr}
    {od30 an30 : Option Addr} {sl30 : Array (Option Value)} {oc30 kV30 dc30 pm30 cd30 ct30 : Value} {f30 : Addr}
    {t_MOST_MANY : Tok}
    {t_MOST_NUMBER : Tok}
    {t_MOST_PUT : Tok}
    {t_MOST_SIDE : Tok}
    {t_SIDE : Tok}
    {C_SlantError : Addr}
    {C_NoBoard : Addr} {nm_NoBoard q_NoBoard : Str} {N_NoBoard : Addr} {bs_NoBoard bm_NoBoard : List Value} {sn_NoBoard : List Str} {sub_NoBoard : List Value} {ab_NoBoard : Bool} {col_NoBoard : Option Bool} {dd_NoBoard : Option Addr} {k0_NoBoard k1_NoBoard k2_NoBoard k3_NoBoard k5_NoBoard : Option Value} {cd_NoBoard : ClassData}
    {odI_NoBoard anI_NoBoard : Option Addr} {slI_NoBoard : Array (Option Value)} {ocI_NoBoard kVI_NoBoard dcI_NoBoard pmI_NoBoard cdI_NoBoard ctI_NoBoard : Value} {fI_NoBoard : Addr}
    {C_NoNumber : Addr} {nm_NoNumber q_NoNumber : Str} {N_NoNumber : Addr} {bs_NoNumber bm_NoNumber : List Value} {sn_NoNumber : List Str} {sub_NoNumber : List Value} {ab_NoNumber : Bool} {col_NoNumber : Option Bool} {dd_NoNumber : Option Addr} {k0_NoNumber k1_NoNumber k2_NoNumber k3_NoNumber k5_NoNumber : Option Value} {cd_NoNumber : ClassData}
    {odI_NoNumber anI_NoNumber : Option Addr} {slI_NoNumber : Array (Option Value)} {ocI_NoNumber kVI_NoNumber dcI_NoNumber pmI_NoNumber cdI_NoNumber ctI_NoNumber : Value} {fI_NoNumber : Addr}
    {C_NoSquare : Addr} {nm_NoSquare q_NoSquare : Str} {N_NoSquare : Addr} {bs_NoSquare bm_NoSquare : List Value} {sn_NoSquare : List Str} {sub_NoSquare : List Value} {ab_NoSquare : Bool} {col_NoSquare : Option Bool} {dd_NoSquare : Option Addr} {k0_NoSquare k1_NoSquare k2_NoSquare k3_NoSquare k5_NoSquare : Option Value} {cd_NoSquare : ClassData}
    {odI_NoSquare anI_NoSquare : Option Addr} {slI_NoSquare : Array (Option Value)} {ocI_NoSquare kVI_NoSquare dcI_NoSquare pmI_NoSquare cdI_NoSquare ctI_NoSquare : Value} {fI_NoSquare : Addr}
    {C_TooGreat : Addr} {nm_TooGreat q_TooGreat : Str} {N_TooGreat : Addr} {bs_TooGreat bm_TooGreat : List Value} {sn_TooGreat : List Str} {sub_TooGreat : List Value} {ab_TooGreat : Bool} {col_TooGreat : Option Bool} {dd_TooGreat : Option Addr} {k0_TooGreat k1_TooGreat k2_TooGreat k3_TooGreat k5_TooGreat : Option Value} {cd_TooGreat : ClassData}
    {odI_TooGreat anI_TooGreat : Option Addr} {slI_TooGreat : Array (Option Value)} {ocI_TooGreat kVI_TooGreat dcI_TooGreat pmI_TooGreat cdI_TooGreat ctI_TooGreat : Value} {fI_TooGreat : Addr}
    {C_TooMany : Addr} {nm_TooMany q_TooMany : Str} {N_TooMany : Addr} {bs_TooMany bm_TooMany : List Value} {sn_TooMany : List Str} {sub_TooMany : List Value} {ab_TooMany : Bool} {col_TooMany : Option Bool} {dd_TooMany : Option Addr} {k0_TooMany k1_TooMany k2_TooMany k3_TooMany k5_TooMany : Option Value} {cd_TooMany : ClassData}
    {odI_TooMany anI_TooMany : Option Addr} {slI_TooMany : Array (Option Value)} {ocI_TooMany kVI_TooMany dcI_TooMany pmI_TooMany cdI_TooMany ctI_TooMany : Value} {fI_TooMany : Addr}
    (ca_Board : PySem.W.nsIn K mainGlobals "Board" = some (some (.ref C_Board)))
    (cp_Board : PySem.W.plainGet K C_Board Str.empty = true)
    (cd_Board : PySem.W.hasDictIn K C_Board = true)
    (co_Board : PySem.W.plainOver K C_Board = true)
    (cs_Board : PySem.W.findIn K (.ref C_Board) "__setattr__" = some (some (.builtin "object.__setattr__")))
    (cc_Board : PySem.W.findIn K (.ref C_Board) "__class__" = some (some (.builtin "object.__class__")))
    (cm_Board : PySem.W.mroIn K C_Board (.type "object") = some true)
    (ck_Board : PySem.W.makesIn K C_Board = true)
    (cq_Board : PySem.W.keepIn K (.ref C_Board) = true)
    (x6int_Board : PySem.W.kitOne K (.ref C_Board) (.type "int") = some false)
    (x6bool_Board : PySem.W.kitOne K (.ref C_Board) (.type "bool") = some false)
    (x6str_Board : PySem.W.kitOne K (.ref C_Board) (.type "str") = some false)
    (x6list_Board : PySem.W.kitOne K (.ref C_Board) (.type "list") = some false)
    (x6tuple_Board : PySem.W.kitOne K (.ref C_Board) (.type "tuple") = some false)
    (x6dict_Board : PySem.W.kitOne K (.ref C_Board) (.type "dict") = some false)
    (x7NoneType_Board : PySem.W.kitOne K (.type "NoneType") (.ref C_Board) = some false)
    (x7bool_Board : PySem.W.kitOne K (.type "bool") (.ref C_Board) = some false)
    (x7int_Board : PySem.W.kitOne K (.type "int") (.ref C_Board) = some false)
    (x7str_Board : PySem.W.kitOne K (.type "str") (.ref C_Board) = some false)
    (x7list_Board : PySem.W.kitOne K (.type "list") (.ref C_Board) = some false)
    (x7tuple_Board : PySem.W.kitOne K (.type "tuple") (.ref C_Board) = some false)
    (x7dict_Board : PySem.W.kitOne K (.type "dict") (.ref C_Board) = some false)
    (cn_Board : PySem.W.findIn K (.ref C_Board) "__ne__" = some (some (.builtin "object.__ne__")))
    (na_Board_columns : PySem.W.findIn K (.ref C_Board) "columns" = some none)
    (na_Board_kept : PySem.W.findIn K (.ref C_Board) "kept" = some none)
    (na_Board_lines : PySem.W.findIn K (.ref C_Board) "lines" = some none)
    (na_Board_total : PySem.W.findIn K (.ref C_Board) "total" = some none)
    (a0 : PySem.W.nsIn K mainGlobals "is_whole" = some (some (.ref f0)))
    (l0 : K.lookup f0 = some ⟨oc0, od0, .func (PySem.W.fnOf "is_whole" "is_whole" (defArgs s_is_whole) (defBody s_is_whole) (defScope s_is_whole) .none kV0 dc0 pm0 an0 cd0 ct0), sl0⟩)
    (c0 : PySem.W.codeIn K cd0 "is_whole" = true)
    (k0 : PySem.W.keepIn K (.ref f0) = true)
    (a1 : PySem.W.nsIn K mainGlobals "need_number" = some (some (.ref f1)))
    (l1 : K.lookup f1 = some ⟨oc1, od1, .func (PySem.W.fnOf "need_number" "need_number" (defArgs s_need_number) (defBody s_need_number) (defScope s_need_number) .none kV1 dc1 pm1 an1 cd1 ct1), sl1⟩)
    (c1 : PySem.W.codeIn K cd1 "need_number" = true)
    (k1 : PySem.W.keepIn K (.ref f1) = true)
    (ma2 : PySem.W.findIn K (.ref C_Board) "__init__" = some (some (.ref f2)))
    (mf2 : PySem.W.isFn K (.ref f2) = true)
    (l2 : K.lookup f2 = some ⟨oc2, od2, .func (PySem.W.fnOf "__init__" "Board.__init__" (defArgs s_Board_init) (defBody s_Board_init) (defScope s_Board_init) .none kV2 dc2 pm2 an2 cd2 ct2), sl2⟩)
    (c2 : PySem.W.codeIn K cd2 "Board.__init__" = true)
    (k2 : PySem.W.keepIn K (.ref f2) = true)
    (a3 : PySem.W.nsIn K mainGlobals "ones_of" = some (some (.ref f3)))
    (l3 : K.lookup f3 = some ⟨oc3, od3, .func (PySem.W.fnOf "ones_of" "ones_of" (defArgs s_ones_of) (defBody s_ones_of) (defScope s_ones_of) .none kV3 dc3 pm3 an3 cd3 ct3), sl3⟩)
    (c3 : PySem.W.codeIn K cd3 "ones_of" = true)
    (k3 : PySem.W.keepIn K (.ref f3) = true)
    (a4 : PySem.W.nsIn K mainGlobals "is_square" = some (some (.ref f4)))
    (l4 : K.lookup f4 = some ⟨oc4, od4, .func (PySem.W.fnOf "is_square" "is_square" (defArgs s_is_square) (defBody s_is_square) (defScope s_is_square) .none kV4 dc4 pm4 an4 cd4 ct4), sl4⟩)
    (c4 : PySem.W.codeIn K cd4 "is_square" = true)
    (k4 : PySem.W.keepIn K (.ref f4) = true)
    (ma5 : PySem.W.findIn K (.ref C_Board) "has_square" = some (some (.ref f5)))
    (mf5 : PySem.W.isFn K (.ref f5) = true)
    (l5 : K.lookup f5 = some ⟨oc5, od5, .func (PySem.W.fnOf "has_square" "Board.has_square" (defArgs s_Board_has_square) (defBody s_Board_has_square) (defScope s_Board_has_square) .none kV5 dc5 pm5 an5 cd5 ct5), sl5⟩)
    (c5 : PySem.W.codeIn K cd5 "Board.has_square" = true)
    (k5 : PySem.W.keepIn K (.ref f5) = true)
    (ma6 : PySem.W.findIn K (.ref C_Board) "need_square" = some (some (.ref f6)))
    (mf6 : PySem.W.isFn K (.ref f6) = true)
    (l6 : K.lookup f6 = some ⟨oc6, od6, .func (PySem.W.fnOf "need_square" "Board.need_square" (defArgs s_Board_need_square) (defBody s_Board_need_square) (defScope s_Board_need_square) .none kV6 dc6 pm6 an6 cd6 ct6), sl6⟩)
    (c6 : PySem.W.codeIn K cd6 "Board.need_square" = true)
    (k6 : PySem.W.keepIn K (.ref f6) = true)
    (ma7 : PySem.W.findIn K (.ref C_Board) "many" = some (some (.ref f7)))
    (mf7 : PySem.W.isFn K (.ref f7) = true)
    (l7 : K.lookup f7 = some ⟨oc7, od7, .func (PySem.W.fnOf "many" "Board.many" (defArgs s_Board_many) (defBody s_Board_many) (defScope s_Board_many) .none kV7 dc7 pm7 an7 cd7 ct7), sl7⟩)
    (c7 : PySem.W.codeIn K cd7 "Board.many" = true)
    (k7 : PySem.W.keepIn K (.ref f7) = true)
    (ma8 : PySem.W.findIn K (.ref C_Board) "more" = some (some (.ref f8)))
    (mf8 : PySem.W.isFn K (.ref f8) = true)
    (l8 : K.lookup f8 = some ⟨oc8, od8, .func (PySem.W.fnOf "more" "Board.more" (defArgs s_Board_more) (defBody s_Board_more) (defScope s_Board_more) .none kV8 dc8 pm8 an8 cd8 ct8), sl8⟩)
    (c8 : PySem.W.codeIn K cd8 "Board.more" = true)
    (k8 : PySem.W.keepIn K (.ref f8) = true)
    (ma9 : PySem.W.findIn K (.ref C_Board) "put" = some (some (.ref f9)))
    (mf9 : PySem.W.isFn K (.ref f9) = true)
    (l9 : K.lookup f9 = some ⟨oc9, od9, .func (PySem.W.fnOf "put" "Board.put" (defArgs s_Board_put) (defBody s_Board_put) (defScope s_Board_put) (.ref dT9) kV9 dc9 pm9 an9 cd9 ct9), sl9⟩)
    (dl9 : K.lookup dT9 = some ⟨do9, dd9, .seq #[.int 1 dt9_0] dn9, dsl9⟩)
    (c9 : PySem.W.codeIn K cd9 "Board.put" = true)
    (k9 : PySem.W.keepIn K (.ref f9) = true)
    (a10 : PySem.W.nsIn K mainGlobals "product" = some (some (.ref f10)))
    (l10 : K.lookup f10 = some ⟨oc10, od10, .func (PySem.W.fnOf "product" "product" (defArgs s_product) (defBody s_product) (defScope s_product) .none kV10 dc10 pm10 an10 cd10 ct10), sl10⟩)
    (c10 : PySem.W.codeIn K cd10 "product" = true)
    (k10 : PySem.W.keepIn K (.ref f10) = true)
    (a11 : PySem.W.nsIn K mainGlobals "root" = some (some (.ref f11)))
    (l11 : K.lookup f11 = some ⟨oc11, od11, .func (PySem.W.fnOf "root" "root" (defArgs s_root) (defBody s_root) (defScope s_root) .none kV11 dc11 pm11 an11 cd11 ct11), sl11⟩)
    (c11 : PySem.W.codeIn K cd11 "root" = true)
    (k11 : PySem.W.keepIn K (.ref f11) = true)
    (a12 : PySem.W.nsIn K mainGlobals "_law_just" = some (some (.ref f12)))
    (l12 : K.lookup f12 = some ⟨oc12, od12, .func (PySem.W.fnOf "_law_just" "_law_just" (defArgs s_law_just) (defBody s_law_just) (defScope s_law_just) .none kV12 dc12 pm12 an12 cd12 ct12), sl12⟩)
    (c12 : PySem.W.codeIn K cd12 "_law_just" = true)
    (k12 : PySem.W.keepIn K (.ref f12) = true)
    (a13 : PySem.W.nsIn K mainGlobals "need_board" = some (some (.ref f13)))
    (l13 : K.lookup f13 = some ⟨oc13, od13, .func (PySem.W.fnOf "need_board" "need_board" (defArgs s_need_board) (defBody s_need_board) (defScope s_need_board) .none kV13 dc13 pm13 an13 cd13 ct13), sl13⟩)
    (c13 : PySem.W.codeIn K cd13 "need_board" = true)
    (k13 : PySem.W.keepIn K (.ref f13) = true)
    (ma14 : PySem.W.findIn K (.ref C_Board) "counters" = some (some (.ref f14)))
    (mf14 : PySem.W.isFn K (.ref f14) = true)
    (l14 : K.lookup f14 = some ⟨oc14, od14, .func (PySem.W.fnOf "counters" "Board.counters" (defArgs s_Board_counters) (defBody s_Board_counters) (defScope s_Board_counters) .none kV14 dc14 pm14 an14 cd14 ct14), sl14⟩)
    (c14 : PySem.W.codeIn K cd14 "Board.counters" = true)
    (k14 : PySem.W.keepIn K (.ref f14) = true)
    (a15 : PySem.W.nsIn K mainGlobals "factors" = some (some (.ref f15)))
    (l15 : K.lookup f15 = some ⟨oc15, od15, .func (PySem.W.fnOf "factors" "factors" (defArgs s_factors) (defBody s_factors) (defScope s_factors) .none kV15 dc15 pm15 an15 cd15 ct15), sl15⟩)
    (c15 : PySem.W.codeIn K cd15 "factors" = true)
    (k15 : PySem.W.keepIn K (.ref f15) = true)
    (ma16 : PySem.W.findIn K (.ref C_Board) "__eq__" = some (some (.ref f16)))
    (mf16 : PySem.W.isFn K (.ref f16) = true)
    (l16 : K.lookup f16 = some ⟨oc16, od16, .func (PySem.W.fnOf "__eq__" "Board.__eq__" (defArgs s_Board_eq) (defBody s_Board_eq) (defScope s_Board_eq) .none kV16 dc16 pm16 an16 cd16 ct16), sl16⟩)
    (c16 : PySem.W.codeIn K cd16 "Board.__eq__" = true)
    (k16 : PySem.W.keepIn K (.ref f16) = true)
    (a17 : PySem.W.nsIn K mainGlobals "is_pair" = some (some (.ref f17)))
    (l17 : K.lookup f17 = some ⟨oc17, od17, .func (PySem.W.fnOf "is_pair" "is_pair" (defArgs s_is_pair) (defBody s_is_pair) (defScope s_is_pair) .none kV17 dc17 pm17 an17 cd17 ct17), sl17⟩)
    (c17 : PySem.W.codeIn K cd17 "is_pair" = true)
    (k17 : PySem.W.keepIn K (.ref f17) = true)
    (a18 : PySem.W.nsIn K mainGlobals "shows_root" = some (some (.ref f18)))
    (l18 : K.lookup f18 = some ⟨oc18, od18, .func (PySem.W.fnOf "shows_root" "shows_root" (defArgs s_shows_root) (defBody s_shows_root) (defScope s_shows_root) .none kV18 dc18 pm18 an18 cd18 ct18), sl18⟩)
    (c18 : PySem.W.codeIn K cd18 "shows_root" = true)
    (k18 : PySem.W.keepIn K (.ref f18) = true)
    (a19 : PySem.W.nsIn K mainGlobals "_law_root_right" = some (some (.ref f19)))
    (l19 : K.lookup f19 = some ⟨oc19, od19, .func (PySem.W.fnOf "_law_root_right" "_law_root_right" (defArgs s_law_root_right) (defBody s_law_root_right) (defScope s_law_root_right) .none kV19 dc19 pm19 an19 cd19 ct19), sl19⟩)
    (c19 : PySem.W.codeIn K cd19 "_law_root_right" = true)
    (k19 : PySem.W.keepIn K (.ref f19) = true)
    (a20 : PySem.W.nsIn K mainGlobals "steps" = some (some (.ref f20)))
    (l20 : K.lookup f20 = some ⟨oc20, od20, .func (PySem.W.fnOf "steps" "steps" (defArgs s_steps) (defBody s_steps) (defScope s_steps) .none kV20 dc20 pm20 an20 cd20 ct20), sl20⟩)
    (c20 : PySem.W.codeIn K cd20 "steps" = true)
    (k20 : PySem.W.keepIn K (.ref f20) = true)
    (a21 : PySem.W.nsIn K mainGlobals "quotient" = some (some (.ref f21)))
    (l21 : K.lookup f21 = some ⟨oc21, od21, .func (PySem.W.fnOf "quotient" "quotient" (defArgs s_quotient) (defBody s_quotient) (defScope s_quotient) .none kV21 dc21 pm21 an21 cd21 ct21), sl21⟩)
    (c21 : PySem.W.codeIn K cd21 "quotient" = true)
    (k21 : PySem.W.keepIn K (.ref f21) = true)
    (ma22 : PySem.W.findIn K (.ref C_Board) "worth" = some (some (.ref f22)))
    (mf22 : PySem.W.isFn K (.ref f22) = true)
    (l22 : K.lookup f22 = some ⟨oc22, od22, .func (PySem.W.fnOf "worth" "Board.worth" (defArgs s_Board_worth) (defBody s_Board_worth) (defScope s_Board_worth) .none kV22 dc22 pm22 an22 cd22 ct22), sl22⟩)
    (c22 : PySem.W.codeIn K cd22 "Board.worth" = true)
    (k22 : PySem.W.keepIn K (.ref f22) = true)
    (a23 : PySem.W.nsIn K mainGlobals "shows_quotient" = some (some (.ref f23)))
    (l23 : K.lookup f23 = some ⟨oc23, od23, .func (PySem.W.fnOf "shows_quotient" "shows_quotient" (defArgs s_shows_quotient) (defBody s_shows_quotient) (defScope s_shows_quotient) .none kV23 dc23 pm23 an23 cd23 ct23), sl23⟩)
    (c23 : PySem.W.codeIn K cd23 "shows_quotient" = true)
    (k23 : PySem.W.keepIn K (.ref f23) = true)
    (a24 : PySem.W.nsIn K mainGlobals "places_of" = some (some (.ref f24)))
    (l24 : K.lookup f24 = some ⟨oc24, od24, .func (PySem.W.fnOf "places_of" "places_of" (defArgs s_places_of) (defBody s_places_of) (defScope s_places_of) .none kV24 dc24 pm24 an24 cd24 ct24), sl24⟩)
    (c24 : PySem.W.codeIn K cd24 "places_of" = true)
    (k24 : PySem.W.keepIn K (.ref f24) = true)
    (a25 : PySem.W.nsIn K mainGlobals "_law_right" = some (some (.ref f25)))
    (l25 : K.lookup f25 = some ⟨oc25, od25, .func (PySem.W.fnOf "_law_right" "_law_right" (defArgs s_law_right) (defBody s_law_right) (defScope s_law_right) .none kV25 dc25 pm25 an25 cd25 ct25), sl25⟩)
    (c25 : PySem.W.codeIn K cd25 "_law_right" = true)
    (k25 : PySem.W.keepIn K (.ref f25) = true)
    (a26 : PySem.W.nsIn K mainGlobals "_law_box" = some (some (.ref f26)))
    (l26 : K.lookup f26 = some ⟨oc26, od26, .func (PySem.W.fnOf "_law_box" "_law_box" (defArgs s_law_box) (defBody s_law_box) (defScope s_law_box) .none kV26 dc26 pm26 an26 cd26 ct26), sl26⟩)
    (c26 : PySem.W.codeIn K cd26 "_law_box" = true)
    (k26 : PySem.W.keepIn K (.ref f26) = true)
    (a27 : PySem.W.nsIn K mainGlobals "_law_cell" = some (some (.ref f27)))
    (l27 : K.lookup f27 = some ⟨oc27, od27, .func (PySem.W.fnOf "_law_cell" "_law_cell" (defArgs s_law_cell) (defBody s_law_cell) (defScope s_law_cell) .none kV27 dc27 pm27 an27 cd27 ct27), sl27⟩)
    (c27 : PySem.W.codeIn K cd27 "_law_cell" = true)
    (k27 : PySem.W.keepIn K (.ref f27) = true)
    (a28 : PySem.W.nsIn K mainGlobals "_law_take" = some (some (.ref f28)))
    (l28 : K.lookup f28 = some ⟨oc28, od28, .func (PySem.W.fnOf "_law_take" "_law_take" (defArgs s_law_take) (defBody s_law_take) (defScope s_law_take) .none kV28 dc28 pm28 an28 cd28 ct28), sl28⟩)
    (c28 : PySem.W.codeIn K cd28 "_law_take" = true)
    (k28 : PySem.W.keepIn K (.ref f28) = true)
    (a29 : PySem.W.nsIn K mainGlobals "_law_number" = some (some (.ref f29)))
    (l29 : K.lookup f29 = some ⟨oc29, od29, .func (PySem.W.fnOf "_law_number" "_law_number" (defArgs s_law_number) (defBody s_law_number) (defScope s_law_number) .none kV29 dc29 pm29 an29 cd29 ct29), sl29⟩)
    (c29 : PySem.W.codeIn K cd29 "_law_number" = true)
    (k29 : PySem.W.keepIn K (.ref f29) = true)
    (a30 : PySem.W.nsIn K mainGlobals "law" = some (some (.ref f30)))
    (l30 : K.lookup f30 = some ⟨oc30, od30, .func (PySem.W.fnOf "law" "law" (defArgs s_law) (defBody s_law) (defScope s_law) .none kV30 dc30 pm30 an30 cd30 ct30), sl30⟩)
    (c30 : PySem.W.codeIn K cd30 "law" = true)
    (k30 : PySem.W.keepIn K (.ref f30) = true)
    (z_bool : PySem.W.nsIn K mainGlobals "bool" = some none)
    (z_dict : PySem.W.nsIn K mainGlobals "dict" = some none)
    (z_int : PySem.W.nsIn K mainGlobals "int" = some none)
    (z_isinstance : PySem.W.nsIn K mainGlobals "isinstance" = some none)
    (z_len : PySem.W.nsIn K mainGlobals "len" = some none)
    (z_list : PySem.W.nsIn K mainGlobals "list" = some none)
    (z_max : PySem.W.nsIn K mainGlobals "max" = some none)
    (z_min : PySem.W.nsIn K mainGlobals "min" = some none)
    (z_range : PySem.W.nsIn K mainGlobals "range" = some none)
    (z_repr : PySem.W.nsIn K mainGlobals "repr" = some none)
    (z_set : PySem.W.nsIn K mainGlobals "set" = some none)
    (z_sorted : PySem.W.nsIn K mainGlobals "sorted" = some none)
    (z_sum : PySem.W.nsIn K mainGlobals "sum" = some none)
    (z_tuple : PySem.W.nsIn K mainGlobals "tuple" = some none)
    (v_MOST_MANY : PySem.W.nsIn K mainGlobals "MOST_MANY" = some (some (.int 100000 t_MOST_MANY)))
    (v_MOST_NUMBER : PySem.W.nsIn K mainGlobals "MOST_NUMBER" = some (some (.int 4294967295 t_MOST_NUMBER)))
    (v_MOST_PUT : PySem.W.nsIn K mainGlobals "MOST_PUT" = some (some (.int 1000 t_MOST_PUT)))
    (v_MOST_SIDE : PySem.W.nsIn K mainGlobals "MOST_SIDE" = some (some (.int 65535 t_MOST_SIDE)))
    (v_SIDE : PySem.W.nsIn K mainGlobals "SIDE" = some (some (.int 16 t_SIDE)))
    (xo1 : PySem.W.specialIn K (.builtin "object.__class__") "__get__" = some (some (.builtin "getset_descriptor.__get__")))
    (xo2 : PySem.W.takesIn K (.builtin "object.__class__") = some true)
    (ba_SlantError : PySem.W.nsIn K mainGlobals "SlantError" = some (some (.ref C_SlantError)))
    (bg_SlantError : PySem.W.specialIn K (.ref C_SlantError) "__getattribute__" = some (some (.builtin "type.__getattribute__")))
    (br_SlantError : PySem.W.readsIn K C_SlantError (.type "type") = true)
    (bi_SlantError : PySem.W.findCls K (.ref C_SlantError) (.type "type") "__init__" = some (.val (.builtin "ValueError.__init__")))
    (xa_NoBoard : PySem.W.nsIn K mainGlobals "NoBoard" = some (some (.ref C_NoBoard)))
    (xl_NoBoard : K.lookup C_NoBoard = some (excClassObj nm_NoBoard q_NoBoard C_NoBoard N_NoBoard bs_NoBoard bm_NoBoard true sn_NoBoard sub_NoBoard ab_NoBoard col_NoBoard dd_NoBoard k0_NoBoard k1_NoBoard k2_NoBoard k3_NoBoard k5_NoBoard "ValueError.__new__"))
    (xb_NoBoard : ZX.refsTo ZX.veT bm_NoBoard = true)
    (xs_NoBoard : PySem.W.findIn K (.ref C_NoBoard) "__setattr__" = some (some (.builtin "object.__setattr__")))
    (xe_NoBoard : PySem.W.subIn K (.ref C_NoBoard) (.type "BaseException") = some true)
    (xt_NoBoard : PySem.W.typeIn K (.ref C_NoBoard) = some (.type "type"))
    (xk_NoBoard : PySem.W.keepIn K (.ref C_NoBoard) = true)
    (xr_NoBoard : PySem.W.findIn K (.ref C_NoBoard) "__repr__" = some (some (.builtin "BaseException.__repr__")))
    (xc_NoBoard : PySem.W.clsIn K C_NoBoard = some cd_NoBoard)
    (xga_NoBoard : PySem.W.findIn K (.ref C_NoBoard) "__getattribute__" = some (some (.builtin "BaseException.__getattribute__")))
    (xgg_NoBoard : PySem.W.findIn K (.ref C_NoBoard) "__getattr__" = some none)
    (xhd_NoBoard : PySem.W.hasDictIn K C_NoBoard = true)
    (xha_NoBoard : PySem.W.findIn K (.ref C_NoBoard) "__class__" = some (some (.builtin "object.__class__")))
    (xhm_NoBoard : PySem.W.mroIn K C_NoBoard (.type "object") = some true)
    (xq4_NoBoard : PySem.W.findIn K (.ref C_NoBoard) "__ne__" = some (some (.builtin "object.__ne__")))
    (xq5_NoBoard : PySem.W.subIn K (.ref C_NoBoard) (.type "list") = some false)
    (xq1_NoBoard : PySem.W.findIn K (.ref C_NoBoard) "__eq__" = some (some (.builtin "object.__eq__")))
    (xq2_NoBoard : PySem.W.subIn K (.ref C_NoBoard) (.type "object") = some true)
    (xq3_NoBoard : PySem.W.subIn K (.ref C_NoBoard) (.type "str") = some false)
    (xn_NoBoard : cd_NoBoard.name = "NoBoard")
    (x6int_NoBoard : PySem.W.kitOne K (.ref C_NoBoard) (.type "int") = some false)
    (x6bool_NoBoard : PySem.W.kitOne K (.ref C_NoBoard) (.type "bool") = some false)
    (x6str_NoBoard : PySem.W.kitOne K (.ref C_NoBoard) (.type "str") = some false)
    (x6list_NoBoard : PySem.W.kitOne K (.ref C_NoBoard) (.type "list") = some false)
    (x6tuple_NoBoard : PySem.W.kitOne K (.ref C_NoBoard) (.type "tuple") = some false)
    (x6dict_NoBoard : PySem.W.kitOne K (.ref C_NoBoard) (.type "dict") = some false)
    (xi_NoBoard : PySem.W.findIn K (.ref C_NoBoard) "__init__" = some (some (.ref fI_NoBoard)))
    (lI_NoBoard : K.lookup fI_NoBoard = some ⟨ocI_NoBoard, odI_NoBoard, .func (PySem.W.fnOf "__init__" "NoBoard.__init__" (defArgs sI_NoBoard) (defBody sI_NoBoard) (defScope sI_NoBoard) .none kVI_NoBoard dcI_NoBoard pmI_NoBoard anI_NoBoard cdI_NoBoard ctI_NoBoard), slI_NoBoard⟩)
    (cI_NoBoard : PySem.W.codeIn K cdI_NoBoard "NoBoard.__init__" = true)
    (kI_NoBoard : PySem.W.keepIn K (.ref fI_NoBoard) = true)
    (xit_NoBoard : PySem.W.typeIn K (.ref fI_NoBoard) = some (.type "function"))
    (xf_NoBoard : PySem.W.findIn K (.ref C_NoBoard) "found" = some none)
    (xa_NoNumber : PySem.W.nsIn K mainGlobals "NoNumber" = some (some (.ref C_NoNumber)))
    (xl_NoNumber : K.lookup C_NoNumber = some (excClassObj nm_NoNumber q_NoNumber C_NoNumber N_NoNumber bs_NoNumber bm_NoNumber true sn_NoNumber sub_NoNumber ab_NoNumber col_NoNumber dd_NoNumber k0_NoNumber k1_NoNumber k2_NoNumber k3_NoNumber k5_NoNumber "ValueError.__new__"))
    (xb_NoNumber : ZX.refsTo ZX.veT bm_NoNumber = true)
    (xs_NoNumber : PySem.W.findIn K (.ref C_NoNumber) "__setattr__" = some (some (.builtin "object.__setattr__")))
    (xe_NoNumber : PySem.W.subIn K (.ref C_NoNumber) (.type "BaseException") = some true)
    (xt_NoNumber : PySem.W.typeIn K (.ref C_NoNumber) = some (.type "type"))
    (xk_NoNumber : PySem.W.keepIn K (.ref C_NoNumber) = true)
    (xr_NoNumber : PySem.W.findIn K (.ref C_NoNumber) "__repr__" = some (some (.builtin "BaseException.__repr__")))
    (xc_NoNumber : PySem.W.clsIn K C_NoNumber = some cd_NoNumber)
    (xga_NoNumber : PySem.W.findIn K (.ref C_NoNumber) "__getattribute__" = some (some (.builtin "BaseException.__getattribute__")))
    (xgg_NoNumber : PySem.W.findIn K (.ref C_NoNumber) "__getattr__" = some none)
    (xhd_NoNumber : PySem.W.hasDictIn K C_NoNumber = true)
    (xha_NoNumber : PySem.W.findIn K (.ref C_NoNumber) "__class__" = some (some (.builtin "object.__class__")))
    (xhm_NoNumber : PySem.W.mroIn K C_NoNumber (.type "object") = some true)
    (xq4_NoNumber : PySem.W.findIn K (.ref C_NoNumber) "__ne__" = some (some (.builtin "object.__ne__")))
    (xq5_NoNumber : PySem.W.subIn K (.ref C_NoNumber) (.type "list") = some false)
    (xq1_NoNumber : PySem.W.findIn K (.ref C_NoNumber) "__eq__" = some (some (.builtin "object.__eq__")))
    (xq2_NoNumber : PySem.W.subIn K (.ref C_NoNumber) (.type "object") = some true)
    (xq3_NoNumber : PySem.W.subIn K (.ref C_NoNumber) (.type "str") = some false)
    (xn_NoNumber : cd_NoNumber.name = "NoNumber")
    (x6int_NoNumber : PySem.W.kitOne K (.ref C_NoNumber) (.type "int") = some false)
    (x6bool_NoNumber : PySem.W.kitOne K (.ref C_NoNumber) (.type "bool") = some false)
    (x6str_NoNumber : PySem.W.kitOne K (.ref C_NoNumber) (.type "str") = some false)
    (x6list_NoNumber : PySem.W.kitOne K (.ref C_NoNumber) (.type "list") = some false)
    (x6tuple_NoNumber : PySem.W.kitOne K (.ref C_NoNumber) (.type "tuple") = some false)
    (x6dict_NoNumber : PySem.W.kitOne K (.ref C_NoNumber) (.type "dict") = some false)
    (xi_NoNumber : PySem.W.findIn K (.ref C_NoNumber) "__init__" = some (some (.ref fI_NoNumber)))
    (lI_NoNumber : K.lookup fI_NoNumber = some ⟨ocI_NoNumber, odI_NoNumber, .func (PySem.W.fnOf "__init__" "NoNumber.__init__" (defArgs sI_NoNumber) (defBody sI_NoNumber) (defScope sI_NoNumber) .none kVI_NoNumber dcI_NoNumber pmI_NoNumber anI_NoNumber cdI_NoNumber ctI_NoNumber), slI_NoNumber⟩)
    (cI_NoNumber : PySem.W.codeIn K cdI_NoNumber "NoNumber.__init__" = true)
    (kI_NoNumber : PySem.W.keepIn K (.ref fI_NoNumber) = true)
    (xit_NoNumber : PySem.W.typeIn K (.ref fI_NoNumber) = some (.type "function"))
    (xf_NoNumber : PySem.W.findIn K (.ref C_NoNumber) "found" = some none)
    (xa_NoSquare : PySem.W.nsIn K mainGlobals "NoSquare" = some (some (.ref C_NoSquare)))
    (xl_NoSquare : K.lookup C_NoSquare = some (excClassObj nm_NoSquare q_NoSquare C_NoSquare N_NoSquare bs_NoSquare bm_NoSquare true sn_NoSquare sub_NoSquare ab_NoSquare col_NoSquare dd_NoSquare k0_NoSquare k1_NoSquare k2_NoSquare k3_NoSquare k5_NoSquare "ValueError.__new__"))
    (xb_NoSquare : ZX.refsTo ZX.veT bm_NoSquare = true)
    (xs_NoSquare : PySem.W.findIn K (.ref C_NoSquare) "__setattr__" = some (some (.builtin "object.__setattr__")))
    (xe_NoSquare : PySem.W.subIn K (.ref C_NoSquare) (.type "BaseException") = some true)
    (xt_NoSquare : PySem.W.typeIn K (.ref C_NoSquare) = some (.type "type"))
    (xk_NoSquare : PySem.W.keepIn K (.ref C_NoSquare) = true)
    (xr_NoSquare : PySem.W.findIn K (.ref C_NoSquare) "__repr__" = some (some (.builtin "BaseException.__repr__")))
    (xc_NoSquare : PySem.W.clsIn K C_NoSquare = some cd_NoSquare)
    (xga_NoSquare : PySem.W.findIn K (.ref C_NoSquare) "__getattribute__" = some (some (.builtin "BaseException.__getattribute__")))
    (xgg_NoSquare : PySem.W.findIn K (.ref C_NoSquare) "__getattr__" = some none)
    (xhd_NoSquare : PySem.W.hasDictIn K C_NoSquare = true)
    (xha_NoSquare : PySem.W.findIn K (.ref C_NoSquare) "__class__" = some (some (.builtin "object.__class__")))
    (xhm_NoSquare : PySem.W.mroIn K C_NoSquare (.type "object") = some true)
    (xq4_NoSquare : PySem.W.findIn K (.ref C_NoSquare) "__ne__" = some (some (.builtin "object.__ne__")))
    (xq5_NoSquare : PySem.W.subIn K (.ref C_NoSquare) (.type "list") = some false)
    (xq1_NoSquare : PySem.W.findIn K (.ref C_NoSquare) "__eq__" = some (some (.builtin "object.__eq__")))
    (xq2_NoSquare : PySem.W.subIn K (.ref C_NoSquare) (.type "object") = some true)
    (xq3_NoSquare : PySem.W.subIn K (.ref C_NoSquare) (.type "str") = some false)
    (xn_NoSquare : cd_NoSquare.name = "NoSquare")
    (x6int_NoSquare : PySem.W.kitOne K (.ref C_NoSquare) (.type "int") = some false)
    (x6bool_NoSquare : PySem.W.kitOne K (.ref C_NoSquare) (.type "bool") = some false)
    (x6str_NoSquare : PySem.W.kitOne K (.ref C_NoSquare) (.type "str") = some false)
    (x6list_NoSquare : PySem.W.kitOne K (.ref C_NoSquare) (.type "list") = some false)
    (x6tuple_NoSquare : PySem.W.kitOne K (.ref C_NoSquare) (.type "tuple") = some false)
    (x6dict_NoSquare : PySem.W.kitOne K (.ref C_NoSquare) (.type "dict") = some false)
    (xi_NoSquare : PySem.W.findIn K (.ref C_NoSquare) "__init__" = some (some (.ref fI_NoSquare)))
    (lI_NoSquare : K.lookup fI_NoSquare = some ⟨ocI_NoSquare, odI_NoSquare, .func (PySem.W.fnOf "__init__" "NoSquare.__init__" (defArgs sI_NoSquare) (defBody sI_NoSquare) (defScope sI_NoSquare) .none kVI_NoSquare dcI_NoSquare pmI_NoSquare anI_NoSquare cdI_NoSquare ctI_NoSquare), slI_NoSquare⟩)
    (cI_NoSquare : PySem.W.codeIn K cdI_NoSquare "NoSquare.__init__" = true)
    (kI_NoSquare : PySem.W.keepIn K (.ref fI_NoSquare) = true)
    (xit_NoSquare : PySem.W.typeIn K (.ref fI_NoSquare) = some (.type "function"))
    (xf_NoSquare : PySem.W.findIn K (.ref C_NoSquare) "found" = some none)
    (xa_TooGreat : PySem.W.nsIn K mainGlobals "TooGreat" = some (some (.ref C_TooGreat)))
    (xl_TooGreat : K.lookup C_TooGreat = some (excClassObj nm_TooGreat q_TooGreat C_TooGreat N_TooGreat bs_TooGreat bm_TooGreat true sn_TooGreat sub_TooGreat ab_TooGreat col_TooGreat dd_TooGreat k0_TooGreat k1_TooGreat k2_TooGreat k3_TooGreat k5_TooGreat "ValueError.__new__"))
    (xb_TooGreat : ZX.refsTo ZX.veT bm_TooGreat = true)
    (xs_TooGreat : PySem.W.findIn K (.ref C_TooGreat) "__setattr__" = some (some (.builtin "object.__setattr__")))
    (xe_TooGreat : PySem.W.subIn K (.ref C_TooGreat) (.type "BaseException") = some true)
    (xt_TooGreat : PySem.W.typeIn K (.ref C_TooGreat) = some (.type "type"))
    (xk_TooGreat : PySem.W.keepIn K (.ref C_TooGreat) = true)
    (xr_TooGreat : PySem.W.findIn K (.ref C_TooGreat) "__repr__" = some (some (.builtin "BaseException.__repr__")))
    (xc_TooGreat : PySem.W.clsIn K C_TooGreat = some cd_TooGreat)
    (xga_TooGreat : PySem.W.findIn K (.ref C_TooGreat) "__getattribute__" = some (some (.builtin "BaseException.__getattribute__")))
    (xgg_TooGreat : PySem.W.findIn K (.ref C_TooGreat) "__getattr__" = some none)
    (xhd_TooGreat : PySem.W.hasDictIn K C_TooGreat = true)
    (xha_TooGreat : PySem.W.findIn K (.ref C_TooGreat) "__class__" = some (some (.builtin "object.__class__")))
    (xhm_TooGreat : PySem.W.mroIn K C_TooGreat (.type "object") = some true)
    (xq4_TooGreat : PySem.W.findIn K (.ref C_TooGreat) "__ne__" = some (some (.builtin "object.__ne__")))
    (xq5_TooGreat : PySem.W.subIn K (.ref C_TooGreat) (.type "list") = some false)
    (xq1_TooGreat : PySem.W.findIn K (.ref C_TooGreat) "__eq__" = some (some (.builtin "object.__eq__")))
    (xq2_TooGreat : PySem.W.subIn K (.ref C_TooGreat) (.type "object") = some true)
    (xq3_TooGreat : PySem.W.subIn K (.ref C_TooGreat) (.type "str") = some false)
    (xn_TooGreat : cd_TooGreat.name = "TooGreat")
    (x6int_TooGreat : PySem.W.kitOne K (.ref C_TooGreat) (.type "int") = some false)
    (x6bool_TooGreat : PySem.W.kitOne K (.ref C_TooGreat) (.type "bool") = some false)
    (x6str_TooGreat : PySem.W.kitOne K (.ref C_TooGreat) (.type "str") = some false)
    (x6list_TooGreat : PySem.W.kitOne K (.ref C_TooGreat) (.type "list") = some false)
    (x6tuple_TooGreat : PySem.W.kitOne K (.ref C_TooGreat) (.type "tuple") = some false)
    (x6dict_TooGreat : PySem.W.kitOne K (.ref C_TooGreat) (.type "dict") = some false)
    (xi_TooGreat : PySem.W.findIn K (.ref C_TooGreat) "__init__" = some (some (.ref fI_TooGreat)))
    (lI_TooGreat : K.lookup fI_TooGreat = some ⟨ocI_TooGreat, odI_TooGreat, .func (PySem.W.fnOf "__init__" "TooGreat.__init__" (defArgs sI_TooGreat) (defBody sI_TooGreat) (defScope sI_TooGreat) .none kVI_TooGreat dcI_TooGreat pmI_TooGreat anI_TooGreat cdI_TooGreat ctI_TooGreat), slI_TooGreat⟩)
    (cI_TooGreat : PySem.W.codeIn K cdI_TooGreat "TooGreat.__init__" = true)
    (kI_TooGreat : PySem.W.keepIn K (.ref fI_TooGreat) = true)
    (xit_TooGreat : PySem.W.typeIn K (.ref fI_TooGreat) = some (.type "function"))
    (xf_TooGreat : PySem.W.findIn K (.ref C_TooGreat) "found" = some none)
    (xa_TooMany : PySem.W.nsIn K mainGlobals "TooMany" = some (some (.ref C_TooMany)))
    (xl_TooMany : K.lookup C_TooMany = some (excClassObj nm_TooMany q_TooMany C_TooMany N_TooMany bs_TooMany bm_TooMany true sn_TooMany sub_TooMany ab_TooMany col_TooMany dd_TooMany k0_TooMany k1_TooMany k2_TooMany k3_TooMany k5_TooMany "ValueError.__new__"))
    (xb_TooMany : ZX.refsTo ZX.veT bm_TooMany = true)
    (xs_TooMany : PySem.W.findIn K (.ref C_TooMany) "__setattr__" = some (some (.builtin "object.__setattr__")))
    (xe_TooMany : PySem.W.subIn K (.ref C_TooMany) (.type "BaseException") = some true)
    (xt_TooMany : PySem.W.typeIn K (.ref C_TooMany) = some (.type "type"))
    (xk_TooMany : PySem.W.keepIn K (.ref C_TooMany) = true)
    (xr_TooMany : PySem.W.findIn K (.ref C_TooMany) "__repr__" = some (some (.builtin "BaseException.__repr__")))
    (xc_TooMany : PySem.W.clsIn K C_TooMany = some cd_TooMany)
    (xga_TooMany : PySem.W.findIn K (.ref C_TooMany) "__getattribute__" = some (some (.builtin "BaseException.__getattribute__")))
    (xgg_TooMany : PySem.W.findIn K (.ref C_TooMany) "__getattr__" = some none)
    (xhd_TooMany : PySem.W.hasDictIn K C_TooMany = true)
    (xha_TooMany : PySem.W.findIn K (.ref C_TooMany) "__class__" = some (some (.builtin "object.__class__")))
    (xhm_TooMany : PySem.W.mroIn K C_TooMany (.type "object") = some true)
    (xq4_TooMany : PySem.W.findIn K (.ref C_TooMany) "__ne__" = some (some (.builtin "object.__ne__")))
    (xq5_TooMany : PySem.W.subIn K (.ref C_TooMany) (.type "list") = some false)
    (xq1_TooMany : PySem.W.findIn K (.ref C_TooMany) "__eq__" = some (some (.builtin "object.__eq__")))
    (xq2_TooMany : PySem.W.subIn K (.ref C_TooMany) (.type "object") = some true)
    (xq3_TooMany : PySem.W.subIn K (.ref C_TooMany) (.type "str") = some false)
    (xn_TooMany : cd_TooMany.name = "TooMany")
    (x6int_TooMany : PySem.W.kitOne K (.ref C_TooMany) (.type "int") = some false)
    (x6bool_TooMany : PySem.W.kitOne K (.ref C_TooMany) (.type "bool") = some false)
    (x6str_TooMany : PySem.W.kitOne K (.ref C_TooMany) (.type "str") = some false)
    (x6list_TooMany : PySem.W.kitOne K (.ref C_TooMany) (.type "list") = some false)
    (x6tuple_TooMany : PySem.W.kitOne K (.ref C_TooMany) (.type "tuple") = some false)
    (x6dict_TooMany : PySem.W.kitOne K (.ref C_TooMany) (.type "dict") = some false)
    (xi_TooMany : PySem.W.findIn K (.ref C_TooMany) "__init__" = some (some (.ref fI_TooMany)))
    (lI_TooMany : K.lookup fI_TooMany = some ⟨ocI_TooMany, odI_TooMany, .func (PySem.W.fnOf "__init__" "TooMany.__init__" (defArgs sI_TooMany) (defBody sI_TooMany) (defScope sI_TooMany) .none kVI_TooMany dcI_TooMany pmI_TooMany anI_TooMany cdI_TooMany ctI_TooMany), slI_TooMany⟩)
    (cI_TooMany : PySem.W.codeIn K cdI_TooMany "TooMany.__init__" = true)
    (kI_TooMany : PySem.W.keepIn K (.ref fI_TooMany) = true)
    (xit_TooMany : PySem.W.typeIn K (.ref fI_TooMany) = some (.type "function"))
    (xf_TooMany : PySem.W.findIn K (.ref C_TooMany) "found" = some none)
    (xx_NoBoard_NoBoard : PySem.W.exmOne K (.ref C_NoBoard) (.ref C_NoBoard) = some true)
    (xx_NoBoard_NoNumber : PySem.W.exmOne K (.ref C_NoBoard) (.ref C_NoNumber) = some false)
    (xx_NoBoard_NoSquare : PySem.W.exmOne K (.ref C_NoBoard) (.ref C_NoSquare) = some false)
    (xx_NoBoard_TooGreat : PySem.W.exmOne K (.ref C_NoBoard) (.ref C_TooGreat) = some false)
    (xx_NoBoard_TooMany : PySem.W.exmOne K (.ref C_NoBoard) (.ref C_TooMany) = some false)
    (xx_NoNumber_NoBoard : PySem.W.exmOne K (.ref C_NoNumber) (.ref C_NoBoard) = some false)
    (xx_NoNumber_NoNumber : PySem.W.exmOne K (.ref C_NoNumber) (.ref C_NoNumber) = some true)
    (xx_NoNumber_NoSquare : PySem.W.exmOne K (.ref C_NoNumber) (.ref C_NoSquare) = some false)
    (xx_NoNumber_TooGreat : PySem.W.exmOne K (.ref C_NoNumber) (.ref C_TooGreat) = some false)
    (xx_NoNumber_TooMany : PySem.W.exmOne K (.ref C_NoNumber) (.ref C_TooMany) = some false)
    (xx_NoSquare_NoBoard : PySem.W.exmOne K (.ref C_NoSquare) (.ref C_NoBoard) = some false)
    (xx_NoSquare_NoNumber : PySem.W.exmOne K (.ref C_NoSquare) (.ref C_NoNumber) = some false)
    (xx_NoSquare_NoSquare : PySem.W.exmOne K (.ref C_NoSquare) (.ref C_NoSquare) = some true)
    (xx_NoSquare_TooGreat : PySem.W.exmOne K (.ref C_NoSquare) (.ref C_TooGreat) = some false)
    (xx_NoSquare_TooMany : PySem.W.exmOne K (.ref C_NoSquare) (.ref C_TooMany) = some false)
    (xx_TooGreat_NoBoard : PySem.W.exmOne K (.ref C_TooGreat) (.ref C_NoBoard) = some false)
    (xx_TooGreat_NoNumber : PySem.W.exmOne K (.ref C_TooGreat) (.ref C_NoNumber) = some false)
    (xx_TooGreat_NoSquare : PySem.W.exmOne K (.ref C_TooGreat) (.ref C_NoSquare) = some false)
    (xx_TooGreat_TooGreat : PySem.W.exmOne K (.ref C_TooGreat) (.ref C_TooGreat) = some true)
    (xx_TooGreat_TooMany : PySem.W.exmOne K (.ref C_TooGreat) (.ref C_TooMany) = some false)
    (xx_TooMany_NoBoard : PySem.W.exmOne K (.ref C_TooMany) (.ref C_NoBoard) = some false)
    (xx_TooMany_NoNumber : PySem.W.exmOne K (.ref C_TooMany) (.ref C_NoNumber) = some false)
    (xx_TooMany_NoSquare : PySem.W.exmOne K (.ref C_TooMany) (.ref C_NoSquare) = some false)
    (xx_TooMany_TooGreat : PySem.W.exmOne K (.ref C_TooMany) (.ref C_TooGreat) = some false)
    (xx_TooMany_TooMany : PySem.W.exmOne K (.ref C_TooMany) (.ref C_TooMany) = some true)
    (x8NoBoard_Board : PySem.W.kitOne K (.ref C_NoBoard) (.ref C_Board) = some false)
    (x8NoNumber_Board : PySem.W.kitOne K (.ref C_NoNumber) (.ref C_Board) = some false)
    (x8NoSquare_Board : PySem.W.kitOne K (.ref C_NoSquare) (.ref C_Board) = some false)
    (x8TooGreat_Board : PySem.W.kitOne K (.ref C_TooGreat) (.ref C_Board) = some false)
    (x8TooMany_Board : PySem.W.kitOne K (.ref C_TooMany) (.ref C_Board) = some false)
    (x9Board_Board : PySem.W.kitOne K (.ref C_Board) (.ref C_Board) = some true) :
    ∃ fd : FuncData, (∀ (s : Shared) (u : Value), BindsTo s fd ⟨[u], []⟩ [("script", u)]) ∧ ∀ base : Heap, K.In base → base.Ns mainGlobals mg → Fn ⟨P, w, K, mg, base⟩ 9 fa fd ["script"] (spTrue K) := by
  have e := hfa.symm.trans (PySem.W.mg_of X G a30)
  cases e
  refine ⟨PySem.W.fnOf "law" "law" (defArgs s_law) (defBody s_law) (defScope s_law) .none kV30 dc30 pm30 an30 cd30 ct30, fun s v => .of_eq rfl, fun base hb gb => ?_⟩
  let ω : Om := ⟨fun nm => if nm = "NoBoard" then C_NoBoard else if nm = "NoNumber" then C_NoNumber else if nm = "NoSquare" then C_NoSquare else if nm = "TooGreat" then C_TooGreat else if nm = "TooMany" then C_TooMany else C_Board, fun nm => nm = "NoBoard" ∨ nm = "NoNumber" ∨ nm = "NoSquare" ∨ nm = "TooGreat" ∨ nm = "TooMany", fun nm => nm = "Board", ksOf K⟩
  have ad_NoBoard : ω.ad "NoBoard" = C_NoBoard := by show (if ("NoBoard" : Str) = "NoBoard" then C_NoBoard else if ("NoBoard" : Str) = "NoNumber" then C_NoNumber else if ("NoBoard" : Str) = "NoSquare" then C_NoSquare else if ("NoBoard" : Str) = "TooGreat" then C_TooGreat else if ("NoBoard" : Str) = "TooMany" then C_TooMany else C_Board) = _; rw [if_pos rfl]
  have ad_NoNumber : ω.ad "NoNumber" = C_NoNumber := by show (if ("NoNumber" : Str) = "NoBoard" then C_NoBoard else if ("NoNumber" : Str) = "NoNumber" then C_NoNumber else if ("NoNumber" : Str) = "NoSquare" then C_NoSquare else if ("NoNumber" : Str) = "TooGreat" then C_TooGreat else if ("NoNumber" : Str) = "TooMany" then C_TooMany else C_Board) = _; rw [if_neg (by decide), if_pos rfl]
  have ad_NoSquare : ω.ad "NoSquare" = C_NoSquare := by show (if ("NoSquare" : Str) = "NoBoard" then C_NoBoard else if ("NoSquare" : Str) = "NoNumber" then C_NoNumber else if ("NoSquare" : Str) = "NoSquare" then C_NoSquare else if ("NoSquare" : Str) = "TooGreat" then C_TooGreat else if ("NoSquare" : Str) = "TooMany" then C_TooMany else C_Board) = _; rw [if_neg (by decide), if_neg (by decide), if_pos rfl]
  have ad_TooGreat : ω.ad "TooGreat" = C_TooGreat := by show (if ("TooGreat" : Str) = "NoBoard" then C_NoBoard else if ("TooGreat" : Str) = "NoNumber" then C_NoNumber else if ("TooGreat" : Str) = "NoSquare" then C_NoSquare else if ("TooGreat" : Str) = "TooGreat" then C_TooGreat else if ("TooGreat" : Str) = "TooMany" then C_TooMany else C_Board) = _; rw [if_neg (by decide), if_neg (by decide), if_neg (by decide), if_pos rfl]
  have ad_TooMany : ω.ad "TooMany" = C_TooMany := by show (if ("TooMany" : Str) = "NoBoard" then C_NoBoard else if ("TooMany" : Str) = "NoNumber" then C_NoNumber else if ("TooMany" : Str) = "NoSquare" then C_NoSquare else if ("TooMany" : Str) = "TooGreat" then C_TooGreat else if ("TooMany" : Str) = "TooMany" then C_TooMany else C_Board) = _; rw [if_neg (by decide), if_neg (by decide), if_neg (by decide), if_neg (by decide), if_pos rfl]
  have ad_Board : ω.ad "Board" = C_Board := by show (if ("Board" : Str) = "NoBoard" then C_NoBoard else if ("Board" : Str) = "NoNumber" then C_NoNumber else if ("Board" : Str) = "NoSquare" then C_NoSquare else if ("Board" : Str) = "TooGreat" then C_TooGreat else if ("Board" : Str) = "TooMany" then C_TooMany else C_Board) = _; rw [if_neg (by decide), if_neg (by decide), if_neg (by decide), if_neg (by decide), if_neg (by decide)]
  have B_SlantError : BaseC K C_SlantError "ValueError.__init__" := ⟨bg_SlantError, br_SlantError, bi_SlantError⟩
  have O_NoBoard : OxC K C_NoBoard "ValueError" "ValueError.__new__" "ValueError.__init__" ZX.veT := ⟨PySem.F.excBase_ValueError, ZX.ve_pass, by decide +kernel, ⟨_, _, _, _, _, _, _, _, _, _, _, _, _, _, _, xl_NoBoard, xb_NoBoard⟩, xs_NoBoard, xe_NoBoard, xt_NoBoard, xk_NoBoard⟩
  have E_NoBoard : L2.ExcC K C_NoBoard := ⟨xga_NoBoard, xgg_NoBoard, xe_NoBoard, xhd_NoBoard, xha_NoBoard, xo1, xo2, xhm_NoBoard⟩
  have KX_NoBoard : KnX K C_NoBoard "NoBoard" := ⟨⟨xr_NoBoard, xe_NoBoard, _, xc_NoBoard, xn_NoBoard⟩, E_NoBoard, by rw [xc_NoBoard]; rfl, fun n hn => by
    simp only [T6, List.mem_cons, List.not_mem_nil, or_false] at hn
    rcases hn with rfl | rfl | rfl | rfl | rfl | rfl
    · exact x6int_NoBoard
    · exact x6bool_NoBoard
    · exact x6str_NoBoard
    · exact x6list_NoBoard
    · exact x6tuple_NoBoard
    · exact x6dict_NoBoard⟩
  have DI_NoBoard : Df ⟨P, w, K, mg, base⟩ "__init__" "NoBoard.__init__" sI_NoBoard fI_NoBoard _ := ⟨⟨_, _, _, _, _, _, _, _, _, _, rfl, lI_NoBoard, cI_NoBoard⟩, kI_NoBoard⟩
  have FI_NoBoard := init_by (tx := "what is no board") (f := "found") DI_NoBoard scI_NoBoard O_NoBoard xf_NoBoard fun cd A out s H E => pss_cons (ps_expr (pe_binit (by rfl) (PySem.W.mg_of X G ba_SlantError) B_SlantError (by decide +kernel) (pa_cons (pv 0) (pa_cons pe_str pa_nil)))) (pss_one (ps_ofirst (pv 0) (pv 1)))
  have M_NoBoard : MkX ⟨P, w, K, mg, base⟩ 1 "NoBoard" C_NoBoard "what is no board" "found" := ⟨⟨fI_NoBoard, _, _, _, _, _, _, FI_NoBoard, O_NoBoard, xi_NoBoard, xit_NoBoard, PySem.W.mg_of X G xa_NoBoard, fun s u v => .of_eq rfl⟩⟩
  have O_NoNumber : OxC K C_NoNumber "ValueError" "ValueError.__new__" "ValueError.__init__" ZX.veT := ⟨PySem.F.excBase_ValueError, ZX.ve_pass, by decide +kernel, ⟨_, _, _, _, _, _, _, _, _, _, _, _, _, _, _, xl_NoNumber, xb_NoNumber⟩, xs_NoNumber, xe_NoNumber, xt_NoNumber, xk_NoNumber⟩
  have E_NoNumber : L2.ExcC K C_NoNumber := ⟨xga_NoNumber, xgg_NoNumber, xe_NoNumber, xhd_NoNumber, xha_NoNumber, xo1, xo2, xhm_NoNumber⟩
  have KX_NoNumber : KnX K C_NoNumber "NoNumber" := ⟨⟨xr_NoNumber, xe_NoNumber, _, xc_NoNumber, xn_NoNumber⟩, E_NoNumber, by rw [xc_NoNumber]; rfl, fun n hn => by
    simp only [T6, List.mem_cons, List.not_mem_nil, or_false] at hn
    rcases hn with rfl | rfl | rfl | rfl | rfl | rfl
    · exact x6int_NoNumber
    · exact x6bool_NoNumber
    · exact x6str_NoNumber
    · exact x6list_NoNumber
    · exact x6tuple_NoNumber
    · exact x6dict_NoNumber⟩
  have DI_NoNumber : Df ⟨P, w, K, mg, base⟩ "__init__" "NoNumber.__init__" sI_NoNumber fI_NoNumber _ := ⟨⟨_, _, _, _, _, _, _, _, _, _, rfl, lI_NoNumber, cI_NoNumber⟩, kI_NoNumber⟩
  have FI_NoNumber := init_by (tx := "what is no number within its bounds") (f := "found") DI_NoNumber scI_NoNumber O_NoNumber xf_NoNumber fun cd A out s H E => pss_cons (ps_expr (pe_binit (by rfl) (PySem.W.mg_of X G ba_SlantError) B_SlantError (by decide +kernel) (pa_cons (pv 0) (pa_cons pe_str pa_nil)))) (pss_one (ps_ofirst (pv 0) (pv 1)))
  have M_NoNumber : MkX ⟨P, w, K, mg, base⟩ 1 "NoNumber" C_NoNumber "what is no number within its bounds" "found" := ⟨⟨fI_NoNumber, _, _, _, _, _, _, FI_NoNumber, O_NoNumber, xi_NoNumber, xit_NoNumber, PySem.W.mg_of X G xa_NoNumber, fun s u v => .of_eq rfl⟩⟩
  have O_NoSquare : OxC K C_NoSquare "ValueError" "ValueError.__new__" "ValueError.__init__" ZX.veT := ⟨PySem.F.excBase_ValueError, ZX.ve_pass, by decide +kernel, ⟨_, _, _, _, _, _, _, _, _, _, _, _, _, _, _, xl_NoSquare, xb_NoSquare⟩, xs_NoSquare, xe_NoSquare, xt_NoSquare, xk_NoSquare⟩
  have E_NoSquare : L2.ExcC K C_NoSquare := ⟨xga_NoSquare, xgg_NoSquare, xe_NoSquare, xhd_NoSquare, xha_NoSquare, xo1, xo2, xhm_NoSquare⟩
  have KX_NoSquare : KnX K C_NoSquare "NoSquare" := ⟨⟨xr_NoSquare, xe_NoSquare, _, xc_NoSquare, xn_NoSquare⟩, E_NoSquare, by rw [xc_NoSquare]; rfl, fun n hn => by
    simp only [T6, List.mem_cons, List.not_mem_nil, or_false] at hn
    rcases hn with rfl | rfl | rfl | rfl | rfl | rfl
    · exact x6int_NoSquare
    · exact x6bool_NoSquare
    · exact x6str_NoSquare
    · exact x6list_NoSquare
    · exact x6tuple_NoSquare
    · exact x6dict_NoSquare⟩
  have DI_NoSquare : Df ⟨P, w, K, mg, base⟩ "__init__" "NoSquare.__init__" sI_NoSquare fI_NoSquare _ := ⟨⟨_, _, _, _, _, _, _, _, _, _, rfl, lI_NoSquare, cI_NoSquare⟩, kI_NoSquare⟩
  have FI_NoSquare := init_by (tx := "what is no square of the board") (f := "found") DI_NoSquare scI_NoSquare O_NoSquare xf_NoSquare fun cd A out s H E => pss_cons (ps_expr (pe_binit (by rfl) (PySem.W.mg_of X G ba_SlantError) B_SlantError (by decide +kernel) (pa_cons (pv 0) (pa_cons pe_str pa_nil)))) (pss_one (ps_ofirst (pv 0) (pv 1)))
  have M_NoSquare : MkX ⟨P, w, K, mg, base⟩ 1 "NoSquare" C_NoSquare "what is no square of the board" "found" := ⟨⟨fI_NoSquare, _, _, _, _, _, _, FI_NoSquare, O_NoSquare, xi_NoSquare, xit_NoSquare, PySem.W.mg_of X G xa_NoSquare, fun s u v => .of_eq rfl⟩⟩
  have O_TooGreat : OxC K C_TooGreat "ValueError" "ValueError.__new__" "ValueError.__init__" ZX.veT := ⟨PySem.F.excBase_ValueError, ZX.ve_pass, by decide +kernel, ⟨_, _, _, _, _, _, _, _, _, _, _, _, _, _, _, xl_TooGreat, xb_TooGreat⟩, xs_TooGreat, xe_TooGreat, xt_TooGreat, xk_TooGreat⟩
  have E_TooGreat : L2.ExcC K C_TooGreat := ⟨xga_TooGreat, xgg_TooGreat, xe_TooGreat, xhd_TooGreat, xha_TooGreat, xo1, xo2, xhm_TooGreat⟩
  have KX_TooGreat : KnX K C_TooGreat "TooGreat" := ⟨⟨xr_TooGreat, xe_TooGreat, _, xc_TooGreat, xn_TooGreat⟩, E_TooGreat, by rw [xc_TooGreat]; rfl, fun n hn => by
    simp only [T6, List.mem_cons, List.not_mem_nil, or_false] at hn
    rcases hn with rfl | rfl | rfl | rfl | rfl | rfl
    · exact x6int_TooGreat
    · exact x6bool_TooGreat
    · exact x6str_TooGreat
    · exact x6list_TooGreat
    · exact x6tuple_TooGreat
    · exact x6dict_TooGreat⟩
  have DI_TooGreat : Df ⟨P, w, K, mg, base⟩ "__init__" "TooGreat.__init__" sI_TooGreat fI_TooGreat _ := ⟨⟨_, _, _, _, _, _, _, _, _, _, rfl, lI_TooGreat, cI_TooGreat⟩, kI_TooGreat⟩
  have FI_TooGreat := init_by (tx := "more than can be laid out") (f := "found") DI_TooGreat scI_TooGreat O_TooGreat xf_TooGreat fun cd A out s H E => pss_cons (ps_expr (pe_binit (by rfl) (PySem.W.mg_of X G ba_SlantError) B_SlantError (by decide +kernel) (pa_cons (pv 0) (pa_cons pe_str pa_nil)))) (pss_one (ps_ofirst (pv 0) (pv 1)))
  have M_TooGreat : MkX ⟨P, w, K, mg, base⟩ 1 "TooGreat" C_TooGreat "more than can be laid out" "found" := ⟨⟨fI_TooGreat, _, _, _, _, _, _, FI_TooGreat, O_TooGreat, xi_TooGreat, xit_TooGreat, PySem.W.mg_of X G xa_TooGreat, fun s u v => .of_eq rfl⟩⟩
  have O_TooMany : OxC K C_TooMany "ValueError" "ValueError.__new__" "ValueError.__init__" ZX.veT := ⟨PySem.F.excBase_ValueError, ZX.ve_pass, by decide +kernel, ⟨_, _, _, _, _, _, _, _, _, _, _, _, _, _, _, xl_TooMany, xb_TooMany⟩, xs_TooMany, xe_TooMany, xt_TooMany, xk_TooMany⟩
  have E_TooMany : L2.ExcC K C_TooMany := ⟨xga_TooMany, xgg_TooMany, xe_TooMany, xhd_TooMany, xha_TooMany, xo1, xo2, xhm_TooMany⟩
  have KX_TooMany : KnX K C_TooMany "TooMany" := ⟨⟨xr_TooMany, xe_TooMany, _, xc_TooMany, xn_TooMany⟩, E_TooMany, by rw [xc_TooMany]; rfl, fun n hn => by
    simp only [T6, List.mem_cons, List.not_mem_nil, or_false] at hn
    rcases hn with rfl | rfl | rfl | rfl | rfl | rfl
    · exact x6int_TooMany
    · exact x6bool_TooMany
    · exact x6str_TooMany
    · exact x6list_TooMany
    · exact x6tuple_TooMany
    · exact x6dict_TooMany⟩
  have DI_TooMany : Df ⟨P, w, K, mg, base⟩ "__init__" "TooMany.__init__" sI_TooMany fI_TooMany _ := ⟨⟨_, _, _, _, _, _, _, _, _, _, rfl, lI_TooMany, cI_TooMany⟩, kI_TooMany⟩
  have FI_TooMany := init_by (tx := "more counters than there may be") (f := "found") DI_TooMany scI_TooMany O_TooMany xf_TooMany fun cd A out s H E => pss_cons (ps_expr (pe_binit (by rfl) (PySem.W.mg_of X G ba_SlantError) B_SlantError (by decide +kernel) (pa_cons (pv 0) (pa_cons pe_str pa_nil)))) (pss_one (ps_ofirst (pv 0) (pv 1)))
  have M_TooMany : MkX ⟨P, w, K, mg, base⟩ 1 "TooMany" C_TooMany "more counters than there may be" "found" := ⟨⟨fI_TooMany, _, _, _, _, _, _, FI_TooMany, O_TooMany, xi_TooMany, xit_TooMany, PySem.W.mg_of X G xa_TooMany, fun s u v => .of_eq rfl⟩⟩
  have CL_Board : Cls K C_Board := ⟨cp_Board, cd_Board, co_Board, cs_Board⟩
  have KI_Board : KnI K C_Board := ⟨CL_Board, cc_Board, xo1, xo2, cm_Board, fun n hn => by
    simp only [T6, List.mem_cons, List.not_mem_nil, or_false] at hn
    rcases hn with rfl | rfl | rfl | rfl | rfl | rfl
    · exact x6int_Board
    · exact x6bool_Board
    · exact x6str_Board
    · exact x6list_Board
    · exact x6tuple_Board
    · exact x6dict_Board⟩
  have IC_Board : IcC K ω "Board" := ⟨fun d hd => by
    cases d with
    | b n =>
      simp only [KdOk, List.mem_cons, List.not_mem_nil, or_false] at hd
      rcases hd with rfl | rfl | rfl | rfl | rfl | rfl | rfl
      · rw [ad_Board]; exact x7NoneType_Board
      · rw [ad_Board]; exact x7bool_Board
      · rw [ad_Board]; exact x7int_Board
      · rw [ad_Board]; exact x7str_Board
      · rw [ad_Board]; exact x7list_Board
      · rw [ad_Board]; exact x7tuple_Board
      · rw [ad_Board]; exact x7dict_Board
    | x nm =>
      have hd2 : nm = "NoBoard" ∨ nm = "NoNumber" ∨ nm = "NoSquare" ∨ nm = "TooGreat" ∨ nm = "TooMany" := hd
      rcases hd2 with rfl | rfl | rfl | rfl | rfl
      · show PySem.W.kitOne K (.ref (ω.ad "NoBoard")) (.ref (ω.ad "Board")) = _
        rw [ad_NoBoard, ad_Board]; exact x8NoBoard_Board
      · show PySem.W.kitOne K (.ref (ω.ad "NoNumber")) (.ref (ω.ad "Board")) = _
        rw [ad_NoNumber, ad_Board]; exact x8NoNumber_Board
      · show PySem.W.kitOne K (.ref (ω.ad "NoSquare")) (.ref (ω.ad "Board")) = _
        rw [ad_NoSquare, ad_Board]; exact x8NoSquare_Board
      · show PySem.W.kitOne K (.ref (ω.ad "TooGreat")) (.ref (ω.ad "Board")) = _
        rw [ad_TooGreat, ad_Board]; exact x8TooGreat_Board
      · show PySem.W.kitOne K (.ref (ω.ad "TooMany")) (.ref (ω.ad "Board")) = _
        rw [ad_TooMany, ad_Board]; exact x8TooMany_Board
    | i nm =>
      have hd2 : nm = "Board" := hd
      rcases hd2 with rfl
      · show PySem.W.kitOne K (.ref (ω.ad "Board")) (.ref (ω.ad "Board")) = _
        rw [ad_Board]; exact x9Board_Board.trans (by decide)⟩
  have KN : Kn K ω := ⟨fun a ns h => h, fun nm hnm => by
    have hnm' : nm = "NoBoard" ∨ nm = "NoNumber" ∨ nm = "NoSquare" ∨ nm = "TooGreat" ∨ nm = "TooMany" := hnm
    rcases hnm' with rfl | rfl | rfl | rfl | rfl
    · rw [ad_NoBoard]; exact KX_NoBoard
    · rw [ad_NoNumber]; exact KX_NoNumber
    · rw [ad_NoSquare]; exact KX_NoSquare
    · rw [ad_TooGreat]; exact KX_TooGreat
    · rw [ad_TooMany]; exact KX_TooMany
    , fun nm hnm => by
    have hnm2 : nm = "Board" := hnm
    rcases hnm2 with rfl
    · rw [ad_Board]; exact KI_Board⟩
  have KE : KnE K ω := fun nm c h1 h2 => by
    have h1' : nm = "NoBoard" ∨ nm = "NoNumber" ∨ nm = "NoSquare" ∨ nm = "TooGreat" ∨ nm = "TooMany" := h1
    have h2' : c = "NoBoard" ∨ c = "NoNumber" ∨ c = "NoSquare" ∨ c = "TooGreat" ∨ c = "TooMany" := h2
    rcases h1' with rfl | rfl | rfl | rfl | rfl
    · rcases h2' with rfl | rfl | rfl | rfl | rfl
      · rw [ad_NoBoard]; exact xx_NoBoard_NoBoard.trans (by decide)
      · rw [ad_NoBoard, ad_NoNumber]; exact xx_NoBoard_NoNumber.trans (by decide)
      · rw [ad_NoBoard, ad_NoSquare]; exact xx_NoBoard_NoSquare.trans (by decide)
      · rw [ad_NoBoard, ad_TooGreat]; exact xx_NoBoard_TooGreat.trans (by decide)
      · rw [ad_NoBoard, ad_TooMany]; exact xx_NoBoard_TooMany.trans (by decide)
    · rcases h2' with rfl | rfl | rfl | rfl | rfl
      · rw [ad_NoNumber, ad_NoBoard]; exact xx_NoNumber_NoBoard.trans (by decide)
      · rw [ad_NoNumber]; exact xx_NoNumber_NoNumber.trans (by decide)
      · rw [ad_NoNumber, ad_NoSquare]; exact xx_NoNumber_NoSquare.trans (by decide)
      · rw [ad_NoNumber, ad_TooGreat]; exact xx_NoNumber_TooGreat.trans (by decide)
      · rw [ad_NoNumber, ad_TooMany]; exact xx_NoNumber_TooMany.trans (by decide)
    · rcases h2' with rfl | rfl | rfl | rfl | rfl
      · rw [ad_NoSquare, ad_NoBoard]; exact xx_NoSquare_NoBoard.trans (by decide)
      · rw [ad_NoSquare, ad_NoNumber]; exact xx_NoSquare_NoNumber.trans (by decide)
      · rw [ad_NoSquare]; exact xx_NoSquare_NoSquare.trans (by decide)
      · rw [ad_NoSquare, ad_TooGreat]; exact xx_NoSquare_TooGreat.trans (by decide)
      · rw [ad_NoSquare, ad_TooMany]; exact xx_NoSquare_TooMany.trans (by decide)
    · rcases h2' with rfl | rfl | rfl | rfl | rfl
      · rw [ad_TooGreat, ad_NoBoard]; exact xx_TooGreat_NoBoard.trans (by decide)
      · rw [ad_TooGreat, ad_NoNumber]; exact xx_TooGreat_NoNumber.trans (by decide)
      · rw [ad_TooGreat, ad_NoSquare]; exact xx_TooGreat_NoSquare.trans (by decide)
      · rw [ad_TooGreat]; exact xx_TooGreat_TooGreat.trans (by decide)
      · rw [ad_TooGreat, ad_TooMany]; exact xx_TooGreat_TooMany.trans (by decide)
    · rcases h2' with rfl | rfl | rfl | rfl | rfl
      · rw [ad_TooMany, ad_NoBoard]; exact xx_TooMany_NoBoard.trans (by decide)
      · rw [ad_TooMany, ad_NoNumber]; exact xx_TooMany_NoNumber.trans (by decide)
      · rw [ad_TooMany, ad_NoSquare]; exact xx_TooMany_NoSquare.trans (by decide)
      · rw [ad_TooMany, ad_TooGreat]; exact xx_TooMany_TooGreat.trans (by decide)
      · rw [ad_TooMany]; exact xx_TooMany_TooMany.trans (by decide)
  have EQN : EqNA K ω := fun nm hnm => by
    have hnm' : nm = "NoBoard" ∨ nm = "NoNumber" ∨ nm = "NoSquare" ∨ nm = "TooGreat" ∨ nm = "TooMany" := hnm
    rcases hnm' with rfl | rfl | rfl | rfl | rfl
    · rw [ad_NoBoard]; exact ⟨xq1_NoBoard, xq4_NoBoard, xq2_NoBoard, xq5_NoBoard⟩
    · rw [ad_NoNumber]; exact ⟨xq1_NoNumber, xq4_NoNumber, xq2_NoNumber, xq5_NoNumber⟩
    · rw [ad_NoSquare]; exact ⟨xq1_NoSquare, xq4_NoSquare, xq2_NoSquare, xq5_NoSquare⟩
    · rw [ad_TooGreat]; exact ⟨xq1_TooGreat, xq4_TooGreat, xq2_TooGreat, xq5_TooGreat⟩
    · rw [ad_TooMany]; exact ⟨xq1_TooMany, xq4_TooMany, xq2_TooMany, xq5_TooMany⟩
  have T : Txt ⟨P, w, K, mg, base⟩ ω := { n_bool := PySem.W.mg_none_of X G z_bool, n_dict := PySem.W.mg_none_of X G z_dict, n_int := PySem.W.mg_none_of X G z_int, n_isinstance := PySem.W.mg_none_of X G z_isinstance, n_len := PySem.W.mg_none_of X G z_len, n_list := PySem.W.mg_none_of X G z_list, n_max := PySem.W.mg_none_of X G z_max, n_min := PySem.W.mg_none_of X G z_min, n_range := PySem.W.mg_none_of X G z_range, n_repr := PySem.W.mg_none_of X G z_repr, n_set := PySem.W.mg_none_of X G z_set, n_sorted := PySem.W.mg_none_of X G z_sorted, n_sum := PySem.W.mg_none_of X G z_sum, n_tuple := PySem.W.mg_none_of X G z_tuple, k_MOST := y_MOST, k_MOST_MANY := ⟨_, PySem.W.mg_of X G v_MOST_MANY, ⟨_, rfl⟩⟩, k_MOST_NUMBER := ⟨_, PySem.W.mg_of X G v_MOST_NUMBER, ⟨_, rfl⟩⟩, k_MOST_PUT := ⟨_, PySem.W.mg_of X G v_MOST_PUT, ⟨_, rfl⟩⟩, k_MOST_SIDE := ⟨_, PySem.W.mg_of X G v_MOST_SIDE, ⟨_, rfl⟩⟩, k_SIDE := ⟨_, PySem.W.mg_of X G v_SIDE, ⟨_, rfl⟩⟩, kn := KN, ke := KE, ic_Board := IC_Board, g_Board := by rw [ad_Board]; exact PySem.W.mg_of X G ca_Board, ki_Board := by show ("Board" : Str) = "Board"; simp, ne_Board := by rw [ad_Board]; exact ⟨cm_Board, cn_Board⟩, na_Board_columns := by rw [ad_Board]; exact na_Board_columns, na_Board_kept := by rw [ad_Board]; exact na_Board_kept, na_Board_lines := by rw [ad_Board]; exact na_Board_lines, na_Board_total := by rw [ad_Board]; exact na_Board_total, x_NoBoard := by rw [ad_NoBoard]; exact M_NoBoard, kc_NoBoard := by show ("NoBoard" : Str) = "NoBoard" ∨ ("NoBoard" : Str) = "NoNumber" ∨ ("NoBoard" : Str) = "NoSquare" ∨ ("NoBoard" : Str) = "TooGreat" ∨ ("NoBoard" : Str) = "TooMany"; simp, g_NoBoard := by rw [ad_NoBoard]; exact PySem.W.mg_of X G xa_NoBoard, xf_NoBoard := by rw [ad_NoBoard]; exact ⟨xga_NoBoard, xgg_NoBoard, xe_NoBoard, xhd_NoBoard⟩, no_NoBoard := by rw [ad_NoBoard]; exact xf_NoBoard, x_NoNumber := by rw [ad_NoNumber]; exact M_NoNumber, kc_NoNumber := by show ("NoNumber" : Str) = "NoBoard" ∨ ("NoNumber" : Str) = "NoNumber" ∨ ("NoNumber" : Str) = "NoSquare" ∨ ("NoNumber" : Str) = "TooGreat" ∨ ("NoNumber" : Str) = "TooMany"; simp, g_NoNumber := by rw [ad_NoNumber]; exact PySem.W.mg_of X G xa_NoNumber, xf_NoNumber := by rw [ad_NoNumber]; exact ⟨xga_NoNumber, xgg_NoNumber, xe_NoNumber, xhd_NoNumber⟩, no_NoNumber := by rw [ad_NoNumber]; exact xf_NoNumber, x_NoSquare := by rw [ad_NoSquare]; exact M_NoSquare, kc_NoSquare := by show ("NoSquare" : Str) = "NoBoard" ∨ ("NoSquare" : Str) = "NoNumber" ∨ ("NoSquare" : Str) = "NoSquare" ∨ ("NoSquare" : Str) = "TooGreat" ∨ ("NoSquare" : Str) = "TooMany"; simp, g_NoSquare := by rw [ad_NoSquare]; exact PySem.W.mg_of X G xa_NoSquare, xf_NoSquare := by rw [ad_NoSquare]; exact ⟨xga_NoSquare, xgg_NoSquare, xe_NoSquare, xhd_NoSquare⟩, no_NoSquare := by rw [ad_NoSquare]; exact xf_NoSquare, x_TooGreat := by rw [ad_TooGreat]; exact M_TooGreat, kc_TooGreat := by show ("TooGreat" : Str) = "NoBoard" ∨ ("TooGreat" : Str) = "NoNumber" ∨ ("TooGreat" : Str) = "NoSquare" ∨ ("TooGreat" : Str) = "TooGreat" ∨ ("TooGreat" : Str) = "TooMany"; simp, g_TooGreat := by rw [ad_TooGreat]; exact PySem.W.mg_of X G xa_TooGreat, xf_TooGreat := by rw [ad_TooGreat]; exact ⟨xga_TooGreat, xgg_TooGreat, xe_TooGreat, xhd_TooGreat⟩, no_TooGreat := by rw [ad_TooGreat]; exact xf_TooGreat, x_TooMany := by rw [ad_TooMany]; exact M_TooMany, kc_TooMany := by show ("TooMany" : Str) = "NoBoard" ∨ ("TooMany" : Str) = "NoNumber" ∨ ("TooMany" : Str) = "NoSquare" ∨ ("TooMany" : Str) = "TooGreat" ∨ ("TooMany" : Str) = "TooMany"; simp, g_TooMany := by rw [ad_TooMany]; exact PySem.W.mg_of X G xa_TooMany, xf_TooMany := by rw [ad_TooMany]; exact ⟨xga_TooMany, xgg_TooMany, xe_TooMany, xhd_TooMany⟩, no_TooMany := by rw [ad_TooMany]; exact xf_TooMany, eqn := EQN }
  have D0 : Df ⟨P, w, K, mg, base⟩ "is_whole" "is_whole" s_is_whole f0 _ := ⟨⟨_, _, _, _, _, _, _, _, _, _, rfl, l0, c0⟩, k0⟩
  have F0 := ok_is_whole T D0 
  have c_is_whole_3 : Cal ⟨P, w, K, mg, base⟩ 1 "is_whole" 3 [] (fun vs _ => vs) (spM ω m_is_whole) := ⟨⟨f0, _, _, (fun us _ => us), F0, PySem.W.mg_of X G a0, k0, ⟨fun s us ws X h1 h2 => match us, ws, h1, h2 with | [_, _, _], [], _, _ => .of_eq rfl, fun r _ => r⟩⟩⟩
  have D1 : Df ⟨P, w, K, mg, base⟩ "need_number" "need_number" s_need_number f1 _ := ⟨⟨_, _, _, _, _, _, _, _, _, _, rfl, l1, c1⟩, k1⟩
  have F1 := ok_need_number T D1 c_is_whole_3
  have c_need_number_3 : Cal ⟨P, w, K, mg, base⟩ 3 "need_number" 3 [] (fun vs _ => vs) (spM ω m_need_number) := ⟨⟨f1, _, _, (fun us _ => us), F1, PySem.W.mg_of X G a1, k1, ⟨fun s us ws X h1 h2 => match us, ws, h1, h2 with | [_, _, _], [], _, _ => .of_eq rfl, fun r _ => r⟩⟩⟩
  have D2 : Df ⟨P, w, K, mg, base⟩ "__init__" "Board.__init__" s_Board_init f2 _ := ⟨⟨_, _, _, _, _, _, _, _, _, _, rfl, l2, c2⟩, k2⟩
  have F2 := ok_Board_init T D2 c_is_whole_3
  have c_Board_new_2 : Mak ⟨P, w, K, mg, base⟩ 3 "Board" (ω.ad "Board") 3 [] (fun vs _ => vs) (spM ω m_Board_init) := by
    rw [ad_Board]; exact ⟨⟨f2, _, _, (fun us _ => us), F2, ⟨ck_Board, ma2, mf2, cq_Board⟩, PySem.W.mg_of X G ca_Board, ⟨fun s us ws X h1 h2 => match us, ws, h1, h2 with | [_, _, _], [], _, _ => .of_eq rfl, fun r _ => r⟩⟩⟩
  have D3 : Df ⟨P, w, K, mg, base⟩ "ones_of" "ones_of" s_ones_of f3 _ := ⟨⟨_, _, _, _, _, _, _, _, _, _, rfl, l3, c3⟩, k3⟩
  have F3 := ok_ones_of T D3 
  have c_ones_of_1 : Cal ⟨P, w, K, mg, base⟩ 2 "ones_of" 1 [] (fun vs _ => vs) (spM ω m_ones_of) := ⟨⟨f3, _, _, (fun us _ => us), F3, PySem.W.mg_of X G a3, k3, ⟨fun s us ws X h1 h2 => match us, ws, h1, h2 with | [_], [], _, _ => .of_eq rfl, fun r _ => r⟩⟩⟩
  have D4 : Df ⟨P, w, K, mg, base⟩ "is_square" "is_square" s_is_square f4 _ := ⟨⟨_, _, _, _, _, _, _, _, _, _, rfl, l4, c4⟩, k4⟩
  have F4 := ok_is_square T D4 c_is_whole_3
  have c_is_square_3 : Cal ⟨P, w, K, mg, base⟩ 2 "is_square" 3 [] (fun vs _ => vs) (spM ω m_is_square) := ⟨⟨f4, _, _, (fun us _ => us), F4, PySem.W.mg_of X G a4, k4, ⟨fun s us ws X h1 h2 => match us, ws, h1, h2 with | [_, _, _], [], _, _ => .of_eq rfl, fun r _ => r⟩⟩⟩
  have D5 : Df ⟨P, w, K, mg, base⟩ "has_square" "Board.has_square" s_Board_has_square f5 _ := ⟨⟨_, _, _, _, _, _, _, _, _, _, rfl, l5, c5⟩, k5⟩
  have F5 := ok_Board_has_square T D5 c_is_square_3
  have c_Board_has_square_1 : Met ⟨P, w, K, mg, base⟩ 3 (ω.ad "Board") "has_square" 2 [] (fun vs _ => vs) (spM ω m_Board_has_square) := by
    rw [ad_Board]; exact ⟨CL_Board, ⟨f5, _, _, (fun us _ => us), F5, ⟨ma5, mf5, k5⟩, ⟨fun s us ws X h1 h2 => match us, ws, h1, h2 with | [_, _], [], _, _ => .of_eq rfl, fun r _ => r⟩⟩⟩
  have D6 : Df ⟨P, w, K, mg, base⟩ "need_square" "Board.need_square" s_Board_need_square f6 _ := ⟨⟨_, _, _, _, _, _, _, _, _, _, rfl, l6, c6⟩, k6⟩
  have F6 := ok_Board_need_square T D6 c_Board_has_square_1
  have c_Board_need_square_1 : Met ⟨P, w, K, mg, base⟩ 4 (ω.ad "Board") "need_square" 2 [] (fun vs _ => vs) (spM ω m_Board_need_square) := by
    rw [ad_Board]; exact ⟨CL_Board, ⟨f6, _, _, (fun us _ => us), F6, ⟨ma6, mf6, k6⟩, ⟨fun s us ws X h1 h2 => match us, ws, h1, h2 with | [_, _], [], _, _ => .of_eq rfl, fun r _ => r⟩⟩⟩
  have D7 : Df ⟨P, w, K, mg, base⟩ "many" "Board.many" s_Board_many f7 _ := ⟨⟨_, _, _, _, _, _, _, _, _, _, rfl, l7, c7⟩, k7⟩
  have F7 := ok_Board_many T D7 
  have c_Board_many_0 : Met ⟨P, w, K, mg, base⟩ 1 (ω.ad "Board") "many" 1 [] (fun vs _ => vs) (spM ω m_Board_many) := by
    rw [ad_Board]; exact ⟨CL_Board, ⟨f7, _, _, (fun us _ => us), F7, ⟨ma7, mf7, k7⟩, ⟨fun s us ws X h1 h2 => match us, ws, h1, h2 with | [_], [], _, _ => .of_eq rfl, fun r _ => r⟩⟩⟩
  have D8 : Df ⟨P, w, K, mg, base⟩ "more" "Board.more" s_Board_more f8 _ := ⟨⟨_, _, _, _, _, _, _, _, _, _, rfl, l8, c8⟩, k8⟩
  have F8 := ok_Board_more T D8 
  have c_Board_more_2 : Met ⟨P, w, K, mg, base⟩ 2 (ω.ad "Board") "more" 3 [] (fun vs _ => vs) (spM ω m_Board_more) := by
    rw [ad_Board]; exact ⟨CL_Board, ⟨f8, _, _, (fun us _ => us), F8, ⟨ma8, mf8, k8⟩, ⟨fun s us ws X h1 h2 => match us, ws, h1, h2 with | [_, _, _], [], _, _ => .of_eq rfl, fun r _ => r⟩⟩⟩
  have D9 : Df ⟨P, w, K, mg, base⟩ "put" "Board.put" s_Board_put f9 _ := ⟨⟨_, _, _, _, _, _, _, _, _, _, rfl, l9, c9⟩, k9⟩
  have F9 := ok_Board_put T D9 c_Board_need_square_1 c_is_whole_3 c_Board_many_0 c_Board_more_2
  have c_Board_put_1 : Met ⟨P, w, K, mg, base⟩ 5 (ω.ad "Board") "put" 2 [] (fun vs ws => pick [0, 1, 2] (vs ++ ws ++ [.int 1])) (spM ω m_Board_put) := by
    rw [ad_Board]; exact ⟨CL_Board, ⟨f9, _, _, (fun us ws => pick [0, 1, 2] (us ++ ws ++ [.int 1 dt9_0])), F9, ⟨ma9, mf9, k9⟩, ⟨fun s us ws X h1 h2 => match us, ws, h1, h2 with | [_, _], [], _, _ => .of_defaults rfl (X _ _ dl9) rfl rfl rfl, fun r1 r2 => vals_pick ((r1.append r2).append (.cons rel_int .nil)) _⟩⟩⟩
  have D10 : Df ⟨P, w, K, mg, base⟩ "product" "product" s_product f10 _ := ⟨⟨_, _, _, _, _, _, _, _, _, _, rfl, l10, c10⟩, k10⟩
  have F10 := ok_product T D10 c_need_number_3 c_Board_new_2 c_ones_of_1 c_Board_put_1
  have c_product_2 : Cal ⟨P, w, K, mg, base⟩ 6 "product" 2 [] (fun vs _ => vs) (spM ω m_product) := ⟨⟨f10, _, _, (fun us _ => us), F10, PySem.W.mg_of X G a10, k10, ⟨fun s us ws X h1 h2 => match us, ws, h1, h2 with | [_, _], [], _, _ => .of_eq rfl, fun r _ => r⟩⟩⟩
  have D11 : Df ⟨P, w, K, mg, base⟩ "root" "root" s_root f11 _ := ⟨⟨_, _, _, _, _, _, _, _, _, _, rfl, l11, c11⟩, k11⟩
  have F11 := ok_root T D11 c_need_number_3 c_product_2
  have c_root_1 : Cal ⟨P, w, K, mg, base⟩ 7 "root" 1 [] (fun vs _ => vs) (spM ω m_root) := ⟨⟨f11, _, _, (fun us _ => us), F11, PySem.W.mg_of X G a11, k11, ⟨fun s us ws X h1 h2 => match us, ws, h1, h2 with | [_], [], _, _ => .of_eq rfl, fun r _ => r⟩⟩⟩
  have D12 : Df ⟨P, w, K, mg, base⟩ "_law_just" "_law_just" s_law_just f12 _ := ⟨⟨_, _, _, _, _, _, _, _, _, _, rfl, l12, c12⟩, k12⟩
  have F12 := ok_law_just T D12 
  have c_law_just_2 : Cal ⟨P, w, K, mg, base⟩ 2 "_law_just" 2 [] (fun vs _ => vs) (spM ω m_law_just) := ⟨⟨f12, _, _, (fun us _ => us), F12, PySem.W.mg_of X G a12, k12, ⟨fun s us ws X h1 h2 => match us, ws, h1, h2 with | [_, _], [], _, _ => .of_eq rfl, fun r _ => r⟩⟩⟩
  have D13 : Df ⟨P, w, K, mg, base⟩ "need_board" "need_board" s_need_board f13 _ := ⟨⟨_, _, _, _, _, _, _, _, _, _, rfl, l13, c13⟩, k13⟩
  have F13 := ok_need_board T D13 
  have c_need_board_1 : Cal ⟨P, w, K, mg, base⟩ 3 "need_board" 1 [] (fun vs _ => vs) (spM ω m_need_board) := ⟨⟨f13, _, _, (fun us _ => us), F13, PySem.W.mg_of X G a13, k13, ⟨fun s us ws X h1 h2 => match us, ws, h1, h2 with | [_], [], _, _ => .of_eq rfl, fun r _ => r⟩⟩⟩
  have D14 : Df ⟨P, w, K, mg, base⟩ "counters" "Board.counters" s_Board_counters f14 _ := ⟨⟨_, _, _, _, _, _, _, _, _, _, rfl, l14, c14⟩, k14⟩
  have F14 := ok_Board_counters T D14 
  have c_Board_counters_0 : Met ⟨P, w, K, mg, base⟩ 2 (ω.ad "Board") "counters" 1 [] (fun vs _ => vs) (spM ω m_Board_counters) := by
    rw [ad_Board]; exact ⟨CL_Board, ⟨f14, _, _, (fun us _ => us), F14, ⟨ma14, mf14, k14⟩, ⟨fun s us ws X h1 h2 => match us, ws, h1, h2 with | [_], [], _, _ => .of_eq rfl, fun r _ => r⟩⟩⟩
  have D15 : Df ⟨P, w, K, mg, base⟩ "factors" "factors" s_factors f15 _ := ⟨⟨_, _, _, _, _, _, _, _, _, _, rfl, l15, c15⟩, k15⟩
  have F15 := ok_factors T D15 c_need_board_1 c_Board_counters_0 c_Board_many_0
  have c_factors_1 : Cal ⟨P, w, K, mg, base⟩ 4 "factors" 1 [] (fun vs _ => vs) (spM ω m_factors) := ⟨⟨f15, _, _, (fun us _ => us), F15, PySem.W.mg_of X G a15, k15, ⟨fun s us ws X h1 h2 => match us, ws, h1, h2 with | [_], [], _, _ => .of_eq rfl, fun r _ => r⟩⟩⟩
  have D16 : Df ⟨P, w, K, mg, base⟩ "__eq__" "Board.__eq__" s_Board_eq f16 _ := ⟨⟨_, _, _, _, _, _, _, _, _, _, rfl, l16, c16⟩, k16⟩
  have F16 := ok_Board_eq T D16 
  have c_Board_eq_1 : Met ⟨P, w, K, mg, base⟩ 2 (ω.ad "Board") "__eq__" 2 [] (fun vs _ => vs) (spM ω m_Board_eq) := by
    rw [ad_Board]; exact ⟨CL_Board, ⟨f16, _, _, (fun us _ => us), F16, ⟨ma16, mf16, k16⟩, ⟨fun s us ws X h1 h2 => match us, ws, h1, h2 with | [_, _], [], _, _ => .of_eq rfl, fun r _ => r⟩⟩⟩
  have D17 : Df ⟨P, w, K, mg, base⟩ "is_pair" "is_pair" s_is_pair f17 _ := ⟨⟨_, _, _, _, _, _, _, _, _, _, rfl, l17, c17⟩, k17⟩
  have F17 := ok_is_pair T D17 c_is_whole_3
  have c_is_pair_1 : Cal ⟨P, w, K, mg, base⟩ 2 "is_pair" 1 [] (fun vs _ => vs) (spM ω m_is_pair) := ⟨⟨f17, _, _, (fun us _ => us), F17, PySem.W.mg_of X G a17, k17, ⟨fun s us ws X h1 h2 => match us, ws, h1, h2 with | [_], [], _, _ => .of_eq rfl, fun r _ => r⟩⟩⟩
  have D18 : Df ⟨P, w, K, mg, base⟩ "shows_root" "shows_root" s_shows_root f18 _ := ⟨⟨_, _, _, _, _, _, _, _, _, _, rfl, l18, c18⟩, k18⟩
  have F18 := ok_shows_root T D18 c_need_number_3 c_is_pair_1 c_factors_1
  have c_shows_root_2 : Cal ⟨P, w, K, mg, base⟩ 5 "shows_root" 2 [] (fun vs _ => vs) (spM ω m_shows_root) := ⟨⟨f18, _, _, (fun us _ => us), F18, PySem.W.mg_of X G a18, k18, ⟨fun s us ws X h1 h2 => match us, ws, h1, h2 with | [_, _], [], _, _ => .of_eq rfl, fun r _ => r⟩⟩⟩
  have D19 : Df ⟨P, w, K, mg, base⟩ "_law_root_right" "_law_root_right" s_law_root_right f19 _ := ⟨⟨_, _, _, _, _, _, _, _, _, _, rfl, l19, c19⟩, k19⟩
  have F19 := ok_law_root_right T D19 c_product_2 c_root_1 c_law_just_2 c_factors_1 c_Board_eq_1 c_shows_root_2
  have c_law_root_right_2 : Cal ⟨P, w, K, mg, base⟩ 8 "_law_root_right" 2 [] (fun vs _ => vs) (spM ω m_law_root_right) := ⟨⟨f19, _, _, (fun us _ => us), F19, PySem.W.mg_of X G a19, k19, ⟨fun s us ws X h1 h2 => match us, ws, h1, h2 with | [_, _], [], _, _ => .of_eq rfl, fun r _ => r⟩⟩⟩
  have D20 : Df ⟨P, w, K, mg, base⟩ "steps" "steps" s_steps f20 _ := ⟨⟨_, _, _, _, _, _, _, _, _, _, rfl, l20, c20⟩, k20⟩
  have F20 := ok_steps T D20 c_need_number_3
  have c_steps_2 : Cal ⟨P, w, K, mg, base⟩ 4 "steps" 2 [] (fun vs _ => vs) (spM ω m_steps) := ⟨⟨f20, _, _, (fun us _ => us), F20, PySem.W.mg_of X G a20, k20, ⟨fun s us ws X h1 h2 => match us, ws, h1, h2 with | [_, _], [], _, _ => .of_eq rfl, fun r _ => r⟩⟩⟩
  have D21 : Df ⟨P, w, K, mg, base⟩ "quotient" "quotient" s_quotient f21 _ := ⟨⟨_, _, _, _, _, _, _, _, _, _, rfl, l21, c21⟩, k21⟩
  have F21 := ok_quotient T D21 c_steps_2 c_product_2
  have c_quotient_2 : Cal ⟨P, w, K, mg, base⟩ 7 "quotient" 2 [] (fun vs _ => vs) (spM ω m_quotient) := ⟨⟨f21, _, _, (fun us _ => us), F21, PySem.W.mg_of X G a21, k21, ⟨fun s us ws X h1 h2 => match us, ws, h1, h2 with | [_, _], [], _, _ => .of_eq rfl, fun r _ => r⟩⟩⟩
  have D22 : Df ⟨P, w, K, mg, base⟩ "worth" "Board.worth" s_Board_worth f22 _ := ⟨⟨_, _, _, _, _, _, _, _, _, _, rfl, l22, c22⟩, k22⟩
  have F22 := ok_Board_worth T D22 
  have c_Board_worth_0 : Met ⟨P, w, K, mg, base⟩ 2 (ω.ad "Board") "worth" 1 [] (fun vs _ => vs) (spM ω m_Board_worth) := by
    rw [ad_Board]; exact ⟨CL_Board, ⟨f22, _, _, (fun us _ => us), F22, ⟨ma22, mf22, k22⟩, ⟨fun s us ws X h1 h2 => match us, ws, h1, h2 with | [_], [], _, _ => .of_eq rfl, fun r _ => r⟩⟩⟩
  have D23 : Df ⟨P, w, K, mg, base⟩ "shows_quotient" "shows_quotient" s_shows_quotient f23 _ := ⟨⟨_, _, _, _, _, _, _, _, _, _, rfl, l23, c23⟩, k23⟩
  have F23 := ok_shows_quotient T D23 c_need_number_3 c_is_pair_1 c_factors_1
  have c_shows_quotient_3 : Cal ⟨P, w, K, mg, base⟩ 5 "shows_quotient" 3 [] (fun vs _ => vs) (spM ω m_shows_quotient) := ⟨⟨f23, _, _, (fun us _ => us), F23, PySem.W.mg_of X G a23, k23, ⟨fun s us ws X h1 h2 => match us, ws, h1, h2 with | [_, _, _], [], _, _ => .of_eq rfl, fun r _ => r⟩⟩⟩
  have D24 : Df ⟨P, w, K, mg, base⟩ "places_of" "places_of" s_places_of f24 _ := ⟨⟨_, _, _, _, _, _, _, _, _, _, rfl, l24, c24⟩, k24⟩
  have F24 := ok_places_of T D24 c_is_whole_3 c_ones_of_1
  have c_places_of_1 : Cal ⟨P, w, K, mg, base⟩ 3 "places_of" 1 [] (fun vs _ => vs) (spM ω m_places_of) := ⟨⟨f24, _, _, (fun us _ => us), F24, PySem.W.mg_of X G a24, k24, ⟨fun s us ws X h1 h2 => match us, ws, h1, h2 with | [_], [], _, _ => .of_eq rfl, fun r _ => r⟩⟩⟩
  have D25 : Df ⟨P, w, K, mg, base⟩ "_law_right" "_law_right" s_law_right f25 _ := ⟨⟨_, _, _, _, _, _, _, _, _, _, rfl, l25, c25⟩, k25⟩
  have F25 := ok_law_right T D25 c_product_2 c_quotient_2 c_law_just_2 c_Board_worth_0 c_Board_eq_1 c_shows_quotient_3 c_steps_2 c_places_of_1
  have c_law_right_3 : Cal ⟨P, w, K, mg, base⟩ 8 "_law_right" 3 [] (fun vs _ => vs) (spM ω m_law_right) := ⟨⟨f25, _, _, (fun us _ => us), F25, PySem.W.mg_of X G a25, k25, ⟨fun s us ws X h1 h2 => match us, ws, h1, h2 with | [_, _, _], [], _, _ => .of_eq rfl, fun r _ => r⟩⟩⟩
  have D26 : Df ⟨P, w, K, mg, base⟩ "_law_box" "_law_box" s_law_box f26 _ := ⟨⟨_, _, _, _, _, _, _, _, _, _, rfl, l26, c26⟩, k26⟩
  have F26 := ok_law_box T D26 
  have c_law_box_1 : Cal ⟨P, w, K, mg, base⟩ 1 "_law_box" 1 [] (fun vs _ => vs) (spM ω m_law_box) := ⟨⟨f26, _, _, (fun us _ => us), F26, PySem.W.mg_of X G a26, k26, ⟨fun s us ws X h1 h2 => match us, ws, h1, h2 with | [_], [], _, _ => .of_eq rfl, fun r _ => r⟩⟩⟩
  have D27 : Df ⟨P, w, K, mg, base⟩ "_law_cell" "_law_cell" s_law_cell f27 _ := ⟨⟨_, _, _, _, _, _, _, _, _, _, rfl, l27, c27⟩, k27⟩
  have F27 := ok_law_cell T D27 
  have c_law_cell_2 : Cal ⟨P, w, K, mg, base⟩ 1 "_law_cell" 2 [] (fun vs _ => vs) (spM ω m_law_cell) := ⟨⟨f27, _, _, (fun us _ => us), F27, PySem.W.mg_of X G a27, k27, ⟨fun s us ws X h1 h2 => match us, ws, h1, h2 with | [_, _], [], _, _ => .of_eq rfl, fun r _ => r⟩⟩⟩
  have D28 : Df ⟨P, w, K, mg, base⟩ "_law_take" "_law_take" s_law_take f28 _ := ⟨⟨_, _, _, _, _, _, _, _, _, _, rfl, l28, c28⟩, k28⟩
  have F28 := ok_law_take T D28 
  have c_law_take_2 : Cal ⟨P, w, K, mg, base⟩ 1 "_law_take" 2 [] (fun vs _ => vs) (spM ω m_law_take) := ⟨⟨f28, _, _, (fun us _ => us), F28, PySem.W.mg_of X G a28, k28, ⟨fun s us ws X h1 h2 => match us, ws, h1, h2 with | [_, _], [], _, _ => .of_eq rfl, fun r _ => r⟩⟩⟩
  have D29 : Df ⟨P, w, K, mg, base⟩ "_law_number" "_law_number" s_law_number f29 _ := ⟨⟨_, _, _, _, _, _, _, _, _, _, rfl, l29, c29⟩, k29⟩
  have F29 := ok_law_number T D29 c_law_take_2
  have c_law_number_2 : Cal ⟨P, w, K, mg, base⟩ 2 "_law_number" 2 [] (fun vs _ => vs) (spM ω m_law_number) := ⟨⟨f29, _, _, (fun us _ => us), F29, PySem.W.mg_of X G a29, k29, ⟨fun s us ws X h1 h2 => match us, ws, h1, h2 with | [_, _], [], _, _ => .of_eq rfl, fun r _ => r⟩⟩⟩
  have D30 : Df ⟨P, w, K, mg, base⟩ "law" "law" s_law fa _ := ⟨⟨_, _, _, _, _, _, _, _, _, _, rfl, l30, c30⟩, k30⟩
  have F30 := ok_law T D30 c_law_root_right_2 c_law_right_3 c_law_box_1 c_law_cell_2 c_law_number_2 c_law_take_2
  exact law_end F30 rfl law_is
end Z
open PySem PySem.W PyProof.Rows
set_option maxHeartbeats 0 in
theorem PySem.Challenge.cw_slantworth_k51_whole_quotients_undo_prod_holds : PySem.Challenge.rw_slantworth_k51_whole_quotients_undo_prod.Holds := by
  w_on; o_law; k_head; (case hw => w_witness2)
  k_fill
  refine Z.z_walk (l := PySem.Challenge.rw_slantworth_k51_whole_quotients_undo_prod) (k := 9) (x := "script") rfl rfl ?R (fun w h Y => PySem.W.kIn_of Y) ?F
  case R => exact ⟨⟨by decide, by decide, by decide⟩, rfl⟩
  case F =>
    intro w mg fa h KX G XP hmg
    have y_MOST : ∃ u, mg "MOST" = some u ∧ L2.RelV (L2.V.int (10 ^ 60)) u := by
      obtain ⟨v, hv, rv⟩ := XP.2.val _ (List.Mem.head _)
      obtain ⟨t, e, _⟩ := readsW_int_inv rv
      subst e
      exact ⟨_, hv, t, congrArg (fun z => Value.int z t) (by decide)⟩
    refine' Z.all_mk KX G hmg y_MOST ?ca_Board ?cp_Board ?cd_Board ?co_Board ?cs_Board ?cc_Board ?cm_Board ?ck_Board ?cq_Board ?x6int_Board ?x6bool_Board ?x6str_Board ?x6list_Board ?x6tuple_Board ?x6dict_Board ?x7NoneType_Board ?x7bool_Board ?x7int_Board ?x7str_Board ?x7list_Board ?x7tuple_Board ?x7dict_Board ?cn_Board ?na_Board_columns ?na_Board_kept ?na_Board_lines ?na_Board_total ?a0 ?l0 ?c0 ?k0 ?a1 ?l1 ?c1 ?k1 ?ma2 ?mf2 ?l2 ?c2 ?k2 ?a3 ?l3 ?c3 ?k3 ?a4 ?l4 ?c4 ?k4 ?ma5 ?mf5 ?l5 ?c5 ?k5 ?ma6 ?mf6 ?l6 ?c6 ?k6 ?ma7 ?mf7 ?l7 ?c7 ?k7 ?ma8 ?mf8 ?l8 ?c8 ?k8 ?ma9 ?mf9 ?l9 ?dl9 ?c9 ?k9 ?a10 ?l10 ?c10 ?k10 ?a11 ?l11 ?c11 ?k11 ?a12 ?l12 ?c12 ?k12 ?a13 ?l13 ?c13 ?k13 ?ma14 ?mf14 ?l14 ?c14 ?k14 ?a15 ?l15 ?c15 ?k15 ?ma16 ?mf16 ?l16 ?c16 ?k16 ?a17 ?l17 ?c17 ?k17 ?a18 ?l18 ?c18 ?k18 ?a19 ?l19 ?c19 ?k19 ?a20 ?l20 ?c20 ?k20 ?a21 ?l21 ?c21 ?k21 ?ma22 ?mf22 ?l22 ?c22 ?k22 ?a23 ?l23 ?c23 ?k23 ?a24 ?l24 ?c24 ?k24 ?a25 ?l25 ?c25 ?k25 ?a26 ?l26 ?c26 ?k26 ?a27 ?l27 ?c27 ?k27 ?a28 ?l28 ?c28 ?k28 ?a29 ?l29 ?c29 ?k29 ?a30 ?l30 ?c30 ?k30 ?z_bool ?z_dict ?z_int ?z_isinstance ?z_len ?z_list ?z_max ?z_min ?z_range ?z_repr ?z_set ?z_sorted ?z_sum ?z_tuple ?v_MOST_MANY ?v_MOST_NUMBER ?v_MOST_PUT ?v_MOST_SIDE ?v_SIDE ?xo1 ?xo2 ?ba_SlantError ?bg_SlantError ?br_SlantError ?bi_SlantError ?xa_NoBoard ?xl_NoBoard ?xb_NoBoard ?xs_NoBoard ?xe_NoBoard ?xt_NoBoard ?xk_NoBoard ?xr_NoBoard ?xc_NoBoard ?xga_NoBoard ?xgg_NoBoard ?xhd_NoBoard ?xha_NoBoard ?xhm_NoBoard ?xq4_NoBoard ?xq5_NoBoard ?xq1_NoBoard ?xq2_NoBoard ?xq3_NoBoard ?xn_NoBoard ?x6int_NoBoard ?x6bool_NoBoard ?x6str_NoBoard ?x6list_NoBoard ?x6tuple_NoBoard ?x6dict_NoBoard ?xi_NoBoard ?lI_NoBoard ?cI_NoBoard ?kI_NoBoard ?xit_NoBoard ?xf_NoBoard ?xa_NoNumber ?xl_NoNumber ?xb_NoNumber ?xs_NoNumber ?xe_NoNumber ?xt_NoNumber ?xk_NoNumber ?xr_NoNumber ?xc_NoNumber ?xga_NoNumber ?xgg_NoNumber ?xhd_NoNumber ?xha_NoNumber ?xhm_NoNumber ?xq4_NoNumber ?xq5_NoNumber ?xq1_NoNumber ?xq2_NoNumber ?xq3_NoNumber ?xn_NoNumber ?x6int_NoNumber ?x6bool_NoNumber ?x6str_NoNumber ?x6list_NoNumber ?x6tuple_NoNumber ?x6dict_NoNumber ?xi_NoNumber ?lI_NoNumber ?cI_NoNumber ?kI_NoNumber ?xit_NoNumber ?xf_NoNumber ?xa_NoSquare ?xl_NoSquare ?xb_NoSquare ?xs_NoSquare ?xe_NoSquare ?xt_NoSquare ?xk_NoSquare ?xr_NoSquare ?xc_NoSquare ?xga_NoSquare ?xgg_NoSquare ?xhd_NoSquare ?xha_NoSquare ?xhm_NoSquare ?xq4_NoSquare ?xq5_NoSquare ?xq1_NoSquare ?xq2_NoSquare ?xq3_NoSquare ?xn_NoSquare ?x6int_NoSquare ?x6bool_NoSquare ?x6str_NoSquare ?x6list_NoSquare ?x6tuple_NoSquare ?x6dict_NoSquare ?xi_NoSquare ?lI_NoSquare ?cI_NoSquare ?kI_NoSquare ?xit_NoSquare ?xf_NoSquare ?xa_TooGreat ?xl_TooGreat ?xb_TooGreat ?xs_TooGreat ?xe_TooGreat ?xt_TooGreat ?xk_TooGreat ?xr_TooGreat ?xc_TooGreat ?xga_TooGreat ?xgg_TooGreat ?xhd_TooGreat ?xha_TooGreat ?xhm_TooGreat ?xq4_TooGreat ?xq5_TooGreat ?xq1_TooGreat ?xq2_TooGreat ?xq3_TooGreat ?xn_TooGreat ?x6int_TooGreat ?x6bool_TooGreat ?x6str_TooGreat ?x6list_TooGreat ?x6tuple_TooGreat ?x6dict_TooGreat ?xi_TooGreat ?lI_TooGreat ?cI_TooGreat ?kI_TooGreat ?xit_TooGreat ?xf_TooGreat ?xa_TooMany ?xl_TooMany ?xb_TooMany ?xs_TooMany ?xe_TooMany ?xt_TooMany ?xk_TooMany ?xr_TooMany ?xc_TooMany ?xga_TooMany ?xgg_TooMany ?xhd_TooMany ?xha_TooMany ?xhm_TooMany ?xq4_TooMany ?xq5_TooMany ?xq1_TooMany ?xq2_TooMany ?xq3_TooMany ?xn_TooMany ?x6int_TooMany ?x6bool_TooMany ?x6str_TooMany ?x6list_TooMany ?x6tuple_TooMany ?x6dict_TooMany ?xi_TooMany ?lI_TooMany ?cI_TooMany ?kI_TooMany ?xit_TooMany ?xf_TooMany ?xx_NoBoard_NoBoard ?xx_NoBoard_NoNumber ?xx_NoBoard_NoSquare ?xx_NoBoard_TooGreat ?xx_NoBoard_TooMany ?xx_NoNumber_NoBoard ?xx_NoNumber_NoNumber ?xx_NoNumber_NoSquare ?xx_NoNumber_TooGreat ?xx_NoNumber_TooMany ?xx_NoSquare_NoBoard ?xx_NoSquare_NoNumber ?xx_NoSquare_NoSquare ?xx_NoSquare_TooGreat ?xx_NoSquare_TooMany ?xx_TooGreat_NoBoard ?xx_TooGreat_NoNumber ?xx_TooGreat_NoSquare ?xx_TooGreat_TooGreat ?xx_TooGreat_TooMany ?xx_TooMany_NoBoard ?xx_TooMany_NoNumber ?xx_TooMany_NoSquare ?xx_TooMany_TooGreat ?xx_TooMany_TooMany ?x8NoBoard_Board ?x8NoNumber_Board ?x8NoSquare_Board ?x8TooGreat_Board ?x8TooMany_Board ?x9Board_Board
    (case ca_Board => k_is)
    (case cp_Board => k_is)
    (case cd_Board => k_is)
    (case co_Board => k_is)
    (case cs_Board => k_is)
    (case cc_Board => k_is)
    (case cm_Board => k_is)
    (case ck_Board => k_is)
    (case cq_Board => k_is)
    (case x6int_Board => kit_is)
    (case x6bool_Board => kit_is)
    (case x6str_Board => kit_is)
    (case x6list_Board => kit_is)
    (case x6tuple_Board => kit_is)
    (case x6dict_Board => kit_is)
    (case x7NoneType_Board => kit_is)
    (case x7bool_Board => kit_is)
    (case x7int_Board => kit_is)
    (case x7str_Board => kit_is)
    (case x7list_Board => kit_is)
    (case x7tuple_Board => kit_is)
    (case x7dict_Board => kit_is)
    (case cn_Board => k_is)
    (case na_Board_columns => k_is)
    (case na_Board_kept => k_is)
    (case na_Board_lines => k_is)
    (case na_Board_total => k_is)
    (case a0 => k_is)
    (case l0 => k_is)
    (case c0 => k_is)
    (case k0 => k_is)
    (case a1 => k_is)
    (case l1 => k_is)
    (case c1 => k_is)
    (case k1 => k_is)
    (case ma2 => k_is)
    (case mf2 => k_is)
    (case l2 => k_is)
    (case c2 => k_is)
    (case k2 => k_is)
    (case a3 => k_is)
    (case l3 => k_is)
    (case c3 => k_is)
    (case k3 => k_is)
    (case a4 => k_is)
    (case l4 => k_is)
    (case c4 => k_is)
    (case k4 => k_is)
    (case ma5 => k_is)
    (case mf5 => k_is)
    (case l5 => k_is)
    (case c5 => k_is)
    (case k5 => k_is)
    (case ma6 => k_is)
    (case mf6 => k_is)
    (case l6 => k_is)
    (case c6 => k_is)
    (case k6 => k_is)
    (case ma7 => k_is)
    (case mf7 => k_is)
    (case l7 => k_is)
    (case c7 => k_is)
    (case k7 => k_is)
    (case ma8 => k_is)
    (case mf8 => k_is)
    (case l8 => k_is)
    (case c8 => k_is)
    (case k8 => k_is)
    (case ma9 => k_is)
    (case mf9 => k_is)
    (case l9 => k_is)
    (case dl9 => k_is)
    (case c9 => k_is)
    (case k9 => k_is)
    (case a10 => k_is)
    (case l10 => k_is)
    (case c10 => k_is)
    (case k10 => k_is)
    (case a11 => k_is)
    (case l11 => k_is)
    (case c11 => k_is)
    (case k11 => k_is)
    (case a12 => k_is)
    (case l12 => k_is)
    (case c12 => k_is)
    (case k12 => k_is)
    (case a13 => k_is)
    (case l13 => k_is)
    (case c13 => k_is)
    (case k13 => k_is)
    (case ma14 => k_is)
    (case mf14 => k_is)
    (case l14 => k_is)
    (case c14 => k_is)
    (case k14 => k_is)
    (case a15 => k_is)
    (case l15 => k_is)
    (case c15 => k_is)
    (case k15 => k_is)
    (case ma16 => k_is)
    (case mf16 => k_is)
    (case l16 => k_is)
    (case c16 => k_is)
    (case k16 => k_is)
    (case a17 => k_is)
    (case l17 => k_is)
    (case c17 => k_is)
    (case k17 => k_is)
    (case a18 => k_is)
    (case l18 => k_is)
    (case c18 => k_is)
    (case k18 => k_is)
    (case a19 => k_is)
    (case l19 => k_is)
    (case c19 => k_is)
    (case k19 => k_is)
    (case a20 => k_is)
    (case l20 => k_is)
    (case c20 => k_is)
    (case k20 => k_is)
    (case a21 => k_is)
    (case l21 => k_is)
    (case c21 => k_is)
    (case k21 => k_is)
    (case ma22 => k_is)
    (case mf22 => k_is)
    (case l22 => k_is)
    (case c22 => k_is)
    (case k22 => k_is)
    (case a23 => k_is)
    (case l23 => k_is)
    (case c23 => k_is)
    (case k23 => k_is)
    (case a24 => k_is)
    (case l24 => k_is)
    (case c24 => k_is)
    (case k24 => k_is)
    (case a25 => k_is)
    (case l25 => k_is)
    (case c25 => k_is)
    (case k25 => k_is)
    (case a26 => k_is)
    (case l26 => k_is)
    (case c26 => k_is)
    (case k26 => k_is)
    (case a27 => k_is)
    (case l27 => k_is)
    (case c27 => k_is)
    (case k27 => k_is)
    (case a28 => k_is)
    (case l28 => k_is)
    (case c28 => k_is)
    (case k28 => k_is)
    (case a29 => k_is)
    (case l29 => k_is)
    (case c29 => k_is)
    (case k29 => k_is)
    (case a30 => k_is)
    (case l30 => k_is)
    (case c30 => k_is)
    (case k30 => k_is)
    (case z_bool => k_is)
    (case z_dict => k_is)
    (case z_int => k_is)
    (case z_isinstance => k_is)
    (case z_len => k_is)
    (case z_list => k_is)
    (case z_max => k_is)
    (case z_min => k_is)
    (case z_range => k_is)
    (case z_repr => k_is)
    (case z_set => k_is)
    (case z_sorted => k_is)
    (case z_sum => k_is)
    (case z_tuple => k_is)
    (case v_MOST_MANY => k_is)
    (case v_MOST_NUMBER => k_is)
    (case v_MOST_PUT => k_is)
    (case v_MOST_SIDE => k_is)
    (case v_SIDE => k_is)
    (case xo1 => k_is)
    (case xo2 => k_is)
    (case ba_SlantError => k_is)
    (case bg_SlantError => k_is)
    (case br_SlantError => k_is)
    (case bi_SlantError => k_is)
    (case xa_NoBoard => k_is)
    (case xl_NoBoard => k_is)
    (case xb_NoBoard => first | rfl | decide +kernel | k_is)
    (case xs_NoBoard => k_is)
    (case xe_NoBoard => k_is)
    (case xt_NoBoard => k_is)
    (case xk_NoBoard => k_is)
    (case xr_NoBoard => k_is)
    (case xc_NoBoard => k_is)
    (case xga_NoBoard => k_is)
    (case xgg_NoBoard => k_is)
    (case xhd_NoBoard => k_is)
    (case xha_NoBoard => k_is)
    (case xhm_NoBoard => k_is)
    (case xq4_NoBoard => k_is)
    (case xq5_NoBoard => k_is)
    (case xq1_NoBoard => k_is)
    (case xq2_NoBoard => k_is)
    (case xq3_NoBoard => k_is)
    (case xn_NoBoard => first | rfl | decide +kernel | k_is)
    (case x6int_NoBoard => kit_is)
    (case x6bool_NoBoard => kit_is)
    (case x6str_NoBoard => kit_is)
    (case x6list_NoBoard => kit_is)
    (case x6tuple_NoBoard => kit_is)
    (case x6dict_NoBoard => kit_is)
    (case xi_NoBoard => k_is)
    (case lI_NoBoard => k_is)
    (case cI_NoBoard => k_is)
    (case kI_NoBoard => k_is)
    (case xit_NoBoard => k_is)
    (case xf_NoBoard => k_is)
    (case xa_NoNumber => k_is)
    (case xl_NoNumber => k_is)
    (case xb_NoNumber => first | rfl | decide +kernel | k_is)
    (case xs_NoNumber => k_is)
    (case xe_NoNumber => k_is)
    (case xt_NoNumber => k_is)
    (case xk_NoNumber => k_is)
    (case xr_NoNumber => k_is)
    (case xc_NoNumber => k_is)
    (case xga_NoNumber => k_is)
    (case xgg_NoNumber => k_is)
    (case xhd_NoNumber => k_is)
    (case xha_NoNumber => k_is)
    (case xhm_NoNumber => k_is)
    (case xq4_NoNumber => k_is)
    (case xq5_NoNumber => k_is)
    (case xq1_NoNumber => k_is)
    (case xq2_NoNumber => k_is)
    (case xq3_NoNumber => k_is)
    (case xn_NoNumber => first | rfl | decide +kernel | k_is)
    (case x6int_NoNumber => kit_is)
    (case x6bool_NoNumber => kit_is)
    (case x6str_NoNumber => kit_is)
    (case x6list_NoNumber => kit_is)
    (case x6tuple_NoNumber => kit_is)
    (case x6dict_NoNumber => kit_is)
    (case xi_NoNumber => k_is)
    (case lI_NoNumber => k_is)
    (case cI_NoNumber => k_is)
    (case kI_NoNumber => k_is)
    (case xit_NoNumber => k_is)
    (case xf_NoNumber => k_is)
    (case xa_NoSquare => k_is)
    (case xl_NoSquare => k_is)
    (case xb_NoSquare => first | rfl | decide +kernel | k_is)
    (case xs_NoSquare => k_is)
    (case xe_NoSquare => k_is)
    (case xt_NoSquare => k_is)
    (case xk_NoSquare => k_is)
    (case xr_NoSquare => k_is)
    (case xc_NoSquare => k_is)
    (case xga_NoSquare => k_is)
    (case xgg_NoSquare => k_is)
    (case xhd_NoSquare => k_is)
    (case xha_NoSquare => k_is)
    (case xhm_NoSquare => k_is)
    (case xq4_NoSquare => k_is)
    (case xq5_NoSquare => k_is)
    (case xq1_NoSquare => k_is)
    (case xq2_NoSquare => k_is)
    (case xq3_NoSquare => k_is)
    (case xn_NoSquare => first | rfl | decide +kernel | k_is)
    (case x6int_NoSquare => kit_is)
    (case x6bool_NoSquare => kit_is)
    (case x6str_NoSquare => kit_is)
    (case x6list_NoSquare => kit_is)
    (case x6tuple_NoSquare => kit_is)
    (case x6dict_NoSquare => kit_is)
    (case xi_NoSquare => k_is)
    (case lI_NoSquare => k_is)
    (case cI_NoSquare => k_is)
    (case kI_NoSquare => k_is)
    (case xit_NoSquare => k_is)
    (case xf_NoSquare => k_is)
    (case xa_TooGreat => k_is)
    (case xl_TooGreat => k_is)
    (case xb_TooGreat => first | rfl | decide +kernel | k_is)
    (case xs_TooGreat => k_is)
    (case xe_TooGreat => k_is)
    (case xt_TooGreat => k_is)
    (case xk_TooGreat => k_is)
    (case xr_TooGreat => k_is)
    (case xc_TooGreat => k_is)
    (case xga_TooGreat => k_is)
    (case xgg_TooGreat => k_is)
    (case xhd_TooGreat => k_is)
    (case xha_TooGreat => k_is)
    (case xhm_TooGreat => k_is)
    (case xq4_TooGreat => k_is)
    (case xq5_TooGreat => k_is)
    (case xq1_TooGreat => k_is)
    (case xq2_TooGreat => k_is)
    (case xq3_TooGreat => k_is)
    (case xn_TooGreat => first | rfl | decide +kernel | k_is)
    (case x6int_TooGreat => kit_is)
    (case x6bool_TooGreat => kit_is)
    (case x6str_TooGreat => kit_is)
    (case x6list_TooGreat => kit_is)
    (case x6tuple_TooGreat => kit_is)
    (case x6dict_TooGreat => kit_is)
    (case xi_TooGreat => k_is)
    (case lI_TooGreat => k_is)
    (case cI_TooGreat => k_is)
    (case kI_TooGreat => k_is)
    (case xit_TooGreat => k_is)
    (case xf_TooGreat => k_is)
    (case xa_TooMany => k_is)
    (case xl_TooMany => k_is)
    (case xb_TooMany => first | rfl | decide +kernel | k_is)
    (case xs_TooMany => k_is)
    (case xe_TooMany => k_is)
    (case xt_TooMany => k_is)
    (case xk_TooMany => k_is)
    (case xr_TooMany => k_is)
    (case xc_TooMany => k_is)
    (case xga_TooMany => k_is)
    (case xgg_TooMany => k_is)
    (case xhd_TooMany => k_is)
    (case xha_TooMany => k_is)
    (case xhm_TooMany => k_is)
    (case xq4_TooMany => k_is)
    (case xq5_TooMany => k_is)
    (case xq1_TooMany => k_is)
    (case xq2_TooMany => k_is)
    (case xq3_TooMany => k_is)
    (case xn_TooMany => first | rfl | decide +kernel | k_is)
    (case x6int_TooMany => kit_is)
    (case x6bool_TooMany => kit_is)
    (case x6str_TooMany => kit_is)
    (case x6list_TooMany => kit_is)
    (case x6tuple_TooMany => kit_is)
    (case x6dict_TooMany => kit_is)
    (case xi_TooMany => k_is)
    (case lI_TooMany => k_is)
    (case cI_TooMany => k_is)
    (case kI_TooMany => k_is)
    (case xit_TooMany => k_is)
    (case xf_TooMany => k_is)
    (case xx_NoBoard_NoBoard => kts_exm)
    (case xx_NoBoard_NoNumber => kts_exm)
    (case xx_NoBoard_NoSquare => kts_exm)
    (case xx_NoBoard_TooGreat => kts_exm)
    (case xx_NoBoard_TooMany => kts_exm)
    (case xx_NoNumber_NoBoard => kts_exm)
    (case xx_NoNumber_NoNumber => kts_exm)
    (case xx_NoNumber_NoSquare => kts_exm)
    (case xx_NoNumber_TooGreat => kts_exm)
    (case xx_NoNumber_TooMany => kts_exm)
    (case xx_NoSquare_NoBoard => kts_exm)
    (case xx_NoSquare_NoNumber => kts_exm)
    (case xx_NoSquare_NoSquare => kts_exm)
    (case xx_NoSquare_TooGreat => kts_exm)
    (case xx_NoSquare_TooMany => kts_exm)
    (case xx_TooGreat_NoBoard => kts_exm)
    (case xx_TooGreat_NoNumber => kts_exm)
    (case xx_TooGreat_NoSquare => kts_exm)
    (case xx_TooGreat_TooGreat => kts_exm)
    (case xx_TooGreat_TooMany => kts_exm)
    (case xx_TooMany_NoBoard => kts_exm)
    (case xx_TooMany_NoNumber => kts_exm)
    (case xx_TooMany_NoSquare => kts_exm)
    (case xx_TooMany_TooGreat => kts_exm)
    (case xx_TooMany_TooMany => kts_exm)
    (case x8NoBoard_Board => kit_is)
    (case x8NoNumber_Board => kit_is)
    (case x8NoSquare_Board => kit_is)
    (case x8TooGreat_Board => kit_is)
    (case x8TooMany_Board => kit_is)
    (case x9Board_Board => kit_is)
