import PyProof.Rows.All
import Wide.All
import OpenK.AllK
import Wide.FinOn
import PyProof.EqAt
import PyProof.EqKinds
import PyProof.TupleCall
import HandS.ForMost
import HandS.Exc
import HandS.ExcOwn
import HandS.TryMany
import HandS.Defaults
import HandS.IsInst
import PyProof.ReprReads
import PyProof.StrLawsRepr
import PyProof.ReprLen
import HandS.SortInts
import HandS.Wide
import HandS.WideBits
import HandS.TupAny
import HandS.Flow
import HandS.Conv
import PySem.Challenge.RW_slantworth_k06_rows_told
set_option Elab.async false
set_option linter.all false
set_option maxRecDepth 100000
set_option maxHeartbeats 4000000
namespace Z
open PySem PySem.Spec PyProof.Rows L2

abbrev St := L2.St
structure Wd where
  P : Program
  w : World
  K : PySem.W.Frag
  mg : Str → Option Value
  base : Heap
/-- the ground on which a body stands -/
abbrev wdOf (X : Cx) : Wd := { P := X.prog, w := X.w, K := X.K, mg := X.mg, base := X.base }
/-- room, and no guard -/
structure Rm (k : Nat) (A : Around) : Prop where
  r : Room k A
  g : A.guards = some []
theorem Rm.less {j k : Nat} {A : Around} (m : Rm k A) (h : j ≤ k) : Rm j A := { r := m.r.mono h, g := m.g }
theorem Rm.down {k : Nat} {A : Around} (m : Rm (k + 1) A) (env : Env) : Rm k (A.deeper env) := { r := m.r.deeper env, g := m.g }
theorem made_guards {A : Around} {C : Addr} {us : List Value} {kw : List (Str × Value)} (h : A.guards = some []) :
    (A.under (.builtin "type.__call__" ⟨.ref C :: us, kw⟩)).guards = some [] := by
  show pushGuards (Code.guards (.builtin "type.__call__" ⟨.ref C :: us, kw⟩)) A.guards = some []
  rw [h]
  first | rfl | (simp [Code.guards, Code.isGuard, guardIds, pushGuards]; done)
theorem Rm.made {k : Nat} {A : Around} (m : Rm (k + 1) A) (C : Addr) (us : List Value) (kw : List (Str × Value)) :
    Rm k (A.under (.builtin "type.__call__" ⟨.ref C :: us, kw⟩)) := { r := m.r.make C us kw, g := made_guards m.g }

/-- a def's promise -/
structure Fn (W : Wd) (k : Nat) (f : Addr) (fd : FuncData) (ps : List Str) (sp : Sp) : Prop where
  n : ∀ vs H Q E, sp vs H Q E → vs.length = ps.length
  go : ∀ (A : Around) (out : List Env) (s : Shared) (H : Hp) (as : Args) (us : List Value) (vs : List V) (Q : VK) (E : XK),
    Rm k A → Env0 W.P W.w W.K W.mg W.base A out s H → BindsTo s fd as (ps.zip us) → Vals vs us → sp vs H Q E →
    codeAny (model W.P W.w) A (.call (.ref f) as) (CR (L2.CX W.P W.w) out W.P W.w H s Q E) s

/-- what a caller knows of a def by its name: n written values, the keywords ks, put by gV into the parameters' order -/
structure Cal (W : Wd) (k : Nat) (x : Str) (n : Nat) (ks : List Str) (gV : List V → List V → List V) (sp : Sp) : Prop where
  ex : ∃ (f : Addr) (fd : FuncData) (ps : List Str) (g : List Value → List Value → List Value),
    Fn W k f fd ps sp ∧ W.mg x = some (.ref f) ∧ PySem.W.keepIn W.K (.ref f) = true ∧ KBn W.K fd ps n ks g gV
/-- .. of a method of the class at C (the written values begin with the instance) -/
structure Met (W : Wd) (k : Nat) (C : Addr) (m : Str) (n : Nat) (ks : List Str) (gV : List V → List V → List V) (sp : Sp) : Prop where
  cl : Cls W.K C
  ex : ∃ (f : Addr) (fd : FuncData) (ps : List Str) (g : List Value → List Value → List Value),
    Fn W k f fd ps sp ∧ Meth W.K C m f ∧ KBn W.K fd ps n ks g gV
/-- .. of a class with an __init__ -/
structure Mak (W : Wd) (k : Nat) (x : Str) (C : Addr) (n : Nat) (ks : List Str) (gV : List V → List V → List V) (sp : Sp) : Prop where
  ex : ∃ (f : Addr) (fd : FuncData) (ps : List Str) (g : List Value → List Value → List Value),
    Fn W k f fd ps sp ∧ Mk W.K C f ∧ W.mg x = some (.ref C) ∧ KBn W.K fd ps n ks g gV

/-- the reading of a call: t the written arguments, tk the keywords' -/
def tC2 (n m : Nat) (gV : List V → List V → List V) (sp : Sp) (E : St → XK) (t tk : TA) : TE := fun σ H Q =>
  t σ H fun vs H1 => tk σ H1 fun zs H2 => vs.length = n ∧ zs.length = m ∧ sp (gV vs zs) H2 Q (E σ)
def tM2 (C : Addr) (m : Str) (n j : Nat) (gV : List V → List V → List V) (sp : Sp) (E : St → XK) (to : TE) (t tk : TA) : TE := fun σ H Q =>
  to σ H fun x H0 => ∃ a dx fs, x = .ref a ∧ H0 a = some (.ins C dx fs) ∧ fs.lookup m = none ∧
    t σ H0 fun vs H1 => tk σ H1 fun zs H2 => vs.length + 1 = n ∧ zs.length = j ∧ sp (gV (x :: vs) zs) H2 Q (E σ)
def tK2 (C : Addr) (n m : Nat) (gV : List V → List V → List V) (sp : Sp) (E : St → XK) (t tk : TA) : TE := fun σ H Q =>
  t σ H fun vs H1 => tk σ H1 fun zs H2 => vs.length + 1 = n ∧ zs.length = m ∧
    ∀ x dx, H2 x = none → H2 dx = none → dx ≠ x →
      sp (gV (.ref x :: vs) zs) (upd (upd H2 dx (.own x)) x (.ins C dx [])) (fun v H3 => v = .non ∧ Q (.ref x) H3) (E σ)

section
variable {X : Cx} {k j n : Nat} {f C : Addr} {fd : FuncData} {ps ks : List Str} {sp : Sp} {E : St → XK} {x m : Str} {p pos apos : Pos}
  {e o : Expr} {es : List Expr} {kws : List Keyword} {t tk : TA} {to : TE} {gV : List V → List V → List V} {g : List Value → List Value → List Value}
variable {pins : List (Addr × Obj)} {σ : St} {H : Hp} {s : Shared} {Q : VK}

/-- the end of a call within a body -/
theorem back {E0 : XK} {s0 : Shared} {H0 : Hp} {R : Result} {s' : Shared} {Q' : VK} {B : Value → Shared → Prop}
    (I : Inv X pins σ H0 s0) (hx : ∀ u s', L2.CX X.prog X.w X.stack H0 s0 E0 u s' → X.xe u s')
    (hB : ∀ u s', EP X pins σ Q' u s' → B u s') (h : CR (L2.CX X.prog X.w) X.stack X.prog X.w H0 s0 Q' E0 R s') :
    match (motive := Result → Prop) R with | .ok (.ret u) => B u s' | .ok _ => False | .error u => X.xe u s' := by
  match R, h with
  | .error u, h => exact hx u s' h
  | .ok (.ret u), h => exact hB u s' (I.after h)
  | .ok .next, h => exact False.elim h
  | .ok .brk, h => exact False.elim h
  | .ok .cont, h => exact False.elim h

theorem run2 {us ws : List Value} {vs zs : List V} (F : Fn (wdOf X) k f fd ps sp) (hr : Rm k X.A) (hb : KBn X.K fd ps n ks g gV)
    (hx : PassesAt (L2.CX X.prog X.w) X σ (E σ)) (I : Inv X pins σ H s) (r : Vals vs us) (rz : Vals zs ws) (l1 : vs.length = n) (l2 : zs.length = ks.length)
    (h : sp (gV vs zs) H Q (E σ)) : wpAny (model X.prog X.w) X.A (call (.ref f) us (ks.zip ws)) (EP X pins σ Q) X.xe s := by
  have e1 : us.length = n := r.length ▸ l1
  have e2 : ws.length = ks.length := rz.length ▸ l2
  refine wpAny_call (codeAny_mono (F.go X.A X.stack s H ⟨us, ks.zip ws⟩ (g us ws) (gV vs zs) Q (E σ) hr I.env0 (hb.to s us ws I.kIn e1 e2) (hb.rel r rz) h)
    fun r s' hq => ?_)
  have q := back (B := EP X pins σ Q) I (fun u s' c => hx pins H s u s' I c) (fun _ _ z => z) hq
  match r, q with
  | .error u, q => exact q
  | .ok (.ret u), q => exact q

/-- f(e, .., k = v, ..) -/
theorem c_fn (c : Cal (wdOf X) k x n ks gV sp) (hr : Rm j X.A) (hj : k ≤ j) (hg : Gl X x) (hx : ∀ σ, PassesAt (L2.CX X.prog X.w) X σ (E σ))
    (ha : PA X (e :: es) t) (hkw : PK X kws tk) (hks : (backToKw pos (keywordEach kws X.env)).filterMap (·.1) = ks := by rfl)
    (hall : (backToKw pos (keywordEach kws X.env)).all (·.1.isSome) = true := by rfl) (hdb : (x == ("__debug__" : Str)) = false := by decide)
    (hst : starEach (e :: es) X.env = (false, eval e X.env) :: starEach es X.env := by rfl)
    (hpl : ((backTo pos (starEach (e :: es) X.env)).any (·.1) || (backToKw pos (keywordEach kws X.env)).any (·.1.isNone)) = false := by rfl) :
    PE X (.Call (.Name x p) (e :: es) kws pos) (tC2 n ks.length gV sp E t tk) := by
  obtain ⟨f, fd, ps, g, F, hm, hk, hb⟩ := c.ex
  constructor
  intro pins s σ H Q I h
  apply wpAny_Call_Name_kw
  apply ld_glob I hg hm _ hdb
  refine PySem.W.callWith_KW (h₀ := X.base) I.ok.mod.kin hk hall ?_ hpl hst
  refine thn (ha.run pos pins s σ H _ I h) fun us s1 ⟨vs, H1, I1, r1, q1⟩ => ?_
  refine thn (hkw.run pos pins s1 σ H1 _ I1 q1) fun ws s2 ⟨zs, H2, I2, r2, l1, l2, q2⟩ => ⟨I2.kIn, ?_⟩
  rw [hks]
  exact run2 F (hr.less hj) hb (hx σ) I2 r1 r2 l1 l2 q2
/-- f(k = v, ..) | f() -/
theorem c_fn0 (c : Cal (wdOf X) k x n ks gV sp) (hr : Rm j X.A) (hj : k ≤ j) (hg : Gl X x) (hx : ∀ σ, PassesAt (L2.CX X.prog X.w) X σ (E σ))
    (hkw : PK X kws tk) (hks : (backToKw pos (keywordEach kws X.env)).filterMap (·.1) = ks := by rfl)
    (hall : (backToKw pos (keywordEach kws X.env)).all (·.1.isSome) = true := by rfl) (hdb : (x == ("__debug__" : Str)) = false := by decide)
    (hpl : ((backTo pos (starEach [] X.env)).any (·.1) || (backToKw pos (keywordEach kws X.env)).any (·.1.isNone)) = false := by rfl) :
    PE X (.Call (.Name x p) [] kws pos) (tC2 n ks.length gV sp E tNil tk) := by
  obtain ⟨f, fd, ps, g, F, hm, hk, hb⟩ := c.ex
  constructor
  intro pins s σ H Q I h
  apply wpAny_Call_Name_kw
  apply ld_glob I hg hm _ hdb
  refine PySem.W.callWith_KW0 (h₀ := X.base) I.ok.mod.kin hk hall ?_ hpl
  refine thn (hkw.run pos pins s σ H _ I h) fun ws s2 ⟨zs, H2, I2, r2, l1, l2, q2⟩ => ⟨I2.kIn, ?_⟩
  rw [hks]
  exact run2 (us := []) (vs := []) F (hr.less hj) hb (hx σ) I2 .nil r2 l1 l2 q2

/-- o.m(e, .., k = v, ..), o an own instance -/
theorem c_mt {pl : Sem Bool} (c : Met (wdOf X) k C m n ks gV sp) (hr : Rm j X.A) (hj : k ≤ j) (hx : ∀ σ, PassesAt (L2.CX X.prog X.w) X σ (E σ))
    (ho : PE X o to) (ha : PA X (e :: es) t) (hkw : PK X kws tk) (hks : (backToKw pos (keywordEach kws X.env)).filterMap (·.1) = ks := by rfl)
    (hall : (backToKw pos (keywordEach kws X.env)).all (·.1.isSome) = true := by rfl)
    (hst : starEach (e :: es) X.env = (false, eval e X.env) :: starEach es X.env := by rfl)
    (hpl : ((backTo pos (starEach (e :: es) X.env)).any (·.1) || (backToKw pos (keywordEach kws X.env)).any (·.1.isNone)) = false := by rfl)
    (hev : eval (.Call (.Attribute o m apos) (e :: es) kws pos) X.env = (eval o X.env >>= fun ov => standAt apos.atName >>= fun _ =>
      holding [ov] (getMethod ov m pl) >>= fun fx => callWith pos fx.1 fx.2 (backTo pos (starEach (e :: es) X.env)) (backToKw pos (keywordEach kws X.env))) := by rfl) :
    PE X (.Call (.Attribute o m apos) (e :: es) kws pos) (tM2 C m n ks.length gV sp E to t tk) := by
  obtain ⟨f, fd, ps, g, F, hm, hb⟩ := c.ex
  constructor
  intro pins s σ H Q I h
  refine PySem.W.methodCall_KW (pl := pl) ?_ hev
  refine thn (ho.run pins s σ H _ I h) fun u s1 ⟨y, H0, I0, ry, a, dx, fs, ey, ea, nl, q⟩ => ?_
  subst ey
  cases (show u = Value.ref a from ry)
  apply getmeth_ok I0 ea c.cl hm nl
  refine PySem.W.callWith_KW (first := [.ref a]) (h₀ := X.base) I.ok.mod.kin hm.kp hall ?_ hpl hst
  refine thn (ha.run pos pins s1 σ H0 _ I0 q) fun us s2 ⟨vs, H1, I1, r1, q1⟩ => ?_
  refine thn (hkw.run pos pins s2 σ H1 _ I1 q1) fun ws s3 ⟨zs, H2, I2, r2, l1, l2, q2⟩ => ⟨I2.kIn, ?_⟩
  rw [hks]
  exact run2 (us := .ref a :: us) (vs := .ref a :: vs) F (hr.less hj) hb (hx σ) I2 (.cons rfl r1) r2 l1 l2 q2
/-- o.m(k = v, ..) | o.m() -/
theorem c_mt0 {pl : Sem Bool} (c : Met (wdOf X) k C m n ks gV sp) (hr : Rm j X.A) (hj : k ≤ j) (hx : ∀ σ, PassesAt (L2.CX X.prog X.w) X σ (E σ))
    (ho : PE X o to) (hkw : PK X kws tk) (hks : (backToKw pos (keywordEach kws X.env)).filterMap (·.1) = ks := by rfl)
    (hall : (backToKw pos (keywordEach kws X.env)).all (·.1.isSome) = true := by rfl)
    (hpl : ((backTo pos (starEach [] X.env)).any (·.1) || (backToKw pos (keywordEach kws X.env)).any (·.1.isNone)) = false := by rfl)
    (hev : eval (.Call (.Attribute o m apos) [] kws pos) X.env = (eval o X.env >>= fun ov => standAt apos.atName >>= fun _ =>
      holding [ov] (getMethod ov m pl) >>= fun fx => callWith pos fx.1 fx.2 (backTo pos (starEach [] X.env)) (backToKw pos (keywordEach kws X.env))) := by rfl) :
    PE X (.Call (.Attribute o m apos) [] kws pos) (tM2 C m n ks.length gV sp E to tNil tk) := by
  obtain ⟨f, fd, ps, g, F, hm, hb⟩ := c.ex
  constructor
  intro pins s σ H Q I h
  refine PySem.W.methodCall_KW (pl := pl) ?_ hev
  refine thn (ho.run pins s σ H _ I h) fun u s1 ⟨y, H0, I0, ry, a, dx, fs, ey, ea, nl, q⟩ => ?_
  subst ey
  cases (show u = Value.ref a from ry)
  apply getmeth_ok I0 ea c.cl hm nl
  refine PySem.W.callWith_KW0 (first := [.ref a]) (h₀ := X.base) I.ok.mod.kin hm.kp hall ?_ hpl
  refine thn (hkw.run pos pins s1 σ H0 _ I0 q) fun ws s3 ⟨zs, H2, I2, r2, l1, l2, q2⟩ => ⟨I2.kIn, ?_⟩
  rw [hks]
  exact run2 (us := [.ref a]) (vs := [.ref a]) F (hr.less hj) hb (hx σ) I2 (.cons rfl .nil) r2 l1 l2 q2

theorem make2 {us ws : List Value} {vs zs : List V} (F : Fn (wdOf X) k f fd ps sp) (M : Mk X.K C f) (hr : Rm (k + 1) X.A) (hb : KBn X.K fd ps n ks g gV)
    (hx : PassesAt (L2.CX X.prog X.w) X σ (E σ)) (I : Inv X pins σ H s) (r : Vals vs us) (rz : Vals zs ws) (l1 : vs.length + 1 = n) (l2 : zs.length = ks.length)
    (h : ∀ x dx, H x = none → H dx = none → dx ≠ x →
      sp (gV (.ref x :: vs) zs) (upd (upd H dx (.own x)) x (.ins C dx [])) (fun v H3 => v = .non ∧ Q (.ref x) H3) (E σ)) :
    wpAny (model X.prog X.w) X.A (call (.ref C) us (ks.zip ws)) (EP X pins σ Q) X.xe s := by
  have hq := h (s.heap.objs.size + 1) s.heap.objs.size (I.hok.fresh (Nat.le_succ _)) (I.hok.fresh (Nat.le_refl _)) (Nat.ne_of_lt (Nat.lt_succ_self _))
  have J := Inv.made (C := C) I
  have r1 : Vals (V.ref (s.heap.objs.size + 1) :: vs) (Value.ref (s.heap.objs.size + 1) :: us) := Paired.cons rfl r
  have e1 : (Value.ref (s.heap.objs.size + 1) :: us).length = n := by rw [← r1.length]; exact l1
  have e2 : ws.length = ks.length := by rw [← rz.length]; exact l2
  have run := F.go _ X.stack _ _ ⟨Value.ref (s.heap.objs.size + 1) :: us, ks.zip ws⟩ (g (Value.ref (s.heap.objs.size + 1) :: us) ws) _ _ (E σ)
    (hr.made C us (ks.zip ws)) (J.env0.make C us (ks.zip ws)) (hb.to _ _ ws J.kIn e1 e2) (hb.rel r1 rz) hq
  refine wpAny_call (make_map (f := f) I.kIn M.makes M.init (beq_iff_eq.mp M.fn) (codeAny_mono run fun r s' z => ?_))
  match r, z with
  | .error u, z => exact hx pins _ _ u s' J z
  | .ok .next, z => exact False.elim z
  | .ok .brk, z => exact False.elim z
  | .ok .cont, z => exact False.elim z
  | .ok (.ret u), z =>
    obtain ⟨v, H', I3, rv, ev, q3⟩ := J.after z
    subst ev
    exact ⟨rv, ⟨V.ref (s.heap.objs.size + 1), H', I3, rfl, q3⟩⟩
/-- C(e, .., k = v, ..) -/
theorem c_mk (c : Mak (wdOf X) k x C n ks gV sp) (hr : Rm j X.A) (hj : k + 1 ≤ j) (hg : Gl X x) (hx : ∀ σ, PassesAt (L2.CX X.prog X.w) X σ (E σ))
    (ha : PA X (e :: es) t) (hkw : PK X kws tk) (hks : (backToKw pos (keywordEach kws X.env)).filterMap (·.1) = ks := by rfl)
    (hall : (backToKw pos (keywordEach kws X.env)).all (·.1.isSome) = true := by rfl) (hdb : (x == ("__debug__" : Str)) = false := by decide)
    (hst : starEach (e :: es) X.env = (false, eval e X.env) :: starEach es X.env := by rfl)
    (hpl : ((backTo pos (starEach (e :: es) X.env)).any (·.1) || (backToKw pos (keywordEach kws X.env)).any (·.1.isNone)) = false := by rfl) :
    PE X (.Call (.Name x p) (e :: es) kws pos) (tK2 C n ks.length gV sp E t tk) := by
  obtain ⟨f, fd, ps, g, F, M, hm, hb⟩ := c.ex
  constructor
  intro pins s σ H Q I h
  apply wpAny_Call_Name_kw
  apply ld_glob I hg hm _ hdb
  refine PySem.W.callWith_KW (h₀ := X.base) I.ok.mod.kin M.kp hall ?_ hpl hst
  refine thn (ha.run pos pins s σ H _ I h) fun us s1 ⟨vs, H1, I1, r1, q1⟩ => ?_
  refine thn (hkw.run pos pins s1 σ H1 _ I1 q1) fun ws s2 ⟨zs, H2, I2, r2, l1, l2, q2⟩ => ⟨I2.kIn, ?_⟩
  rw [hks]
  exact make2 F M (hr.less hj) hb (hx σ) I2 r1 r2 l1 l2 q2
/-- C(k = v, ..) | C() -/
theorem c_mk0 (c : Mak (wdOf X) k x C n ks gV sp) (hr : Rm j X.A) (hj : k + 1 ≤ j) (hg : Gl X x) (hx : ∀ σ, PassesAt (L2.CX X.prog X.w) X σ (E σ))
    (hkw : PK X kws tk) (hks : (backToKw pos (keywordEach kws X.env)).filterMap (·.1) = ks := by rfl)
    (hall : (backToKw pos (keywordEach kws X.env)).all (·.1.isSome) = true := by rfl) (hdb : (x == ("__debug__" : Str)) = false := by decide)
    (hpl : ((backTo pos (starEach [] X.env)).any (·.1) || (backToKw pos (keywordEach kws X.env)).any (·.1.isNone)) = false := by rfl) :
    PE X (.Call (.Name x p) [] kws pos) (tK2 C n ks.length gV sp E tNil tk) := by
  obtain ⟨f, fd, ps, g, F, M, hm, hb⟩ := c.ex
  constructor
  intro pins s σ H Q I h
  apply wpAny_Call_Name_kw
  apply ld_glob I hg hm _ hdb
  refine PySem.W.callWith_KW0 (h₀ := X.base) I.ok.mod.kin M.kp hall ?_ hpl
  refine thn (hkw.run pos pins s σ H _ I h) fun ws s2 ⟨zs, H2, I2, r2, l1, l2, q2⟩ => ⟨I2.kIn, ?_⟩
  rw [hks]
  exact make2 (us := []) (vs := []) F M (hr.less hj) hb (hx σ) I2 .nil r2 l1 l2 q2
end

/-! ### a def by its body -/
/-- the context of a body, by its parts -/
abbrev cx (W : Wd) (N : List Str) (q : Str) (sc : Scope) (f : Addr) (cd : Value) (A : Around) (out : List Env) (s : Shared) (H : Hp) (E : XK) : Cx :=
  cxOf (L2.CX W.P W.w) W.P W.w W.K W.mg W.base N q sc f cd A out s H E
/-- a def of the text as it stands behind the top: its name, its whole name, its statement -/
structure Df (W : Wd) (x q : Str) (st : Stmt) (f : Addr) (fd : FuncData) : Prop where
  ex : ∃ (oc dV kV doc pm cd ct : Value) (od an : Option Addr) (sl : Array (Option Value)),
    fd = PySem.W.fnOf x q (defArgs st) (defBody st) (defScope st) dV kV doc pm an cd ct ∧
    W.K.lookup f = some ⟨oc, od, .func fd, sl⟩ ∧ PySem.W.codeIn W.K cd q = true
  kp : PySem.W.keepIn W.K (.ref f) = true
theorem fn_by {W : Wd} {x q : Str} {st : Stmt} {f : Addr} {fd : FuncData} {N ps : List Str} {k : Nat} {sp : Sp} (D : Df W x q st f fd) (S : FnScope N ps (defScope st))
    (hn : ∀ vs H Q E, sp vs H Q E → vs.length = ps.length)
    (hb : ∀ (cd : Value) (A : Around) (out : List Env) (s : Shared) (H : Hp) (vs : List V) (Q : VK) (E : XK),
      Rm k (cx W N q (defScope st) f cd A out s H E).A → sp vs H Q E →
      ∃ t, PSs (cx W N q (defScope st) f cd A out s H E) (defBody st) t ∧ t { nx := fun _ H' => Q .non H', rt := Q } (start N vs) H) :
    Fn W (k + 1) f fd ps sp := by
  obtain ⟨oc, dV, kV, doc, pm, cd, ct, od, an, sl, rfl, lk, hcd⟩ := D.ex
  constructor
  · exact hn
  intro A out s H as us vs Q E hr e0 hbind rv hsp
  have nvs := hn vs H Q E hsp
  have live : ∀ b o, W.base.get? b = some o → s.heap.get? b = some o := fun b o e => (e0.bs b o e).1
  have KX := e0.mod.kin.keeps live
  have lim := e0.mod.nolimit.keeps live
  refine codeAny_call_function hr.r.depth (KX f _ lk) rfl S.co S.gen rfl (PySem.W.codeRec_of KX hcd) (hbind _ _ _ _ ?_)
  refine wpAny_newFunctionEnv_cells S.kind (fun y hy => ?_) fun env he s1 x => ?_
  · rcases S.par y.1 (List.of_mem_zip (show (y.1, y.2) ∈ ps.zip us from hy)).1 with z | z
    · exact Or.inl z
    · exact Or.inr ⟨z, PySem.W.cellsFrom_some _ _ _ (Or.inl z)⟩
  subst he
  refine ⟨lim.keeps x.toInCall.keep, codeAny_func ?_⟩
  obtain ⟨t, ht, hq⟩ := hb cd A out s H vs Q E (hr.down _) hsp
  have I : Inv (cx W N q (defScope st) f cd A out s H E) [] (start N vs) H s1 := inv_start S hr.r.hd e0 nvs rv x
  refine wpAny_mono (ht.run [] s1 (start N vs) H _ I hq) (fun fl s' hs => ?_) fun _ _ z => z
  match fl, hs with
  | .ret u, hs =>
    obtain ⟨v, σ', H', J, r, q⟩ := hs
    exact ⟨v, H', J.os, J.bare, J.base, J.hok, r, q⟩
  | .next, hs =>
    obtain ⟨σ', H', J, q⟩ := hs
    exact ⟨V.non, H', J.os, J.bare, J.base, J.hok, rfl, q⟩
  | .brk, hs => exact hs.elim fun _ h => h.elim fun _ h => h.2.elim
  | .cont, hs => exact hs.elim fun _ h => h.elim fun _ h => h.2.elim

/-- the wish of a body: what is raised leaves by E -/
theorem pass {W : Wd} {N : List Str} {q : Str} {sc : Scope} {f : Addr} {cd : Value} {A : Around} {out : List Env} {s : Shared} {H : Hp} {E : XK} (σ : St) :
    PassesAt (L2.CX W.P W.w) (cx W N q sc f cd A out s H E) σ E := fun pins H1 s1 u s' I c =>
  passes_call (W := fun cls d _ H => E cls d H) (E := E) (takes_of rfl rfl rfl rfl) (fun _ _ _ _ z => z) pins σ H1 s1 u s' I c
theorem passOwn {W : Wd} {N : List Str} {q : Str} {sc : Scope} {f : Addr} {cd : Value} {A : Around} {out : List Env} {s : Shared} {H : Hp} {E : XK} :
    PassesOwn (model W.P W.w) (cx W N q sc f cd A out s H E).A (cx W N q sc f cd A out s H E).env (cx W N q sc f cd A out s H E).xe := PassesOwn.leaving
/-- what a comprehension's block or a suite wants: nothing is raised -/
theorem passNo {X : Cx} (σ : St) : PassesAt (L2.CX X.prog X.w) X σ (fun _ _ _ => False) := fun _ _ _ _ _ _ c => by
  obtain ⟨_, _, _, _, _, _, _, _, _, _, _, _, z⟩ := c
  exact z.elim
end Z

namespace Z
open PySem PySem.Spec PyProof.Rows L2

inductive D where
  | non | bl (b : Bool) | int (i : Int) | str (s : Str)
  | lst (xs : List D) | tup (xs : List D)

/-! ### a value stands for data -/
mutual
def Rep (F : Hp) : D → V → Prop
  | .non, v => v = .non
  | .bl b, v => v = .bl b
  | .int i, v => v = .int i
  | .str x, v => v = .str x
  | .lst ds, v => ∃ a vs, v = .ref a ∧ F a = some (.lst vs) ∧ Reps F ds vs
  | .tup ds, v => ∃ a vs, v = .ref a ∧ F a = some (.tup vs) ∧ Reps F ds vs
def Reps (F : Hp) : List D → List V → Prop
  | [], vs => vs = []
  | d :: ds, vs => ∃ v ws, vs = v :: ws ∧ Rep F d v ∧ Reps F ds ws
end
section
variable {F F' : Hp}
mutual
theorem Rep.mono (s : Same F F') : ∀ (d : D) (v : V), Rep F d v → Rep F' d v
  | .non, _, h => by unfold Rep at h ⊢; exact h
  | .bl _, _, h => by unfold Rep at h ⊢; exact h
  | .int _, _, h => by unfold Rep at h ⊢; exact h
  | .str _, _, h => by unfold Rep at h ⊢; exact h
  | .lst ds, _, h => by
    unfold Rep at h ⊢
    obtain ⟨a, vs, e, ha, hs⟩ := h
    exact ⟨a, vs, e, s a _ ha, Reps.mono s ds vs hs⟩
  | .tup ds, _, h => by
    unfold Rep at h ⊢
    obtain ⟨a, vs, e, ha, hs⟩ := h
    exact ⟨a, vs, e, s a _ ha, Reps.mono s ds vs hs⟩
theorem Reps.mono (s : Same F F') : ∀ (ds : List D) (vs : List V), Reps F ds vs → Reps F' ds vs
  | [], _, h => by unfold Reps at h ⊢; exact h
  | d :: ds, _, h => by
    unfold Reps at h ⊢
    obtain ⟨v, ws, e, h1, h2⟩ := h
    exact ⟨v, ws, e, Rep.mono s d v h1, Reps.mono s ds ws h2⟩
end
theorem rep_non : Rep F .non .non := by unfold Rep; rfl
theorem rep_bl {b : Bool} : Rep F (.bl b) (.bl b) := by unfold Rep; rfl
theorem rep_int {i : Int} : Rep F (.int i) (.int i) := by unfold Rep; rfl
theorem rep_str {x : Str} : Rep F (.str x) (.str x) := by unfold Rep; rfl
theorem rep_lst {ds : List D} {a : Addr} {vs : List V} (h : F a = some (.lst vs)) (r : Reps F ds vs) : Rep F (.lst ds) (.ref a) := by
  unfold Rep; exact ⟨a, vs, rfl, h, r⟩
theorem rep_tup {ds : List D} {a : Addr} {vs : List V} (h : F a = some (.tup vs)) (r : Reps F ds vs) : Rep F (.tup ds) (.ref a) := by
  unfold Rep; exact ⟨a, vs, rfl, h, r⟩
theorem reps_nil : Reps F [] [] := by unfold Reps; rfl
theorem reps_cons {d : D} {ds : List D} {v : V} {vs : List V} (h : Rep F d v) (r : Reps F ds vs) : Reps F (d :: ds) (v :: vs) := by
  unfold Reps; exact ⟨v, vs, rfl, h, r⟩
theorem Rep.of_non {v : V} (h : Rep F .non v) : v = .non := by unfold Rep at h; exact h
theorem Rep.of_bl {b : Bool} {v : V} (h : Rep F (.bl b) v) : v = .bl b := by unfold Rep at h; exact h
theorem Rep.of_int {i : Int} {v : V} (h : Rep F (.int i) v) : v = .int i := by unfold Rep at h; exact h
theorem Rep.of_str {x : Str} {v : V} (h : Rep F (.str x) v) : v = .str x := by unfold Rep at h; exact h
theorem Rep.of_lst {ds : List D} {v : V} (h : Rep F (.lst ds) v) : ∃ a vs, v = .ref a ∧ F a = some (.lst vs) ∧ Reps F ds vs := by unfold Rep at h; exact h
theorem Rep.of_tup {ds : List D} {v : V} (h : Rep F (.tup ds) v) : ∃ a vs, v = .ref a ∧ F a = some (.tup vs) ∧ Reps F ds vs := by unfold Rep at h; exact h
theorem Reps.of_nil {vs : List V} (h : Reps F [] vs) : vs = [] := by unfold Reps at h; exact h
theorem Reps.of_cons {d : D} {ds : List D} {vs : List V} (h : Reps F (d :: ds) vs) : ∃ v ws, vs = v :: ws ∧ Rep F d v ∧ Reps F ds ws := by unfold Reps at h; exact h
theorem Reps.len : ∀ {ds : List D} {vs : List V}, Reps F ds vs → vs.length = ds.length
  | [], _, h => by rw [h.of_nil]; rfl
  | d :: ds, _, h => by
    obtain ⟨v, ws, rfl, _, h2⟩ := h.of_cons
    rw [List.length_cons, List.length_cons, Reps.len h2]
theorem Reps.app : ∀ {ds es : List D} {vs ws : List V}, Reps F ds vs → Reps F es ws → Reps F (ds ++ es) (vs ++ ws)
  | [], _, _, _, h, k => by rw [h.of_nil]; exact k
  | d :: ds, _, _, _, h, k => by
    obtain ⟨v, us, rfl, h1, h2⟩ := h.of_cons
    exact reps_cons h1 (Reps.app h2 k)
theorem Reps.get : ∀ {ds : List D} {vs : List V} {i : Nat} {d : D}, Reps F ds vs → ds[i]? = some d → ∃ v, vs[i]? = some v ∧ Rep F d v
  | [], _, _, _, _, e => by simp at e
  | d :: ds, _, 0, _, h, e => by
    obtain ⟨v, ws, rfl, h1, h2⟩ := h.of_cons
    simp at e; subst e
    exact ⟨v, rfl, h1⟩
  | d :: ds, _, i + 1, _, h, e => by
    obtain ⟨v, ws, rfl, h1, h2⟩ := h.of_cons
    obtain ⟨u, e1, e2⟩ := Reps.get (i := i) h2 (by simpa using e)
    exact ⟨u, by simpa using e1, e2⟩
theorem Reps.got : ∀ {ds : List D} {vs : List V} {i : Nat} {v : V}, Reps F ds vs → vs[i]? = some v → ∃ d, ds[i]? = some d ∧ Rep F d v
  | [], _, _, _, h, e => by rw [h.of_nil] at e; simp at e
  | d :: ds, _, 0, _, h, e => by
    obtain ⟨v, ws, rfl, h1, h2⟩ := h.of_cons
    simp at e; subst e
    exact ⟨d, rfl, h1⟩
  | d :: ds, _, i + 1, _, h, e => by
    obtain ⟨v, ws, rfl, h1, h2⟩ := h.of_cons
    obtain ⟨u, e1, e2⟩ := Reps.got (i := i) h2 (by simpa using e)
    exact ⟨u, by simpa using e1, e2⟩
theorem Reps.take : ∀ {ds : List D} {vs : List V} (n : Nat), Reps F ds vs → Reps F (ds.take n) (vs.take n)
  | _, _, 0, _ => by rw [List.take_zero, List.take_zero]; exact reps_nil
  | [], _, n + 1, h => by rw [h.of_nil]; exact reps_nil
  | d :: ds, _, n + 1, h => by
    obtain ⟨v, ws, rfl, h1, h2⟩ := h.of_cons
    exact reps_cons h1 (Reps.take n h2)
theorem Reps.drop : ∀ {ds : List D} {vs : List V} (n : Nat), Reps F ds vs → Reps F (ds.drop n) (vs.drop n)
  | _, _, 0, h => h
  | [], _, n + 1, h => by rw [h.of_nil]; exact reps_nil
  | d :: ds, _, n + 1, h => by
    obtain ⟨v, ws, rfl, h1, h2⟩ := h.of_cons
    exact Reps.drop n h2
theorem Reps.rev : ∀ {ds : List D} {vs : List V}, Reps F ds vs → Reps F ds.reverse vs.reverse
  | [], _, h => by rw [h.of_nil]; exact reps_nil
  | d :: ds, _, h => by
    obtain ⟨v, ws, rfl, h1, h2⟩ := h.of_cons
    rw [List.reverse_cons, List.reverse_cons]
    exact Reps.app (Reps.rev h2) (reps_cons h1 reps_nil)
/-- whole numbers as data -/
abbrev dI (ns : List Int) : List D := ns.map D.int
theorem reps_ints : ∀ (ns : List Int), Reps F (dI ns) (ns.map V.int)
  | [] => reps_nil
  | _ :: ns => reps_cons rep_int (reps_ints ns)
theorem Reps.of_ints : ∀ {ns : List Int} {vs : List V}, Reps F (dI ns) vs → vs = ns.map V.int
  | [], _, h => h.of_nil
  | n :: ns, _, h => by
    obtain ⟨v, ws, rfl, h1, h2⟩ := Reps.of_cons (d := .int n) (ds := dI ns) h
    rw [h1.of_int, Reps.of_ints h2, List.map_cons]
theorem reps_bls : ∀ (ns : List Bool), Reps F (ns.map D.bl) (ns.map V.bl)
  | [] => reps_nil
  | _ :: ns => reps_cons rep_bl (reps_bls ns)
theorem reps_strs : ∀ (ns : List Str), Reps F (ns.map D.str) (ns.map V.str)
  | [] => reps_nil
  | _ :: ns => reps_cons rep_str (reps_strs ns)
theorem reps_rep {d : D} {v : V} (h : Rep F d v) : ∀ n : Nat, Reps F (List.replicate n d) (List.replicate n v)
  | 0 => reps_nil
  | n + 1 => reps_cons h (reps_rep h n)
end

/-! ### what a run adds: F the part that never changes, H the heap, B what was written -/
structure Ext (B : List Addr) (F H F' H' : Hp) : Prop where
  ff : Same F F'
  fh : Same F' H'
  hh : ∀ a o, a ∉ B → H a = some o → H' a = some o
  nw : ∀ a, H a ≠ none → F a = none → F' a = none
  st : ∀ a, H a ≠ none → H' a ≠ none
section
variable {B B' : List Addr} {F H F1 H1 F2 H2 : Hp} {a : Addr} {o : HO}
theorem some_ne {α : Type} {x : Option α} {y : α} (h : x = some y) : x ≠ none := fun z => by rw [z] at h; cases h
theorem Ext.rfl (s : Same F H) : Ext B F H F H := ⟨Same.refl _, s, fun _ _ _ h => h, fun _ _ h => h, fun _ h => h⟩
theorem Ext.trans (x : Ext B F H F1 H1) (y : Ext B F1 H1 F2 H2) : Ext B F H F2 H2 :=
  ⟨x.ff.trans y.ff, y.fh, fun a o n h => y.hh a o n (x.hh a o n h), fun a h1 h2 => y.nw a (x.st a h1) (x.nw a h1 h2), fun a h => y.st a (x.st a h)⟩
theorem Ext.wide (x : Ext B F H F1 H1) (h : ∀ a, a ∈ B → a ∈ B') : Ext B' F H F1 H1 := ⟨x.ff, x.fh, fun a o n h' => x.hh a o (fun z => n (h a z)) h', x.nw, x.st⟩
theorem Ext.any (x : Ext [] F H F1 H1) : Ext B F H F1 H1 := x.wide fun _ h => by cases h
theorem Ext.same (x : Ext [] F H F1 H1) : Same H H1 := fun a o h => x.hh a o (by simp) h
theorem Ext.rep (x : Ext B F H F1 H1) {d : D} {v : V} (h : Rep F d v) : Rep F1 d v := h.mono x.ff d v
theorem Ext.reps (x : Ext B F H F1 H1) {d : List D} {v : List V} (h : Reps F d v) : Reps F1 d v := h.mono x.ff d v
theorem Ext.cell (x : Ext B F H F1 H1) (h : H a = some o) (n : a ∉ B) : H1 a = some o := x.hh a o n h
theorem Ext.out (x : Ext B F H F1 H1) (h : F a = none) (n : H a ≠ none) : F1 a = none := x.nw a n h
/-- what was free before the run, and is free behind it, was free -/
theorem Ext.free (x : Ext B F H F1 H1) (h : H1 a = none) : H a = none := by
  cases e : H a with
  | none => exact Eq.refl _
  | some u => exact absurd h (x.st a (some_ne e))
/-- a new object, known from now on -/
theorem Ext.new (s : Same F H) (h : H a = none) : Ext [] F H (upd F a o) (upd H a o) where
  ff := fun b u e => by rw [upd_ne (ne_of_none (s b u e) h)]; exact e
  fh := fun b u e => by
    by_cases z : b = a
    · subst z; rw [upd_same] at e; rw [upd_same]; exact e
    · rw [upd_ne z] at e; rw [upd_ne z]; exact s b u e
  hh := fun b u _ e => by rw [upd_ne (ne_of_none e h)]; exact e
  nw := fun b n e => by
    by_cases z : b = a
    · subst z; exact absurd h n
    · rw [upd_ne z]; exact e
  st := fun b n => by
    by_cases z : b = a
    · subst z; exact absurd h n
    · rw [upd_ne z]; exact n
/-- a new object that will be written -/
theorem Ext.cellNew (s : Same F H) (h : H a = none) : Ext [] F H F (upd H a o) where
  ff := Same.refl _
  fh := fun b u e => by rw [upd_ne (ne_of_none (s b u e) h)]; exact s b u e
  hh := fun b u _ e => by rw [upd_ne (ne_of_none e h)]; exact e
  nw := fun _ _ e => e
  st := fun b n => by
    by_cases z : b = a
    · subst z; exact absurd h n
    · rw [upd_ne z]; exact n
/-- an object that F does not know is written -/
theorem Ext.set (s : Same F H) (f : F a = none) (m : a ∈ B) : Ext B F H F (upd H a o) where
  ff := Same.refl _
  fh := fun b u e => by rw [upd_ne (ne_of_none e f)]; exact s b u e
  hh := fun b u n e => by rw [upd_ne (fun z => n (by rw [z]; exact m))]; exact e
  nw := fun _ _ e => e
  st := fun b n => by
    by_cases z : b = a
    · subst z; rw [upd_same]; exact fun q => by cases q
    · rw [upd_ne z]; exact n
/-- what was written is known from now on -/
theorem Ext.freeze (s : Same F H) (h : H a = some o) (n : a ∈ B) : Same F (upd F a o) ∧ Same (upd F a o) H := by
  refine ⟨fun b u e => ?_, fun b u e => ?_⟩
  · by_cases z : b = a
    · subst z; rw [upd_same]; have q := s b u e; rw [h] at q; exact q
    · rw [upd_ne z]; exact e
  · by_cases z : b = a
    · subst z; rw [upd_same] at e; cases e; exact h
    · rw [upd_ne z] at e; exact s b u e
end

/-! ### how data is shown -/
mutual
def txt : D → Str
  | .non => "None"
  | .bl b => if b then "True" else "False"
  | .int i => toString i
  | .str x => reprText x
  | .lst xs => listText (txts xs)
  | .tup xs => tupleText (txts xs)
def txts : List D → List Str
  | [] => []
  | x :: xs => txt x :: txts xs
end
mutual
def dep : D → Nat
  | .lst xs => deps xs + 1
  | .tup xs => deps xs + 1
  | .non | .bl _ | .int _ | .str _ => 0
def deps : List D → Nat
  | [] => 0
  | x :: xs => max (dep x) (deps xs)
end
/-- every number is small enough to be shown -/
def smI (i : Int) : Bool := decide (i.natAbs.log2 < 1920)
mutual
def sm : D → Bool
  | .int i => smI i
  | .str x => PyData.strOk x
  | .lst xs => sms xs
  | .tup xs => sms xs
  | .non | .bl _ => true
def sms : List D → Bool
  | [] => true
  | x :: xs => sm x && sms xs
end
theorem txts_len : ∀ xs : List D, (txts xs).length = xs.length
  | [] => by unfold txts; rfl
  | x :: xs => by unfold txts; rw [List.length_cons, txts_len xs, List.length_cons]
section
variable {P : Program} {w : World} {H : Hp} {h : Heap}
mutual
theorem dep_det : ∀ (d e : D) (v : V), Rep H d v → Rep H e v → dep d = dep e
  | .non, e, v, h1, h2 => by
    cases e <;> unfold Rep at h1 h2 <;> simp_all [dep]
  | .bl b, e, v, h1, h2 => by
    cases e <;> unfold Rep at h1 h2 <;> simp_all [dep]
  | .int b, e, v, h1, h2 => by
    cases e <;> unfold Rep at h1 h2 <;> simp_all [dep]
  | .str b, e, v, h1, h2 => by
    cases e <;> unfold Rep at h1 h2 <;> simp_all [dep]
  | .lst ds, e, v, h1, h2 => by
    obtain ⟨a, vs, rfl, ha, hr⟩ := h1.of_lst
    cases e with
    | lst es =>
      obtain ⟨b, ws, eb, hb, hs⟩ := h2.of_lst
      cases eb
      rw [ha] at hb; cases hb
      unfold dep; rw [deps_det ds es vs hr hs]
    | tup es =>
      obtain ⟨b, ws, eb, hb, hs⟩ := h2.of_tup
      cases eb
      rw [ha] at hb; cases hb
    | _ => unfold Rep at h2; cases h2
  | .tup ds, e, v, h1, h2 => by
    obtain ⟨a, vs, rfl, ha, hr⟩ := h1.of_tup
    cases e with
    | tup es =>
      obtain ⟨b, ws, eb, hb, hs⟩ := h2.of_tup
      cases eb
      rw [ha] at hb; cases hb
      unfold dep; rw [deps_det ds es vs hr hs]
    | lst es =>
      obtain ⟨b, ws, eb, hb, hs⟩ := h2.of_lst
      cases eb
      rw [ha] at hb; cases hb
    | _ => unfold Rep at h2; cases h2
theorem deps_det : ∀ (ds es : List D) (vs : List V), Reps H ds vs → Reps H es vs → deps ds = deps es
  | [], es, vs, h1, h2 => by
    rw [h1.of_nil] at h2
    cases es with
    | nil => rfl
    | cons e es => obtain ⟨_, _, q, _⟩ := h2.of_cons; cases q
  | d :: ds, es, vs, h1, h2 => by
    obtain ⟨v, ws, rfl, a1, a2⟩ := h1.of_cons
    cases es with
    | nil => have q := h2.of_nil; cases q
    | cons e es =>
      obtain ⟨v', ws', q, b1, b2⟩ := h2.of_cons
      cases q
      unfold deps; rw [dep_det d e v a1 b1, deps_det ds es ws a2 b2]
end
/-- addresses at which data lies that is no deeper than n -/
def Low (H : Hp) (n : Nat) (bs : List Addr) : Prop := ∀ b ∈ bs, ∃ d, Rep H d (.ref b) ∧ dep d ≤ n
theorem Low.le {n m : Nat} {bs : List Addr} (h : Low H n bs) (k : n ≤ m) : Low H m bs := fun b hb => let ⟨d, r, e⟩ := h b hb; ⟨d, r, Nat.le_trans e k⟩
theorem Low.app {n : Nat} {bs cs : List Addr} (h : Low H n bs) (k : Low H n cs) : Low H n (bs ++ cs) := fun b hb => (List.mem_append.mp hb).elim (h b) (k b)
theorem Low.not {n : Nat} {bs : List Addr} {a : Addr} {d : D} (h : Low H n bs) (r : Rep H d (.ref a)) (k : n < dep d) : a ∉ bs := fun m => by
  obtain ⟨e, r', l⟩ := h a m
  rw [dep_det d e _ r r'] at k
  omega
theorem Low.top {n : Nat} {bs : List Addr} {a : Addr} {d : D} (h : Low H n bs) (r : Rep H d (.ref a)) (k : n ≤ dep d) : Low H (dep d) (a :: bs) := fun b m => by
  rcases List.mem_cons.mp m with e | m
  · exact ⟨d, by rw [e]; exact r, Nat.le_refl _⟩
  · exact h.le k b m
mutual
theorem shows (ok : HOk P w H h) : ∀ (d : D) (v : V) (u : Value), Rep H d v → RelV v u → sm d = true → (txt d).length ≤ sizeLine →
    ∃ bs, Low H (dep d) bs ∧ ReprK P w bs h (dep d) u (txt d)
  | .non, _, _, r, e, _, _ => by
    rw [r.of_non] at e
    cases e
    unfold txt
    exact ⟨[], (fun _ m => by cases m), ReprK.of_is ReprIs.none _ _ _⟩
  | .bl b, _, _, r, e, _, _ => by
    rw [r.of_bl] at e
    cases e
    unfold txt
    exact ⟨[], (fun _ m => by cases m), ReprK.of_is (ReprIs.bool b) _ _ _⟩
  | .int i, _, _, r, e, s, _ => by
    rw [r.of_int] at e
    obtain ⟨t, rfl⟩ := e
    unfold txt
    exact ⟨[], (fun _ m => by cases m), ReprK.of_is (ReprIs.int t (by unfold sm smI at s; exact of_decide_eq_true s)) _ _ _⟩
  | .str x, _, _, r, e, _, z => by
    rw [r.of_str] at e
    obtain ⟨t, rfl⟩ := e
    unfold txt at z ⊢
    exact ⟨[], (fun _ m => by cases m), ReprK.of_is (ReprIs.str x t z) _ _ _⟩
  | .lst ds, _, _, r, e, s, z => by
    obtain ⟨a, vs, rfl, ha, hr⟩ := r.of_lst
    cases e
    obtain ⟨_, its, n, rv, ho⟩ := (show ObjOk P w H h a (.lst vs) from ok a _ ha)
    unfold sm at s
    unfold txt at z
    obtain ⟨bs, lw, K⟩ := showsAll ok ds vs its hr rv s fun t m => Nat.le_trans (listText_mem_le m) z
    have na : a ∉ bs := lw.not r (by unfold dep; omega)
    refine ⟨a :: bs, lw.top r (by unfold dep; omega), ?_⟩
    unfold txt dep
    cases its with
    | nil =>
      cases rv
      have q : ds = [] := List.length_eq_zero_iff.mp (by rw [← hr.len]; rfl)
      subst q
      have q2 : listText (txts []) = ("[]" : Str) := by unfold txts; exact listText_nil
      rw [q2]
      exact ReprK.listEmpty ho rfl rfl
    | cons y l => exact ReprK.list ho rfl rfl na (by rw [List.size_toArray, ← K.length_eq]) (fun i y q => K.item i y (by simpa using q))
  | .tup ds, _, _, r, e, s, z => by
    obtain ⟨a, vs, rfl, ha, hr⟩ := r.of_tup
    cases e
    obtain ⟨_, its, rv, o, ho, hc, n, hd⟩ := (show ObjOk P w H h a (.tup vs) from ok a _ ha)
    unfold sm at s
    unfold txt at z
    obtain ⟨bs, lw, K⟩ := showsAll ok ds vs its hr rv s fun t m => Nat.le_trans (tupleText_mem_le m) z
    have na : a ∉ bs := lw.not r (by unfold dep; omega)
    refine ⟨a :: bs, lw.top r (by unfold dep; omega), ?_⟩
    unfold txt dep
    exact ReprK.tuple ho hc hd na K
theorem showsAll (ok : HOk P w H h) : ∀ (ds : List D) (vs : List V) (us : List Value), Reps H ds vs → Vals vs us → sms ds = true → (∀ t ∈ txts ds, t.length ≤ sizeLine) →
    ∃ bs, Low H (deps ds) bs ∧ ReprAllK P w bs h (deps ds) us (txts ds)
  | [], _, _, r, e, _, _ => by
    rw [r.of_nil] at e
    cases e
    unfold txts
    exact ⟨[], (fun _ m => by cases m), ReprAllK.nil⟩
  | d :: ds, _, _, r, e, s, z => by
    obtain ⟨v, ws, rfl, r1, r2⟩ := r.of_cons
    cases e with
    | cons e1 e2 =>
      unfold sms at s
      unfold txts at z
      obtain ⟨s1, s2⟩ := Bool.and_eq_true_iff.mp s
      obtain ⟨b1, l1, k1⟩ := shows ok d v _ r1 e1 s1 (z _ List.mem_cons_self)
      obtain ⟨b2, l2, k2⟩ := showsAll ok ds ws _ r2 e2 s2 fun t m => z t (List.mem_cons_of_mem _ m)
      unfold deps txts
      exact ⟨b1 ++ b2, (l1.le (Nat.le_max_left _ _)).app (l2.le (Nat.le_max_right _ _)),
        .cons ((k1.more fun b m => List.mem_append_left _ m).level_le (Nat.le_max_left _ _)) (k2.more_le (fun b m => List.mem_append_right _ m) (Nat.le_max_right _ _))⟩
end
end
end Z

namespace Z
open PySem PySem.Spec PyProof.Rows L2

/-! ### repr -/
def rRp : List V → Hp → VK → Prop := fun vs H Q => ∃ d v, vs = [v] ∧ Rep H d v ∧ sm d = true ∧ (txt d).length ≤ sizeLine ∧ dep d ≤ 64 ∧ Q (.str (txt d)) H
section
variable {X : Cx}
theorem u_repr (hr : Rm 1 X.A) : CallR X (.builtin "repr") rRp := by
  intro pins s σ H vs us Q I r h
  obtain ⟨d, v, rfl, hd, hs, hz, hdep, q⟩ := h
  obtain ⟨u, rfl, ru⟩ := vals1 r
  have hu : X.A.units + 1 + (dep d + 1) < cLine := by have := hr.r.un; omega
  have hg : X.A.in1.guards = some [] := hr.g
  have fin : ∀ h' u tk, (∀ b o, s.heap.get? b = some o → h'.get? b = some o) → EP X pins σ Q (.str (txt d) u) { s with heap := h', toks := tk } :=
    fun h' u tk k => ⟨.str (txt d), H, I.kept (t' := tk) k, ⟨u, rfl⟩, q⟩
  cases d with
  | non =>
    rw [hd.of_non] at ru; cases ru
    unfold txt at fin
    exact P.repr_of_none (fin s.heap _ _ fun _ _ e => e)
  | bl b =>
    rw [hd.of_bl] at ru; cases ru
    unfold txt at fin
    exact P.repr_of_bool (by have q := fin s.heap s.toks (s.toks + 1) fun _ _ e => e; cases b <;> exact q)
  | int i =>
    rw [hd.of_int] at ru; obtain ⟨t, rfl⟩ := ru
    unfold txt at fin
    exact P.repr_of_int (by unfold sm smI at hs; exact of_decide_eq_true hs) (fin s.heap _ _ fun _ _ e => e)
  | str x =>
    rw [hd.of_str] at ru; obtain ⟨t, rfl⟩ := ru
    unfold txt at fin hz
    exact P.repr_of_str (fin s.heap _ _ fun _ _ e => e) hz
  | lst ds =>
    obtain ⟨a, ws, rfl, ha, hrs⟩ := hd.of_lst
    cases ru
    obtain ⟨_, its, n, rv, ho⟩ := (show ObjOk X.prog X.w H s.heap a (.lst ws) from I.hok a _ ha)
    unfold sm at hs
    unfold txt at hz fin
    obtain ⟨bs, lw, K⟩ := showsAll I.hok ds ws its hrs rv hs fun t m => Nat.le_trans (listText_mem_le m) hz
    have na : a ∉ bs := lw.not hd (by unfold dep; omega)
    have hT : s.TypeIs (.ref a) "list" := ⟨_, ho, rfl⟩
    unfold dep at hu
    refine call_repr_slot (by omega) hT F.slot_list_repr.toG ?_
    cases its with
    | nil =>
      cases rv
      have e : ds = [] := List.length_eq_zero_iff.mp (by rw [← hrs.len]; rfl)
      subst e
      have e2 : listText (txts []) = ("[]" : Str) := by unfold txts; exact listText_nil
      rw [e2] at fin
      exact call_list_repr_empty hT ho rfl ⟨_, _, rfl, fin s.heap _ _ fun _ _ e => e⟩
    | cons y l =>
      exact call_list_reprK ho rfl rfl na (by rw [List.size_toArray, ← K.length_eq]) (fun i y e => K.item i y (by simpa using e)) hg (fun b _ => Clear.nil b) (by show X.A.units + 1 + _ < _; omega) (fun _ _ e => e)
        (fun h' u tk k => ⟨_, _, rfl, fin h' u tk k⟩) hz
  | tup ds =>
    obtain ⟨a, ws, rfl, ha, hrs⟩ := hd.of_tup
    cases ru
    obtain ⟨_, its, rv, o, ho, hc, n, hdat⟩ := (show ObjOk X.prog X.w H s.heap a (.tup ws) from I.hok a _ ha)
    unfold sm at hs
    unfold txt at hz fin
    obtain ⟨bs, lw, K⟩ := showsAll I.hok ds ws its hrs rv hs fun t m => Nat.le_trans (tupleText_mem_le m) hz
    have na : a ∉ bs := lw.not hd (by unfold dep; omega)
    have hT : s.TypeIs (.ref a) "tuple" := ⟨o, ho, hc⟩
    unfold dep at hu
    refine call_repr_slot (by omega) hT F.slot_tuple_repr ?_
    exact call_tuple_reprK ho hc hdat na K hg (fun b _ => Clear.nil b) (by show X.A.units + 1 + _ < _; omega) (fun _ _ e => e) (fun h' u tk k => ⟨_, _, rfl, fin h' u tk k⟩) hz
end

/-! ### data compared -/
mutual
def py : D → PyData
  | .non => .none
  | .bl b => .bool b
  | .int i => .int i
  | .str x => .str x
  | .lst xs => .list (pys xs)
  | .tup xs => .tuple (pys xs)
def pys : List D → List PyData
  | [] => []
  | x :: xs => py x :: pys xs
end
/-- == of data -/
def eqD (d e : D) : Bool := PyData.eqv (py d) (py e)
section
variable {K : PySem.W.Frag} {H : Hp}
mutual
theorem rep_dp : ∀ (d : D) (v : V), Rep H d v → Dp K H v (py d)
  | .non, _, r => by rw [r.of_non]; unfold py; exact .non
  | .bl b, _, r => by rw [r.of_bl]; unfold py; exact .bl b
  | .int i, _, r => by rw [r.of_int]; unfold py; exact .int i
  | .str x, _, r => by rw [r.of_str]; unfold py; exact .str x
  | .lst ds, _, r => by
    obtain ⟨a, vs, rfl, ha, hr⟩ := r.of_lst
    unfold py
    exact .lst (SqL.of ha) (reps_dp ds vs hr)
  | .tup ds, _, r => by
    obtain ⟨a, vs, rfl, ha, hr⟩ := r.of_tup
    unfold py
    exact .tup (SqT.of ha) (reps_dp ds vs hr)
theorem reps_dp : ∀ (ds : List D) (vs : List V), Reps H ds vs → DpAll K H vs (pys ds)
  | [], _, r => by rw [r.of_nil]; unfold pys; exact .nil
  | d :: ds, _, r => by
    obtain ⟨v, ws, rfl, r1, r2⟩ := r.of_cons
    unfold pys
    exact .cons (rep_dp d v r1) (reps_dp ds ws r2)
end
end
mutual
theorem py_ok : ∀ d : D, sm d = true → (py d).canLay0 = true
  | .non, _ => by unfold py PyData.canLay0; rfl
  | .bl _, _ => by unfold py PyData.canLay0; rfl
  | .int _, _ => by unfold py PyData.canLay0; rfl
  | .str x, h => by unfold sm at h; unfold py PyData.canLay0; exact h
  | .lst xs, h => by unfold sm at h; unfold py PyData.canLay0; exact pys_ok xs h
  | .tup xs, h => by unfold sm at h; unfold py PyData.canLay0; exact pys_ok xs h
theorem pys_ok : ∀ ds : List D, sms ds = true → PyData.canLayAll0 (pys ds) = true
  | [], _ => by unfold pys PyData.canLayAll0; rfl
  | d :: ds, h => by
    unfold sms at h
    obtain ⟨h1, h2⟩ := Bool.and_eq_true_iff.mp h
    unfold pys PyData.canLayAll0
    rw [py_ok d h1, pys_ok ds h2]; rfl
end
mutual
theorem py_dep : ∀ d : D, (py d).depth = dep d
  | .non => by unfold py dep PyData.depth; rfl
  | .bl _ => by unfold py dep PyData.depth; rfl
  | .int _ => by unfold py dep PyData.depth; rfl
  | .str x => by unfold py dep PyData.depth; rfl
  | .lst xs => by unfold py dep PyData.depth; rw [pys_dep xs]
  | .tup xs => by unfold py dep PyData.depth; rw [pys_dep xs]
theorem pys_dep : ∀ ds : List D, PyData.depthAll (pys ds) = deps ds
  | [] => by unfold pys deps PyData.depthAll; rfl
  | d :: ds => by unfold pys deps PyData.depthAll; rw [py_dep d, pys_dep ds]
end
theorem shaped_of {d : D} (h : sm d = true) (k : dep d ≤ 64) : SeqAt.shaped (py d) = true := by
  unfold SeqAt.shaped
  rw [py_ok d h, py_dep d]
  simp [k]
mutual
theorem eqD_self : ∀ d : D, eqD d d = true
  | .non => by unfold eqD py PyData.eqv; rfl
  | .bl _ => by unfold eqD py PyData.eqv; simp
  | .int _ => by unfold eqD py PyData.eqv; simp
  | .str x => by unfold eqD py PyData.eqv; simp
  | .lst xs => by unfold eqD py PyData.eqv; exact eqDs_self xs
  | .tup xs => by unfold eqD py PyData.eqv; exact eqDs_self xs
theorem eqDs_self : ∀ ds : List D, PyData.eqvAll (pys ds) (pys ds) = true
  | [] => by unfold pys PyData.eqvAll; rfl
  | d :: ds => by
    unfold pys PyData.eqvAll
    have h1 : PyData.eqv (py d) (py d) = true := eqD_self d
    rw [h1, eqDs_self ds]; rfl
end
/-- what == and repr ask of data -/
structure Fit (d : D) : Prop where
  sm : sm d = true
  dep : dep d ≤ 64
  len : (txt d).length ≤ sizeLine

/-! ### operators by their operands' kinds -/
abbrev tI2 (C : Int → Int → Prop) (g : Int → Int → V) : R2 := rI C g
/-- a + b -/
def uAdd (K : PySem.W.Frag) : R2 := fun x y H Q => rI0 (fun i j => .int (i + j)) x y H Q ∨
  (∃ i j, x = .str i ∧ y = .str j ∧ i.length + j.length ≤ sizeLine ∧ Q (.str (i ++ j)) H) ∨ rCat x y H Q ∨ rCatA K x y H Q
/-- a * b -/
def uMul : R2 := fun x y H Q => rI CMulX (fun i j => .int (i * j)) x y H Q ∨ rRep x y H Q
/-- a == b, a != b: scalars, or data -/
def uEq (K : PySem.W.Frag) : R2 := fun x y H Q => rEq x y H Q ∨ rEqD K x y H Q
def uNe (K : PySem.W.Frag) : R2 := fun x y H Q => rNe x y H Q ∨ rNeD K x y H Q
/-- a[i] -/
abbrev uIx (K : PySem.W.Frag) : R2 := rIx K
def uLen (K : PySem.W.Frag) : List V → Hp → VK → Prop := fun xs H Q => (∃ p ys, xs = [.ref p] ∧ (SqL K H p ys ∨ SqT K H p ys) ∧ Q (.int ys.length) H) ∨ (∃ z, xs = [.str z] ∧ z.length ≤ sizeLine ∧ Q (.int z.length) H)
section
variable {X : Cx}
theorem u_add : OpR X (binaryOp .Add) (uAdd X.K) := op_add.or (op_add_str.or (op_cat.or op_catA))
theorem u_mul : OpR X (binaryOp .Mult) uMul := op_mulX.or op_rep
theorem u_eq (hr : Rm 1 X.A) : OpR X (compareOp .Eq) (uEq X.K) := op_eq.or (op_eqD hr.r.units)
theorem u_ne (hr : Rm 1 X.A) : OpR X (compareOp .NotEq) (uNe X.K) := op_ne.or (op_neD hr.r.units)
theorem u_len : CallR X (.builtin "len") (uLen X.K) := call_len_seq.or call_len_str
end
end Z

namespace Z
open PySem PySem.Spec PyProof.Rows L2

/-- the script at the law's entry: F nothing but it -/
def ScriptAt (K : PySem.W.Frag) (F : Hp) (a : Addr) (ns : List Int) : Prop := SqL K F a (ns.map V.int) ∧ ns.length ≤ 63
/-- what a law promises: True -/
def spTrue (K : PySem.W.Frag) : Sp := fun vs H Q _ => ∃ a ns, vs = [.ref a] ∧ ScriptAt K H a ns ∧ (∀ b, H b = none ∨ ∃ o xs, H b = some (.frz o (.lst xs))) ∧ ∀ H', Q (.bl true) H'

theorem z_core {P : Program} {w : World} {K : PySem.W.Frag} {mg mb : Str → Option Value} {k : Nat} {fa a : Addr} {fd : FuncData} {x : Str} {s : Shared} {vs : List Value} {ns : List Int} {H : Hp}
    (KX : K.In s.heap) (hg : s.heap.Ns mainGlobals mg) (hb : s.heap.Ns builtinsNs mb) (hbb : ∀ x : Str, x ≠ "__name__" → mb x = bootBuiltins x) (lim : s.heap.NoLimit) (gens : s.gens = #[])
    (ha : s.heap.get? a = some { cls := .type "list", data := .seq vs.toArray }) (hr : Rm k callerA)
    (G : ∀ base : Heap, K.In base → base.Ns mainGlobals mg → Fn ⟨P, w, K, mg, base⟩ k fa fd [x] (spTrue K)) (bind : ∀ (s : Shared) (u : Value), BindsTo s fd ⟨[u], []⟩ [(x, u)])
    (only : ∀ b, H b = none ∨ ∃ o xs, H b = some (.frz o (.lst xs))) (sc : ScriptAt K H a ns) (ok : HOk P w H s.heap) (one : ∀ b, H b ≠ none → b = a) (nk : H a ≠ none → K.lookup a = none) :
    codeAny (model P w) callerA (.call (.ref fa) ⟨[.ref a], []⟩) (fun r s' => r = .ok (.ret (.bool true)) ∧ OldK s.heap s'.heap ∧ s'.os = s.os ∧ AllBare s'.gens) s := by
  have hid : ∀ {b : Addr} {o : Obj}, s.heap.get? b = some o → H b = none → (hidT s.heap H).get? b = some o := fun e n => hidT_get e n
  have dicts : ∀ {b : Addr} {o : Obj} {es : Array DictEntry} {n : Nat}, s.heap.get? b = some o → o.data = .dict es n → H b = none := by
    intro b o es n e d
    cases q : H b with
    | none => rfl
    | some u =>
      obtain rfl := one b (some_ne q)
      rw [ha] at e
      cases e
      cases d
  have nsB : ∀ {b : Addr} {m : Str → Option Value}, s.heap.Ns b m → (hidT s.heap H).Ns b m := by
    intro b m h
    obtain ⟨o, es, n, e, d, r⟩ := h
    exact ⟨o, es, n, hid e (dicts e d), d, r⟩
  have KB : K.In (hidT s.heap H) := by
    intro b o e
    refine hid (KX b o e) ?_
    cases q : H b with
    | none => rfl
    | some u =>
      obtain rfl := one b (some_ne q)
      rw [nk (some_ne q)] at e
      cases e
  obtain ⟨mc, l1, l2⟩ := lim
  have M : Mod K mg (hidT s.heap H) := ⟨KB, nsB hg, ⟨mb, nsB hb, hbb⟩, ⟨mc, nsB l1, l2⟩⟩
  have E0 : Env0 P w K mg (hidT s.heap H) callerA [] s H :=
    ⟨rfl, M, fun b o e => of_hidT e, Nat.le_of_eq (hidT_size _ _), trivial, fun b z => absurd z (by simp [frs]), ok, .of_eq gens⟩
  have run := (G _ KB (nsB hg)).go callerA [] s H ⟨[.ref a], []⟩ [.ref a] [.ref a] (fun v _ => v = .bl true) (fun _ _ _ => False) hr E0 (bind s (.ref a)) (.cons rfl .nil) ⟨a, ns, rfl, sc, only, fun _ => rfl⟩
  refine codeAny_mono run fun r s' z => ?_
  match r, z with
  | .error u, z =>
    obtain ⟨_, _, _, _, _, _, _, _, _, _, _, _, f⟩ := z
    exact f.elim
  | .ok .next, z => exact False.elim z
  | .ok .brk, z => exact False.elim z
  | .ok .cont, z => exact False.elim z
  | .ok (.ret u), z =>
    obtain ⟨v, H', os, bare, un, ok', rv, ev⟩ := z
    have ev' : v = .bl true := ev
    subst ev'
    cases rv
    refine ⟨rfl, OldK.of_keep fun b o e => ?_, os, bare⟩
    rcases only b with n | ⟨ob, xs, n⟩
    · exact un.keep b o e n (by simp [frs]) (by simp)
    · obtain ⟨e1, _⟩ := ok b _ n
      obtain ⟨e2, _⟩ := ok' b _ (un.frzs b ob _ n)
      rw [e] at e1
      cases e1
      exact e2
/-- the goal that k_head leaves -/
theorem z_walk {l : PySem.W.OpenLaw} {k : Nat} {q : Program} {loose : List Str} {XP : (Str → Option Value) → Heap → Prop} {YP : World → Heap → Prop} {d : DefRec} {K : Params → PySem.W.Frag} {x : Str}
    (h63 : l.most = some 63) (nod : d.params.defaults = []) (hr : Rm k callerA) (hY : ∀ (w : World) (h : Heap), YP w h → (K w.params).In h)
    (G : ∀ (w : World) (mg : Str → Option Value) (fa : Addr) (h : Heap), (K w.params).In h → h.Ns mainGlobals mg → XP mg h → mg d.name = some (.ref fa) →
      ∃ fd : FuncData, (∀ (s : Shared) (u : Value), BindsTo s fd ⟨[u], []⟩ [(x, u)]) ∧
        ∀ base : Heap, (K w.params).In base → base.Ns mainGlobals mg → Fn ⟨l.prog, w, K w.params, mg, base⟩ k fa fd [x] (spTrue (K w.params))) :
    PySem.W.WalkO q loose XP YP l.row.toRowW d [] (fun f vs => PySem.call f vs) := by
  refine Att.attach_call h63 nod fun w s₀ s mg mb fa o pm cd doc a vs ns GR Y ho hd hcd hmg hobj hints hlen hgen => ?_
  have KX := hY w _ Y
  obtain ⟨fd, hb, hF⟩ := G w mg fa _ KX GR.T.g GR.X hmg
  have rv := vals_ints hints
  have z63 : ns.length ≤ sizeLine := Nat.le_trans hlen (by decide)
  cases hk : (K w.params).lookup a with
  | some ob =>
    have e := KX a ob hk
    rw [hobj] at e
    cases e
    refine z_core (H := fun _ => none) KX GR.T.g GR.T.b GR.T.builtins GR.T.nolimit hgen hobj hr hF hb (fun _ => Or.inl rfl) ⟨?_, hlen⟩ (fun b u z => by cases z) (fun b z => absurd rfl z) fun z => absurd rfl z
    exact Or.inr ⟨_, vs.toArray, _, hk, rfl, rfl, rfl, by rw [List.size_toArray, hints.length]; exact z63, by simpa using rv⟩
  | none =>
    have at' : ∀ {b : Addr}, b ≠ a → (fun b => if b = a then some (HO.frz { cls := .type "list", data := .seq vs.toArray } (.lst (ns.map V.int))) else none) b = none := fun h => if_neg h
    refine z_core (H := fun b => if b = a then some (.frz { cls := .type "list", data := .seq vs.toArray } (.lst (ns.map V.int))) else none) KX GR.T.g GR.T.b GR.T.builtins GR.T.nolimit hgen hobj hr hF hb
      (fun b => ?_) ⟨Or.inl (Or.inr ⟨{ cls := .type "list", data := .seq vs.toArray }, if_pos rfl⟩), hlen⟩ (fun b u z => ?_) (fun b z => ?_) fun _ => hk
    · by_cases hb : b = a
      · exact Or.inr ⟨_, _, if_pos hb⟩
      · exact Or.inl (at' hb)
    · by_cases hb : b = a
      · subst hb
        have e : some (HO.frz { cls := .type "list", data := .seq vs.toArray } (.lst (ns.map V.int))) = some u := (if_pos rfl).symm.trans z
        cases e
        exact ⟨hobj, by rw [List.length_map]; exact z63, vs, _, rv, hobj⟩
      · have e : none = some u := (at' hb).symm.trans z
        cases e
    · by_cases hb : b = a
      · exact hb
      · exact absurd (at' hb) z
end Z

namespace Z
open PySem PySem.Spec PyProof.Rows L2

/-! ### more rules by kinds -/
def tnm : D → String
  | .non => "NoneType" | .bl _ => "bool" | .int _ => "int" | .str _ => "str" | .lst _ => "list" | .tup _ => "tuple"
/-- isinstance(d, n) for a built-in n -/
def isT (d : D) (n : String) : Bool := tnm d == n || (tnm d == "bool" && n == "int")
abbrev T6 : List String := ["int", "bool", "str", "list", "tuple", "dict"]
theorem kit_D (K : PySem.W.Frag) (d : D) (n : String) (h : n ∈ T6) : PySem.W.kitOne K (.type (tnm d)) (.type n) = some (isT d n) := by
  refine kit_ty ?_
  simp only [T6, List.mem_cons, List.not_mem_nil, or_false] at h
  rcases h with rfl | rfl | rfl | rfl | rfl | rfl <;> cases d <;> simp only [isT, tnm] <;> decide +kernel
def uIsi (K : PySem.W.Frag) : List V → Hp → VK → Prop := fun xs H Q => rIsi K xs H Q ∨ rIsiT K xs H Q
def uSorted (K : PySem.W.Frag) : List V → Hp → VK → Prop := rSortedI K
def uInt : List V → Hp → VK → Prop := fun xs H Q => ((∃ i, xs = [.int i] ∧ Q (.int i) H) ∨ ∃ k, xs = [.bl k] ∧ Q (.int (if k then 1 else 0)) H) ∨
  ∃ a n, xs = [.str a] ∧ PySem.intText? a = some n ∧ a.length ≤ 640 ∧ Q (.int n) H
def uListC (K : PySem.W.Frag) : List V → Hp → VK → Prop := fun xs H Q => ∃ p ys, xs = [.ref p] ∧ (SqL K H p ys ∨ SqT K H p ys) ∧ ∀ l, H l = none → Q (.ref l) (upd H l (.lst ys))
def uTupC (K : PySem.W.Frag) : List V → Hp → VK → Prop := fun xs H Q => ∃ p ys, xs = [.ref p] ∧ ((SqL K H p ys ∧ ∀ l, H l = none → Q (.ref l) (upd H l (.tup ys))) ∨ (SqT K H p ys ∧ Q (.ref p) H))
def uMax (K : PySem.W.Frag) : List V → Hp → VK → Prop := fun xs H Q => (∃ i j, xs = [.int i, .int j] ∧ Q (.int (if j > i then j else i)) H) ∨ rMax K xs H Q
def uMin (K : PySem.W.Frag) : List V → Hp → VK → Prop := fun xs H Q => (∃ i j, xs = [.int i, .int j] ∧ Q (.int (if j < i then j else i)) H) ∨ rMin K xs H Q
section
variable {X : Cx}
theorem u_isi : CallR X (.builtin "isinstance") (uIsi X.K) := call_isi.or call_isiT
theorem u_sorted : CallR X (.builtin "sorted") (uSorted X.K) := cr_sortedI
theorem u_int : CallR X (.type "int") uInt := call_int1.or call_int_str
theorem u_list (hc : X.calm = true) : CallR X (.type "list") (uListC X.K) := call_list_of
theorem u_tuple : CallR X (.type "tuple") (uTupC X.K) := call_tuple_of
theorem u_max (hc : X.calm = true) : CallR X (.builtin "max") (uMax X.K) := (call_max2 hc).or (cr_max hc)
theorem u_min (hc : X.calm = true) : CallR X (.builtin "min") (uMin X.K) := (call_min2 hc).or (cr_min hc)
/-- a module's constant -/
theorem u_glob {x : Str} {v : V} {pos : Pos} (hg : Gl X x) (h : ∃ u, X.mg x = some u ∧ RelV v u) (hd : (x == ("__debug__" : Str)) = false := by decide) : PE X (.Name x pos) (tC v) := by
  obtain ⟨u, h1, h2⟩ := h
  exact pe_glob hg h1 h2 hd
abbrev u_set {X : Cx} : PSet X rSetL := set_list

/-- what a for walks: a list, a tuple, a text -/
def vIt (K : PySem.W.Frag) (x : V) (H : Hp) (R : It → Hp → Prop) : Prop :=
  (∃ a xs, x = .ref a ∧ SqL K H a xs ∧ R (Itl K a) H) ∨ (∃ a xs, x = .ref a ∧ SqT K H a xs ∧ R (Itt K a) H) ∨ (∃ z, x = .str z ∧ R (Its z) H)
def uIt (K : PySem.W.Frag) (tl : TE) : TI := fun σ H R => tl σ H fun x H1 => vIt K x H1 R
theorem u_it {tg e : Expr} {te : TE} (he : PE X e te) : PI X tg e (uIt X.K te) := by
  refine ⟨fun pins s σ H R I h => ?_⟩
  refine thn (he.run pins s σ H _ I h) fun v s1 ⟨y, H1, I1, r1, q⟩ => ?_
  rcases q with ⟨a, xs, rfl, hq, q⟩ | ⟨a, xs, rfl, hq, q⟩ | ⟨z, rfl, q⟩
  · cases r1
    obtain ⟨its, rv, p, hz⟩ := I1.list hq
    exact wpAny_pyIter_list p.isList (pi_one (tk := s1.toks) I1 _ (turn_list a _) ⟨_, Heap.get?_push_size _ rfl, rfl, rfl⟩ q)
  · cases r1
    obtain ⟨its, rv, p, hz⟩ := I1.tuple hq
    exact wpAny_pyIter_tuple (show s1.heap.IsTuple a its.toArray from p) (pi_one (tk := s1.toks) I1 _ (turn_tuple a _) ⟨_, Heap.get?_push_size _ rfl, rfl, rfl⟩ q)
  · obtain ⟨t, rfl⟩ := r1
    cases ha : z.cps.all (· < 128)
    · exact wpAny_pyIter_wide ha (pi_one (tk := s1.toks) I1 _ (turn_str _ z t "str_iterator" (.inr rfl)) ⟨_, Heap.get?_push_size _ rfl, rfl, rfl⟩ q)
    · exact wpAny_pyIter_ascii ha (pi_one (tk := s1.toks) I1 _ (turn_str _ z t "str_ascii_iterator" (.inl rfl)) ⟨_, Heap.get?_push_size _ rfl, rfl, rfl⟩ q)
end

/-! ### walks: n turns, Y what a turn yields, while S stands -/
structure Drv (J : It) (S : Hp → Prop) (n : Nat) (Y : Nat → V → Hp → Hp → Prop) : Prop where
  go : ∀ i H, S H → i < n → J.go i H
  yl : ∀ i H x H', S H → i < n → J.yld i H x H' → Y i x H H'
  st : ∀ i H, S H → n ≤ i → J.stop i H
section
variable {K : PySem.W.Frag} {J : It} {S : Hp → Prop} {n : Nat} {Y : Nat → V → Hp → Hp → Prop} {g : TG} {tb : TS} {D : Ends} {σ : St} {H : Hp}
theorem drv_l {a : Addr} {xs : List V} : Drv (Itl K a) (fun H => SqL K H a xs) xs.length (fun i x H H' => H' = H ∧ xs[i]? = some x) :=
  ⟨fun i H s h => ⟨xs, xs[i], s, by simp [h]⟩, fun i H x H' s _ y => ⟨y.1, y.2 xs s⟩, fun i H s h => ⟨xs, s, h⟩⟩
theorem drv_t {a : Addr} {xs : List V} : Drv (Itt K a) (fun H => SqT K H a xs) xs.length (fun i x H H' => H' = H ∧ xs[i]? = some x) :=
  ⟨fun i H s h => ⟨xs, xs[i], s, by simp [h]⟩, fun i H x H' s _ y => ⟨y.1, y.2 xs s⟩, fun i H s h => ⟨xs, s, h⟩⟩
theorem drv_r {lo : Int} {m : Nat} : Drv (Itr lo m) (fun _ => True) m (fun i x H H' => H' = H ∧ x = .int (lo + i)) :=
  ⟨fun i H _ h => h, fun i H x H' _ _ y => y, fun i H _ h => h⟩
theorem drv_s {z : Str} : Drv (Its z) (fun _ => True) z.cps.size (fun i x H H' => H' = H ∧ ∃ c, z.cps[i]? = some c ∧ x = .str ⟨#[c]⟩) :=
  ⟨fun i H _ h => h, fun i H x H' _ _ y => y, fun i H _ h => h⟩
/-- the goal of a for behind its iterator -/
def ForG (g : TG) (tb : TS) (D : Ends) (σ : St) (J : It) (H : Hp) : Prop := ∃ W : Nat → Nat → St → Hp → Prop, (∃ m, W 0 m σ H) ∧ ∀ i m σ H, W i m σ H →
  (J.stop i H ∧ D.nx σ H) ∨ (J.go i H ∧ ∃ N : St → Hp → Prop, (∀ σ' H', N σ' H' → ∃ m', m' < m ∧ W (i + 1) m' σ' H') ∧ ∀ x H', J.yld i H x H' → g x σ H' fun σ2 H2 => tb { D with nx := N, ct := N, bk := D.nx } σ2 H2)
theorem for_drv (d : Drv J S n Y) (Pv : Nat → St → Hp → Prop) (h0 : Pv 0 σ H) (hS : ∀ i σ H, Pv i σ H → S H)
    (hs : ∀ i σ H x H', i < n → Pv i σ H → Y i x H H' → g x σ H' fun σ2 H2 => tb { D with nx := Pv (i + 1), ct := Pv (i + 1), bk := D.nx } σ2 H2)
    (hd : ∀ σ H, Pv n σ H → D.nx σ H) : ForG g tb D σ J H := by
  refine ⟨fun i m σ H => m = n - i ∧ i ≤ n ∧ Pv i σ H, ⟨n, by omega, Nat.zero_le _, h0⟩, ?_⟩
  intro i m σ H w
  obtain ⟨e, hi, p⟩ := w
  by_cases lt : i < n
  · exact Or.inr ⟨d.go i H (hS i σ H p) lt, Pv (i + 1), fun σ' H' p' => ⟨n - (i + 1), by omega, rfl, lt, p'⟩, fun x H' y => hs i σ H x H' lt p (d.yl i H x H' (hS i σ H p) lt y)⟩
  · have e2 : i = n := by omega
    subst e2
    exact Or.inl ⟨d.st i H (hS i σ H p) (Nat.le_refl _), hd σ H p⟩
/-- the goal of a list comprehension behind its iterator -/
def LcG (g : TG) (tt : TT) (te : TE) (vs : List Nat) (σ : St) (Q : VK) (J : It) (H1 : Hp) : Prop := ∀ D, H1 D = none → ∃ W : Nat → Nat → Hp → Prop, (∃ m, W 0 m (upd H1 D (.lst []))) ∧ ∀ i m H, W i m H →
  (J.stop i H ∧ Q (.ref D) H) ∨ (J.go i H ∧ ∃ Nx : Hp → Prop, (∀ H', Nx H' → ∃ m', m' < m ∧ W (i + 1) m' H') ∧ ∀ x H', J.yld i H x H' → g x (wipe σ vs) H' fun σ2 H2 => wipe σ2 vs = wipe σ vs ∧ tt σ2 H2 fun b H3 =>
    if b = true then te σ2 H3 fun y H4 => ∃ acc, H4 D = some (.lst acc) ∧ acc.length < sizeLine ∧ Nx (upd H4 D (.lst (acc ++ [y]))) else Nx H3)
theorem lc_drv {tt : TT} {te : TE} {vs : List Nat} {Q : VK} (d : Drv J S n Y)
    (C : ∀ D, H D = none → ∃ Pv : Nat → Hp → Prop, Pv 0 (upd H D (.lst [])) ∧ (∀ i H, Pv i H → S H) ∧
      (∀ i H x H', i < n → Pv i H → Y i x H H' → g x (wipe σ vs) H' fun σ2 H2 => wipe σ2 vs = wipe σ vs ∧ tt σ2 H2 fun b H3 =>
        if b = true then te σ2 H3 fun y H4 => ∃ acc, H4 D = some (.lst acc) ∧ acc.length < sizeLine ∧ Pv (i + 1) (upd H4 D (.lst (acc ++ [y]))) else Pv (i + 1) H3) ∧
      ∀ H, Pv n H → Q (.ref D) H) : LcG g tt te vs σ Q J H := by
  intro p hp
  obtain ⟨Pv, h0, hS, hs, hd⟩ := C p hp
  refine ⟨fun i m H => m = n - i ∧ i ≤ n ∧ Pv i H, ⟨n, by omega, Nat.zero_le _, h0⟩, ?_⟩
  intro i m H w
  obtain ⟨e, hi, q⟩ := w
  by_cases lt : i < n
  · exact Or.inr ⟨d.go i H (hS i H q) lt, Pv (i + 1), fun H' p' => ⟨n - (i + 1), by omega, rfl, lt, p'⟩, fun x H' y => hs i H x H' lt q (d.yl i H x H' (hS i H q) lt y)⟩
  · have e2 : i = n := by omega
    subst e2
    exact Or.inl ⟨d.st i H (hS i H q) (Nat.le_refl _), hd H q⟩
end

/-- an object that was not there at the start is written -/
theorem Ext.hid {B : List Addr} {F H F1 H1 : Hp} {p : Addr} {o : HO} (x : Ext B F H F1 H1) (hp : H p = none) (fp : F1 p = none) : Ext B F H F1 (upd H1 p o) where
  ff := x.ff
  fh := fun a u h => by rw [upd_ne (ne_of_none h fp)]; exact x.fh a u h
  hh := fun a u n h => by rw [upd_ne (ne_of_none h hp)]; exact x.hh a u n h
  nw := x.nw
  st := fun a n => by
    by_cases z : a = p
    · rw [z]; exact absurd hp (by rw [← z]; exact n)
    · rw [upd_ne z]; exact x.st a n
/-! ### loops over data -/
/-- the items of what is walked -/
def items : D → Option (List D)
  | .lst ds => some ds
  | .tup ds => some ds
  | .str z => some (z.cps.toList.map fun c => .str ⟨#[c]⟩)
  | _ => none
section
variable {K : PySem.W.Frag} {g : TG} {tb : TS} {D : Ends} {σ : St} {F H : Hp} {B : List Addr} {x : V} {d : Z.D} {ds : List Z.D} {Q : VK} {vs : List Nat} {tt : TT} {te : TE}
/-- the end of a turn: what is known goes on -/
abbrev Nxt (B : List Addr) (F H : Hp) (I : St → Hp → Hp → Prop) : St → Hp → Prop := fun σ' H' => ∃ F', Ext B F H F' H' ∧ I σ' F' H'
theorem d_forX {J : It} {S : Hp → Prop} {n : Nat} {Y : Nat → V → Hp → Hp → Prop} (dv : Drv J S n Y) (hF : Same F H) (B : List Addr) (I : Nat → St → Hp → Hp → Prop) (h0 : I 0 σ F H)
    (hS : ∀ F' H', Ext B F H F' H' → S H')
    (hs : ∀ i v σ' F' H' H'', i < n → Y i v H' H'' → Ext B F H F' H' → I i σ' F' H' → g v σ' H'' fun σ2 H2 => tb { D with nx := Nxt B F H (I (i + 1)), ct := Nxt B F H (I (i + 1)), bk := D.nx } σ2 H2)
    (hd : ∀ σ' F' H', Ext B F H F' H' → I n σ' F' H' → D.nx σ' H') : ForG g tb D σ J H :=
  for_drv dv (fun i σ' H' => ∃ F', Ext B F H F' H' ∧ I i σ' F' H') ⟨F, Ext.rfl hF, h0⟩ (fun i σ' H' ⟨F', x, _⟩ => hS F' H' x)
    (fun i σ' H' v H'' lt ⟨F', x, q⟩ y => hs i v σ' F' H' H'' lt y x q) (fun σ' H' ⟨F', x, q⟩ => hd σ' F' H' x q)
/-- for v in d -/
theorem d_for (hF : Same F H) (hx : Rep F d x) (hd : items d = some ds) (B : List Addr) (I : Nat → St → Hp → Hp → Prop) (h0 : I 0 σ F H)
    (hs : ∀ i e v σ' F' H', ds[i]? = some e → Rep F' e v → Ext B F H F' H' → I i σ' F' H' → g v σ' H' fun σ2 H2 => tb { D with nx := Nxt B F H (I (i + 1)), ct := Nxt B F H (I (i + 1)), bk := D.nx } σ2 H2)
    (he : ∀ σ' F' H', Ext B F H F' H' → I ds.length σ' F' H' → D.nx σ' H') : vIt K x H (fun J H1 => ForG g tb D σ J H1) := by
  cases d with
  | lst es =>
    cases hd
    obtain ⟨a, vs, rfl, ha, hr⟩ := hx.of_lst
    refine Or.inl ⟨a, vs, rfl, SqL.of (hF a _ ha), d_forX drv_l hF B I h0 (fun F' H' x => SqL.of (x.fh a _ (x.ff a _ ha))) ?_ (by rw [hr.len]; exact he)⟩
    rintro i v σ' F' H' H'' lt ⟨rfl, y⟩ x q
    obtain ⟨e, e1, e2⟩ := hr.got y
    exact hs i e v σ' F' H'' e1 (x.rep e2) x q
  | tup es =>
    cases hd
    obtain ⟨a, vs, rfl, ha, hr⟩ := hx.of_tup
    refine Or.inr (Or.inl ⟨a, vs, rfl, SqT.of (hF a _ ha), d_forX drv_t hF B I h0 (fun F' H' x => SqT.of (x.fh a _ (x.ff a _ ha))) ?_ (by rw [hr.len]; exact he)⟩)
    rintro i v σ' F' H' H'' lt ⟨rfl, y⟩ x q
    obtain ⟨e, e1, e2⟩ := hr.got y
    exact hs i e v σ' F' H'' e1 (x.rep e2) x q
  | str z =>
    cases hd
    rw [hx.of_str]
    have el : (z.cps.toList.map fun c => Z.D.str ⟨#[c]⟩).length = z.cps.size := by simp
    refine Or.inr (Or.inr ⟨z, rfl, d_forX drv_s hF B I h0 (fun _ _ _ => trivial) ?_ (by rw [← el]; exact he)⟩)
    rintro i v σ' F' H' H'' lt ⟨rfl, c, y, rfl⟩ x q
    refine hs i (.str ⟨#[c]⟩) _ σ' F' H'' ?_ rep_str x q
    rw [List.getElem?_map, Array.getElem?_toList, y]; rfl
  | _ => cases hd
/-- for v in range(lo, ..): n turns -/
theorem d_forR {lo : Int} {n : Nat} (hF : Same F H) (B : List Addr) (I : Nat → St → Hp → Hp → Prop) (h0 : I 0 σ F H)
    (hs : ∀ i σ' F' H', i < n → Ext B F H F' H' → I i σ' F' H' → g (.int (lo + (i : Nat))) σ' H' fun σ2 H2 => tb { D with nx := Nxt B F H (I (i + 1)), ct := Nxt B F H (I (i + 1)), bk := D.nx } σ2 H2)
    (he : ∀ σ' F' H', Ext B F H F' H' → I n σ' F' H' → D.nx σ' H') : ForG g tb D σ (Itr lo n) H := by
  refine d_forX drv_r hF B I h0 (fun _ _ _ => trivial) ?_ he
  rintro i v σ' F' H' H'' lt ⟨rfl, rfl⟩ x q
  exact hs i σ' F' H'' lt x q
/-- behind a while's test -/
def WhG (tb : TS) (D : Ends) (B : List Addr) (F H : Hp) (I : Nat → St → Hp → Hp → Prop) (m : Nat) (σ' : St) (b : Bool) (H1 : Hp) : Prop :=
  if b = true then ∃ N : St → Hp → Prop, (∀ σ3 H3, N σ3 H3 → ∃ m', m' < m ∧ ∃ F3, Ext B F H F3 H3 ∧ I m' σ3 F3 H3) ∧ tb { D with nx := N, ct := N, bk := D.nx } σ' H1 else D.nx σ' H1
/-- what a while's turn is to reach -/
abbrev WhN (B : List Addr) (F H : Hp) (I : Nat → St → Hp → Hp → Prop) (m : Nat) : St → Hp → Prop := fun σ3 H3 => ∃ m' F3, m' < m ∧ Ext B F H F3 H3 ∧ I m' σ3 F3 H3
theorem wh_go {I : Nat → St → Hp → Hp → Prop} {m : Nat} {σ' : St} {b : Bool} {H1 : Hp} {H0 : Hp} (h1 : b = true → tb { D with nx := WhN B F H0 I m, ct := WhN B F H0 I m, bk := D.nx } σ' H1) (h2 : b = false → D.nx σ' H1) : WhG tb D B F H0 I m σ' b H1 := by
  cases b with
  | true => exact ⟨_, fun σ3 H3 ⟨m', F3, l, x, q⟩ => ⟨m', l, F3, x, q⟩, h1 rfl⟩
  | false => exact h2 rfl
/-- while t: by a measure -/
theorem d_while {c : TT} (hF : Same F H) (B : List Addr) (I : Nat → St → Hp → Hp → Prop) (m0 : Nat) (h0 : I m0 σ F H)
    (hs : ∀ m σ' F' H', Ext B F H F' H' → I m σ' F' H' → c σ' H' fun b H1 => WhG tb D B F H I m σ' b H1) : tWhile c tb D σ H :=
  ⟨fun m σ' H' => ∃ F', Ext B F H F' H' ∧ I m σ' F' H', ⟨m0, F, Ext.rfl hF, h0⟩, fun m σ' H' ⟨F', x, q⟩ => hs m σ' F' H' x q⟩

/-! ### list comprehensions -/
/-- where a comprehension stands ahead of turn i: the list at p holds es -/
structure LcIn (B : List Addr) (F H : Hp) (p : Addr) (i : Nat) (es : List Z.D) (ys : List V) (F' H' : Hp) : Prop where
  x : Ext B F H F' H'
  hp : H p = none
  np : p ∉ B
  le : es.length ≤ i
  li : i ≤ 1000000
  at_ : H' p = some (.lst ys)
  fp : F' p = none
  r : Reps F' es ys
def LcAt (B : List Addr) (F H : Hp) (I : Nat → List Z.D → Hp → Hp → Prop) (p : Addr) (i : Nat) (H' : Hp) : Prop := ∃ F' es ys, LcIn B F H p i es ys F' H' ∧ I i es F' H'
def LcY (B : List Addr) (F H : Hp) (I : Nat → List Z.D → Hp → Hp → Prop) (p : Addr) (i : Nat) (y : V) (H4 : Hp) : Prop :=
  ∃ acc, H4 p = some (.lst acc) ∧ acc.length < sizeLine ∧ LcAt B F H I p (i + 1) (upd H4 p (.lst (acc ++ [y])))
/-- I does not lean on the new list -/
def LcOff (B : List Addr) (I : Nat → List Z.D → Hp → Hp → Prop) : Prop := ∀ i es F' H' p o, F' p = none → p ∉ B → I i es F' H' → I i es F' (upd H' p o)
section
variable {I : Nat → List Z.D → Hp → Hp → Prop} {p : Addr} {i : Nat} {es : List Z.D} {ys : List V} {F' H' F4 H4 : Hp} {e : Z.D} {y : V}
theorem lc_no (c : LcIn B F H p i es ys F' H') (l : i < 1000000) (x : Ext B F' H' F4 H4) (q : I (i + 1) es F4 H4) : LcAt B F H I p (i + 1) H4 :=
  ⟨F4, es, ys, ⟨c.x.trans x, c.hp, c.np, by have := c.le; omega, by omega, x.hh p _ c.np c.at_, x.nw p (some_ne c.at_) c.fp, x.reps c.r⟩, q⟩
theorem lc_yes (off : LcOff B I) (c : LcIn B F H p i es ys F' H') (l : i < 1000000) (x : Ext B F' H' F4 H4) (r : Rep F4 e y) (q : I (i + 1) (es ++ [e]) F4 H4) : LcY B F H I p i y H4 := by
  have fp4 := x.nw p (some_ne c.at_) c.fp
  refine ⟨ys, x.hh p _ c.np c.at_, ?_, F4, es ++ [e], ys ++ [y], ⟨(c.x.trans x).hid c.hp fp4, c.hp, c.np, ?_, by omega, upd_same, fp4, (x.reps c.r).app (reps_cons r reps_nil)⟩, off _ _ _ _ _ _ fp4 c.np q⟩
  · rw [c.r.len, sizeLine_eq]; have := c.le; omega
  · rw [List.length_append, List.length_singleton]; have := c.le; omega
end
/-- [te for v in ..] -/
theorem d_lcX {J : It} {S : Hp → Prop} {n : Nat} {Y : Nat → V → Hp → Hp → Prop} (dv : Drv J S n Y) (hF : Same F H) (hn : n ≤ 1000000) (B : List Addr) (hB : ∀ b ∈ B, H b ≠ none) (I : Nat → List Z.D → Hp → Hp → Prop)
    (off : LcOff B I) (h0 : I 0 [] F H) (hS : ∀ F' H', Ext B F H F' H' → S H')
    (hs : ∀ p i es ys v F' H' H'', i < n → Y i v H' H'' → LcIn B F H p i es ys F' H' → I i es F' H' → g v (wipe σ vs) H'' fun σ2 H2 => wipe σ2 vs = wipe σ vs ∧ tt σ2 H2 fun b H3 =>
      if b = true then te σ2 H3 fun y H4 => LcY B F H I p i y H4 else LcAt B F H I p (i + 1) H3)
    (he : ∀ p es ys F' H', H p = none → es.length ≤ n → Ext B F H F' H' → H' p = some (.lst ys) → F' p = none → Reps F' es ys → I n es F' H' → Q (.ref p) H') : LcG g tt te vs σ Q J H := by
  refine lc_drv dv fun p hp => ?_
  have np : p ∉ B := fun m => hB p m hp
  have fp : F p = none := by
    cases e : F p with
    | none => rfl
    | some u => rw [hF p u e] at hp; cases hp
  refine ⟨LcAt B F H I p, ⟨F, [], [], ⟨(Ext.rfl hF).hid hp fp, hp, np, Nat.le_refl _, Nat.zero_le _, upd_same, fp, reps_nil⟩, off _ _ _ _ _ _ fp np h0⟩, ?_, ?_, ?_⟩
  · rintro i H' ⟨F', es, ys, c, _⟩
    exact hS F' H' c.x
  · rintro i H' v H'' lt ⟨F', es, ys, c, q⟩ y
    exact hs p i es ys v F' H' H'' lt y c q
  · rintro H' ⟨F', es, ys, c, q⟩
    exact he p es ys F' H' hp c.le c.x c.at_ c.fp c.r q
/-- over data -/
theorem d_lc (hF : Same F H) (hx : Rep F d x) (hd : items d = some ds) (hn : ds.length ≤ 1000000) (B : List Addr) (hB : ∀ b ∈ B, H b ≠ none) (I : Nat → List Z.D → Hp → Hp → Prop)
    (off : LcOff B I) (h0 : I 0 [] F H)
    (hs : ∀ p i es ys e v F' H', ds[i]? = some e → Rep F' e v → LcIn B F H p i es ys F' H' → I i es F' H' → g v (wipe σ vs) H' fun σ2 H2 => wipe σ2 vs = wipe σ vs ∧ tt σ2 H2 fun b H3 =>
      if b = true then te σ2 H3 fun y H4 => LcY B F H I p i y H4 else LcAt B F H I p (i + 1) H3)
    (he : ∀ p es ys F' H', H p = none → es.length ≤ ds.length → Ext B F H F' H' → H' p = some (.lst ys) → F' p = none → Reps F' es ys → I ds.length es F' H' → Q (.ref p) H') : vIt K x H (fun J H1 => LcG g tt te vs σ Q J H1) := by
  cases d with
  | lst es =>
    cases hd
    obtain ⟨a, ws, rfl, ha, hr⟩ := hx.of_lst
    refine Or.inl ⟨a, ws, rfl, SqL.of (hF a _ ha), d_lcX drv_l hF (by rw [hr.len]; exact hn) B hB I off h0 (fun F' H' x => SqL.of (x.fh a _ (x.ff a _ ha))) ?_ (by rw [hr.len]; exact he)⟩
    rintro p i es' ys v F' H' H'' lt ⟨rfl, y⟩ c q
    obtain ⟨e, e1, e2⟩ := hr.got y
    exact hs p i es' ys e v F' H'' e1 (c.x.rep e2) c q
  | tup es =>
    cases hd
    obtain ⟨a, ws, rfl, ha, hr⟩ := hx.of_tup
    refine Or.inr (Or.inl ⟨a, ws, rfl, SqT.of (hF a _ ha), d_lcX drv_t hF (by rw [hr.len]; exact hn) B hB I off h0 (fun F' H' x => SqT.of (x.fh a _ (x.ff a _ ha))) ?_ (by rw [hr.len]; exact he)⟩)
    rintro p i es' ys v F' H' H'' lt ⟨rfl, y⟩ c q
    obtain ⟨e, e1, e2⟩ := hr.got y
    exact hs p i es' ys e v F' H'' e1 (c.x.rep e2) c q
  | str z =>
    cases hd
    rw [hx.of_str]
    have el : (z.cps.toList.map fun c => Z.D.str ⟨#[c]⟩).length = z.cps.size := by simp
    refine Or.inr (Or.inr ⟨z, rfl, d_lcX drv_s hF (by rw [← el]; exact hn) B hB I off h0 (fun _ _ _ => trivial) ?_ (by rw [← el]; exact he)⟩)
    rintro p i es' ys v F' H' H'' lt ⟨rfl, c, y, rfl⟩ cc q
    refine hs p i es' ys (.str ⟨#[c]⟩) _ F' H'' ?_ rep_str cc q
    rw [List.getElem?_map, Array.getElem?_toList, y]; rfl
  | _ => cases hd
/-- over a range -/
theorem d_lcR {lo : Int} {n : Nat} (hF : Same F H) (hn : n ≤ 1000000) (B : List Addr) (hB : ∀ b ∈ B, H b ≠ none) (I : Nat → List Z.D → Hp → Hp → Prop)
    (off : LcOff B I) (h0 : I 0 [] F H)
    (hs : ∀ p i es ys F' H', i < n → LcIn B F H p i es ys F' H' → I i es F' H' → g (.int (lo + (i : Nat))) (wipe σ vs) H' fun σ2 H2 => wipe σ2 vs = wipe σ vs ∧ tt σ2 H2 fun b H3 =>
      if b = true then te σ2 H3 fun y H4 => LcY B F H I p i y H4 else LcAt B F H I p (i + 1) H3)
    (he : ∀ p es ys F' H', H p = none → es.length ≤ n → Ext B F H F' H' → H' p = some (.lst ys) → F' p = none → Reps F' es ys → I n es F' H' → Q (.ref p) H') : LcG g tt te vs σ Q (Itr lo n) H := by
  refine d_lcX drv_r hF hn B hB I off h0 (fun _ _ _ => trivial) ?_ he
  rintro p i es ys v F' H' H'' lt ⟨rfl, rfl⟩ c q
  exact hs p i es ys F' H'' lt c q
end

/-! ### steps -/
section
variable {K : PySem.W.Frag} {F H : Hp} {Q : VK} {x y : V}
theorem fnone {p : Addr} (hF : Same F H) (hp : H p = none) : F p = none := by
  cases e : F p with
  | none => rfl
  | some u => rw [hF p u e] at hp; cases hp
/-- a new object: known, or kept apart -/
theorem d_new {p : Addr} {o : HO} (hF : Same F H) (hp : H p = none) {G : Hp → Prop} (q : ∀ F' H', Ext [] F H F' H' → F' p = some o → G H') : G (upd H p o) :=
  q (upd F p o) (upd H p o) (Ext.new hF hp) upd_same
theorem d_cell {p : Addr} {o : HO} (hF : Same F H) (hp : H p = none) {G : Hp → Prop} (q : ∀ H', Ext [] F H F H' → H' p = some o → F p = none → G H') : G (upd H p o) :=
  q (upd H p o) (Ext.cellNew hF hp) upd_same (fnone hF hp)
/-- a written list, a tuple: data -/
theorem r_lst {vs : List V} {ds : List D} (hF : Same F H) (r : Reps F ds vs) (l : vs.length ≤ sizeLine) (q : ∀ p F' H', Ext [] F H F' H' → Rep F' (.lst ds) (.ref p) → Q (.ref p) H') :
    vs.length ≤ sizeLine ∧ ∀ p, H p = none → Q (.ref p) (upd H p (.lst vs)) :=
  ⟨l, fun p hp => d_new (G := fun H' => Q (.ref p) H') hF hp fun F' H' x e => q p F' H' x (rep_lst e (x.reps r))⟩
theorem r_tup {vs : List V} {ds : List D} (hF : Same F H) (r : Reps F ds vs) (l : vs.length ≤ sizeLine) (q : ∀ p F' H', Ext [] F H F' H' → Rep F' (.tup ds) (.ref p) → Q (.ref p) H') :
    vs.length ≤ sizeLine ∧ ∀ p, H p = none → Q (.ref p) (upd H p (.tup vs)) :=
  ⟨l, fun p hp => d_new (G := fun H' => Q (.ref p) H') hF hp fun F' H' x e => q p F' H' x (rep_tup e (x.reps r))⟩
/-- .. kept apart, to be written -/
theorem r_lstM {vs : List V} (hF : Same F H) (l : vs.length ≤ sizeLine) (q : ∀ p H', Ext [] F H F H' → H' p = some (.lst vs) → F p = none → H p = none → Q (.ref p) H') :
    vs.length ≤ sizeLine ∧ ∀ p, H p = none → Q (.ref p) (upd H p (.lst vs)) :=
  ⟨l, fun p hp => d_cell (G := fun H' => Q (.ref p) H') hF hp fun H' x e f => q p H' x e f hp⟩
theorem r_tupM {vs : List V} (hF : Same F H) (l : vs.length ≤ sizeLine) (q : ∀ p H', Ext [] F H F H' → H' p = some (.tup vs) → F p = none → H p = none → Q (.ref p) H') :
    vs.length ≤ sizeLine ∧ ∀ p, H p = none → Q (.ref p) (upd H p (.tup vs)) :=
  ⟨l, fun p hp => d_cell (G := fun H' => Q (.ref p) H') hF hp fun H' x e f => q p H' x e f hp⟩
-- arithmetic
theorem r_add {i j : Int} (q : Q (.int (i + j)) H) : uAdd K (.int i) (.int j) H Q := Or.inl ⟨i, j, rfl, rfl, q⟩
theorem r_addS {i j : Str} (l : i.length + j.length ≤ sizeLine) (q : Q (.str (i ++ j)) H) : uAdd K (.str i) (.str j) H Q := Or.inr (Or.inl ⟨i, j, rfl, rfl, l, q⟩)
theorem r_addL {ds es : List D} (hF : Same F H) (hx : Rep F (.lst ds) x) (hy : Rep F (.lst es) y) (l : ds.length + es.length ≤ sizeLine)
    (q : ∀ p F' H', Ext [] F H F' H' → Rep F' (.lst (ds ++ es)) (.ref p) → Q (.ref p) H') : uAdd K x y H Q := by
  obtain ⟨a, vs, rfl, ha, hr⟩ := hx.of_lst
  obtain ⟨b, ws, rfl, hb, hs⟩ := hy.of_lst
  exact Or.inr (Or.inr (Or.inl ⟨a, b, vs, ws, rfl, rfl, hF a _ ha, hF b _ hb, by rw [hr.len, hs.len]; exact l, fun p hp =>
    d_new (G := fun H' => Q (.ref p) H') hF hp fun F' H' x e => q p F' H' x (rep_lst e (x.reps (hr.app hs)))⟩))
theorem r_addT {ds es : List D} (hF : Same F H) (hx : Rep F (.tup ds) x) (hy : Rep F (.tup es) y) (l : ds.length + es.length ≤ sizeLine)
    (q : ∀ v F' H', Ext [] F H F' H' → Rep F' (.tup (ds ++ es)) v → Q v H') : uAdd K x y H Q := by
  obtain ⟨a, vs, rfl, ha, hr⟩ := hx.of_tup
  obtain ⟨b, ws, rfl, hb, hs⟩ := hy.of_tup
  refine Or.inr (Or.inr (Or.inr ⟨a, b, vs, ws, rfl, rfl, SqT.of (hF a _ ha), SqT.of (hF b _ hb), by rw [hr.len, hs.len]; exact l, fun e => ?_, fun _ e => ?_, fun _ _ p hp => ?_⟩))
  · have z : ds = [] := List.length_eq_zero_iff.mp (by rw [← hr.len, e]; rfl)
    subst z
    exact q _ F H (Ext.rfl hF) (rep_tup hb hs)
  · have z : es = [] := List.length_eq_zero_iff.mp (by rw [← hs.len, e]; rfl)
    subst z
    rw [List.append_nil] at q
    exact q _ F H (Ext.rfl hF) (rep_tup ha hr)
  · exact d_new (G := fun H' => Q (.ref p) H') hF hp fun F' H' x e => q (.ref p) F' H' x (rep_tup e (x.reps (hr.app hs)))
theorem r_i0 {g : Int → Int → V} {i j : Int} (q : Q (g i j) H) : rI0 g (.int i) (.int j) H Q := ⟨i, j, rfl, rfl, q⟩
theorem r_i {C : Int → Int → Prop} {g : Int → Int → V} {i j : Int} (c : C i j) (q : Q (g i j) H) : rI C g (.int i) (.int j) H Q := ⟨i, j, rfl, rfl, c, q⟩
theorem lt256 {j : Int} (h : -(10 ^ 75) < j ∧ j < 10 ^ 75) : j.natAbs < 2 ^ 250 := by
  have h1 : j.natAbs < 10 ^ 75 := by omega
  exact Nat.lt_trans h1 (by decide +kernel)
theorem cdivw {i j : Int} (h : 0 < j) (k : j < 10 ^ 75) : CDivW i j := by
  refine ⟨h, ?_⟩
  have h1 : j.natAbs < 2 ^ 250 := lt256 ⟨by omega, k⟩
  have h2 : j.natAbs.log2 < 250 := (Nat.log2_lt (by omega)).mpr h1
  omega
theorem r_div {i j : Int} (h : 0 < j) (k : j < 10 ^ 75) (q : Q (.int (i / j)) H) : rI CDivW (fun i j => .int (i / j)) (.int i) (.int j) H Q := ⟨i, j, rfl, rfl, cdivw h k, q⟩
theorem r_mul {i j : Int} (c : CMulX i j) (q : Q (.int (i * j)) H) : uMul (.int i) (.int j) H Q := Or.inl ⟨i, j, rfl, rfl, c, q⟩
theorem cmulx {i j : Int} (h1 : -(10 ^ 75) < i ∧ i < 10 ^ 75) (h2 : -(10 ^ 75) < j ∧ j < 10 ^ 75) : CMulX i j := by
  have a := intBits_le (a := i) (k := 250) (lt256 h1)
  have b := intBits_le (a := j) (k := 250) (lt256 h2)
  show (Builtin.Int.intBits i : Int) + (Builtin.Int.intBits j : Int) ≤ 134217728
  omega
theorem r_mulL {ds : List D} {k : Int} (hF : Same F H) (hx : Rep F (.lst ds) x) (h0 : 0 ≤ k) (h1 : k < 2 ^ 62) (l : ds.length * k.toNat ≤ sizeLine)
    (q : ∀ p F' H', Ext [] F H F' H' → Rep F' (.lst (List.replicate k.toNat ds).flatten) (.ref p) → Q (.ref p) H') : uMul x (.int k) H Q := by
  obtain ⟨a, vs, rfl, ha, hr⟩ := hx.of_lst
  have rr : ∀ n : Nat, Reps F (List.replicate n ds).flatten (List.replicate n vs).flatten := fun n => by
    induction n with
    | zero => exact reps_nil
    | succ n ih => rw [List.replicate_succ, List.replicate_succ, List.flatten_cons, List.flatten_cons]; exact hr.app ih
  exact Or.inr ⟨a, k, vs, rfl, rfl, hF a _ ha, by omega, by omega, by rw [hr.len]; exact l, fun p hp =>
    d_new (G := fun H' => Q (.ref p) H') hF hp fun F' H' x e => q p F' H' x (rep_lst e (x.reps (rr _)))⟩
-- comparisons
theorem r_eqI {i j : Int} (q : Q (.bl (decide (i = j))) H) : uEq K (.int i) (.int j) H Q := Or.inl ⟨rfl, by
  have e : decide (V.int i = V.int j) = decide (i = j) := by rw [Bool.eq_iff_iff]; simp
  rw [e]; exact q⟩
theorem r_neI {i j : Int} (q : Q (.bl (!decide (i = j))) H) : uNe K (.int i) (.int j) H Q := Or.inl ⟨rfl, by
  have e : decide (V.int i = V.int j) = decide (i = j) := by rw [Bool.eq_iff_iff]; simp
  rw [e]; exact q⟩
theorem r_eqS {i j : Str} (q : Q (.bl (decide (i = j))) H) : uEq K (.str i) (.str j) H Q := Or.inl ⟨rfl, by
  have e : decide (V.str i = V.str j) = decide (i = j) := by rw [Bool.eq_iff_iff]; simp
  rw [e]; exact q⟩
theorem r_neS {i j : Str} (q : Q (.bl (!decide (i = j))) H) : uNe K (.str i) (.str j) H Q := Or.inl ⟨rfl, by
  have e : decide (V.str i = V.str j) = decide (i = j) := by rw [Bool.eq_iff_iff]; simp
  rw [e]; exact q⟩
theorem r_eqD {d e : D} (hF : Same F H) (hx : Rep F d x) (hy : Rep F e y) (s1 : sm d = true) (s2 : sm e = true) (d1 : dep d ≤ 64) (d2 : dep e ≤ 64) (q : Q (.bl (eqD d e)) H) : uEq K x y H Q :=
  Or.inr ⟨py d, py e, rep_dp d x (hx.mono hF d x), rep_dp e y (hy.mono hF e y), shaped_of s1 d1, shaped_of s2 d2, q⟩
theorem r_neD {d e : D} (hF : Same F H) (hx : Rep F d x) (hy : Rep F e y) (s1 : sm d = true) (s2 : sm e = true) (d1 : dep d ≤ 64) (d2 : dep e ≤ 64) (q : Q (.bl (!eqD d e)) H) : uNe K x y H Q :=
  Or.inr ⟨py d, py e, rep_dp d x (hx.mono hF d x), rep_dp e y (hy.mono hF e y), shaped_of s1 d1, shaped_of s2 d2, q⟩
-- built-ins
theorem r_lenL {ds : List D} (hF : Same F H) (hx : Rep F (.lst ds) x) (q : Q (.int ds.length) H) : uLen K [x] H Q := by
  obtain ⟨a, vs, rfl, ha, hr⟩ := hx.of_lst
  exact Or.inl ⟨a, vs, rfl, Or.inl (SqL.of (hF a _ ha)), by rw [hr.len]; exact q⟩
theorem r_lenT {ds : List D} (hF : Same F H) (hx : Rep F (.tup ds) x) (q : Q (.int ds.length) H) : uLen K [x] H Q := by
  obtain ⟨a, vs, rfl, ha, hr⟩ := hx.of_tup
  exact Or.inl ⟨a, vs, rfl, Or.inr (SqT.of (hF a _ ha)), by rw [hr.len]; exact q⟩
theorem r_lenS {z : Str} (l : z.length ≤ sizeLine) (q : Q (.int z.length) H) : uLen K [.str z] H Q := Or.inr ⟨z, rfl, l, q⟩
theorem r_lenC {p : Addr} {vs : List V} (h : H p = some (.lst vs)) (q : Q (.int vs.length) H) : uLen K [.ref p] H Q := Or.inl ⟨p, vs, rfl, Or.inl (SqL.of h), q⟩
theorem r_lenQ {p : Addr} {vs : List V} (h : SqL K H p vs) (q : Q (.int vs.length) H) : uLen K [.ref p] H Q := Or.inl ⟨p, vs, rfl, Or.inl h, q⟩
/-- an item: at a place that is a natural number -/
theorem atI_in {α : Type} {xs : List α} {i : Int} (h0 : 0 ≤ i) (h1 : i < xs.length) : ∃ j : Nat, i = j ∧ ∃ (h : j < xs.length), atI xs i = some xs[j] := by
  obtain ⟨j, rfl⟩ : ∃ j : Nat, i = j := ⟨i.toNat, by omega⟩
  exact ⟨j, rfl, by omega, atI_nat (List.getElem?_eq_getElem (by omega))⟩
theorem r_ixL {ds : List D} {i : Int} (hF : Same F H) (hx : Rep F (.lst ds) x) (h0 : 0 ≤ i) (h1 : i < ds.length)
    (q : ∀ v e, ds[i.toNat]? = some e → e ∈ ds → Rep F e v → Q v H) : rIx K x (.int i) H Q := by
  obtain ⟨a, vs, rfl, ha, hr⟩ := hx.of_lst
  obtain ⟨j, rfl, hj, e⟩ := atI_in (xs := vs) h0 (by rw [hr.len]; exact h1)
  obtain ⟨d, e1, e2⟩ := hr.got (List.getElem?_eq_getElem hj)
  exact Or.inl ⟨a, vs, _, _, rfl, rfl, SqL.of (hF a _ ha), e, q _ d (by simpa using e1) (List.mem_of_getElem? e1) e2⟩
theorem r_ixT {ds : List D} {i : Int} (hF : Same F H) (hx : Rep F (.tup ds) x) (h0 : 0 ≤ i) (h1 : i < ds.length)
    (q : ∀ v e, ds[i.toNat]? = some e → e ∈ ds → Rep F e v → Q v H) : rIx K x (.int i) H Q := by
  obtain ⟨a, vs, rfl, ha, hr⟩ := hx.of_tup
  obtain ⟨j, rfl, hj, e⟩ := atI_in (xs := vs) h0 (by rw [hr.len]; exact h1)
  obtain ⟨d, e1, e2⟩ := hr.got (List.getElem?_eq_getElem hj)
  exact Or.inr (Or.inl ⟨a, vs, _, _, rfl, rfl, SqT.of (hF a _ ha), e, q _ d (by simpa using e1) (List.mem_of_getElem? e1) e2⟩)
/-- an item of a list that is written: at a written place -/
theorem r_ixC {p : Addr} {vs : List V} {i : Int} {v : V} (h : H p = some (.lst vs)) (e : atI vs i = some v) (q : Q v H) : rIx K (.ref p) (.int i) H Q := Or.inl ⟨p, vs, i, v, rfl, rfl, SqL.of h, e, q⟩
theorem r_ixQ {p : Addr} {ns : List Int} {i : Int} (h : SqL K H p (ns.map V.int)) (h0 : 0 ≤ i) (h1 : i < ns.length) (q : ∀ z, Q (.int z) H) : rIx K (.ref p) (.int i) H Q := by
  obtain ⟨j, rfl, hj, e⟩ := atI_in (xs := ns.map V.int) h0 (by rw [List.length_map]; exact h1)
  exact Or.inl ⟨p, _, _, _, rfl, rfl, h, e, by rw [List.getElem_map]; exact q _⟩
theorem r_sum {ns : List Int} (hF : Same F H) (hx : Rep F (.lst (dI ns)) x) (q : Q (.int ns.sum) H) : rSum K [x] H Q := by
  obtain ⟨a, vs, rfl, ha, hr⟩ := hx.of_lst
  have e := hr.of_ints
  subst e
  exact ⟨a, ns, rfl, SqL.of (hF a _ ha), q⟩
theorem _root_.Z.Reps.of_bls : ∀ {bs : List Bool} {vs : List V}, Reps F (bs.map D.bl) vs → vs = bs.map V.bl
  | [], _, h => h.of_nil
  | b :: bs, _, h => by
    obtain ⟨v, ws, rfl, h1, h2⟩ := Reps.of_cons (d := .bl b) (ds := bs.map D.bl) h
    rw [h1.of_bl, Reps.of_bls h2, List.map_cons]
theorem r_all {bs : List Bool} (hF : Same F H) (hx : Rep F (.lst (bs.map D.bl)) x) (q : Q (.bl (bs.all id)) H) : rAll K [x] H Q := by
  obtain ⟨a, vs, rfl, ha, hr⟩ := hx.of_lst
  have e := hr.of_bls
  subst e
  exact ⟨a, bs, rfl, SqL.of (hF a _ ha), q⟩
theorem r_sorted {ns : List Int} (hF : Same F H) (hx : Rep F (.lst (dI ns)) x)
    (q : ∀ (ns' : List Int) p F' H', ns'.Perm ns → ns'.Pairwise (· ≤ ·) → Ext [] F H F' H' → Rep F' (.lst (dI ns')) (.ref p) → Q (.ref p) H') : uSorted K [x] H Q := by
  obtain ⟨a, vs, rfl, ha, hr⟩ := hx.of_lst
  have e := hr.of_ints
  subst e
  exact ⟨a, ns, rfl, SqL.of (hF a _ ha), fun ns' p p1 p2 hp => d_new (G := fun H' => Q (.ref p) H') hF hp fun F' H' x e => q ns' p F' H' p1 p2 x (rep_lst e (reps_ints ns'))⟩
theorem r_listL {ds : List D} (hF : Same F H) (hx : Rep F (.lst ds) x) (q : ∀ p F' H', Ext [] F H F' H' → Rep F' (.lst ds) (.ref p) → Q (.ref p) H') : uListC K [x] H Q := by
  obtain ⟨a, vs, rfl, ha, hr⟩ := hx.of_lst
  exact ⟨a, vs, rfl, Or.inl (SqL.of (hF a _ ha)), fun p hp => d_new (G := fun H' => Q (.ref p) H') hF hp fun F' H' x e => q p F' H' x (rep_lst e (x.reps hr))⟩
theorem r_listT {ds : List D} (hF : Same F H) (hx : Rep F (.tup ds) x) (q : ∀ p F' H', Ext [] F H F' H' → Rep F' (.lst ds) (.ref p) → Q (.ref p) H') : uListC K [x] H Q := by
  obtain ⟨a, vs, rfl, ha, hr⟩ := hx.of_tup
  exact ⟨a, vs, rfl, Or.inr (SqT.of (hF a _ ha)), fun p hp => d_new (G := fun H' => Q (.ref p) H') hF hp fun F' H' x e => q p F' H' x (rep_lst e (x.reps hr))⟩
theorem r_listC {p : Addr} {vs : List V} {ds : List D} (hF : Same F H) (h : H p = some (.lst vs)) (hr : Reps F ds vs) (q : ∀ p F' H', Ext [] F H F' H' → Rep F' (.lst ds) (.ref p) → Q (.ref p) H') : uListC K [.ref p] H Q :=
  ⟨p, vs, rfl, Or.inl (SqL.of h), fun p hp => d_new (G := fun H' => Q (.ref p) H') hF hp fun F' H' x e => q p F' H' x (rep_lst e (x.reps hr))⟩
theorem r_tupleL {ds : List D} (hF : Same F H) (hx : Rep F (.lst ds) x) (q : ∀ p F' H', Ext [] F H F' H' → Rep F' (.tup ds) (.ref p) → Q (.ref p) H') : uTupC K [x] H Q := by
  obtain ⟨a, vs, rfl, ha, hr⟩ := hx.of_lst
  exact ⟨a, vs, rfl, Or.inl ⟨SqL.of (hF a _ ha), fun p hp => d_new (G := fun H' => Q (.ref p) H') hF hp fun F' H' x e => q p F' H' x (rep_tup e (x.reps hr))⟩⟩
theorem r_repr {d : D} (hF : Same F H) (hx : Rep F d x) (f : Fit d) (q : Q (.str (txt d)) H) : rRp [x] H Q := ⟨d, x, rfl, hx.mono hF d x, f.sm, f.len, f.dep, q⟩
theorem r_max {i j : Int} (q : Q (.int (if j > i then j else i)) H) : uMax K [.int i, .int j] H Q := Or.inl ⟨i, j, rfl, q⟩
theorem r_min {i j : Int} (q : Q (.int (if j < i then j else i)) H) : uMin K [.int i, .int j] H Q := Or.inl ⟨i, j, rfl, q⟩
theorem r_intB {k : Bool} (q : Q (.int (if k then 1 else 0)) H) : uInt [.bl k] H Q := Or.inl (Or.inr ⟨k, rfl, q⟩)
/-- what isinstance looks at: data, or what is no data but of a known kind -/
theorem tyx_D {d : D} (hF : Same F H) (hx : Rep F d x) : TyX K H x (.type (tnm d)) := by
  cases d with
  | non => rw [hx.of_non]; exact .base .non
  | bl b => rw [hx.of_bl]; exact .base (.bl b)
  | int i => rw [hx.of_int]; exact .base (.int i)
  | str s => rw [hx.of_str]; exact .base (.str s)
  | lst ds =>
    obtain ⟨a, vs, rfl, ha, hr⟩ := hx.of_lst
    exact .base (.lst (hF a _ ha))
  | tup ds =>
    obtain ⟨a, vs, rfl, ha, hr⟩ := hx.of_tup
    exact .base (.tup (hF a _ ha))
theorem r_isi {d : D} {n : String} (hF : Same F H) (hx : Rep F d x) (hn : n ∈ T6) (q : Q (.bl (isT d n)) H) : uIsi K [x, .ty n] H Q :=
  Or.inl ⟨x, .ty n, _, _, _, rfl, .ty n, tyx_D hF hx, kit_D K d n hn, q⟩
theorem r_isiC {p : Addr} {vs : List V} {n : String} (h : H p = some (.lst vs)) (hn : n ∈ T6) (q : Q (.bl (isT (.lst []) n)) H) : uIsi K [.ref p, .ty n] H Q :=
  Or.inl ⟨.ref p, .ty n, _, _, _, rfl, .ty n, .base (.lst h), kit_D K (.lst []) n hn, q⟩
theorem r_isi2 {d : D} {a b : String} {p : Addr} (hF : Same F H) (hx : Rep F d x) (hp : H p = some (.tup [.ty a, .ty b])) (ha : a ∈ T6) (hb : b ∈ T6) (q : Q (.bl (isT d a || isT d b)) H) : uIsi K [x, .ref p] H Q := by
  refine Or.inr ⟨x, p, [.ty a, .ty b], _, [.type a, .type b], _, rfl, hp, .cons (.ty a) (.cons (.ty b) .nil), tyx_D hF hx, ?_, q⟩
  refine kitAny_cons (kit_D K d a ha) (fun e => ?_) (fun e => by rw [e]; rfl)
  rw [e, Bool.false_or]
  exact kitAny_cons (kit_D K d b hb) (fun e => by rw [e]; exact kitAny_nil) (fun e => e)
end
section
variable {K : PySem.W.Frag} {F H : Hp} {D : Ends} {σ : St}
/-- xs.append(v), xs written -/
theorem r_append {p : Addr} {vs : List V} {v : V} {Q : VK} (h : H p = some (.lst vs)) (l : vs.length < 10000000) (q : Q .non (upd H p (.lst (vs ++ [v])))) : tyV K "list" (.ref p) H ∧ rAppend (.ref p) [v] H Q :=
  ⟨Or.inl ⟨rfl, _, SqL.of h⟩, p, vs, v, rfl, rfl, h, by rw [sizeLine_eq]; omega, q⟩
/-- a test: then, else -/
theorem ite_d {p A B : Prop} [Decidable p] (h1 : p → A) (h2 : ¬ p → B) : if decide p = true then A else B := by
  by_cases h : p
  · rw [decide_eq_true h, if_pos rfl]; exact h1 h
  · rw [decide_eq_false h, if_neg Bool.false_ne_true]; exact h2 h
theorem ite_nd {p A B : Prop} [Decidable p] (h1 : ¬ p → A) (h2 : p → B) : if (!decide p) = true then A else B := by
  by_cases h : p
  · rw [decide_eq_true h]; exact h2 h
  · rw [decide_eq_false h]; exact h1 h
theorem ite_b {b : Bool} {A B : Prop} (h1 : b = true → A) (h2 : b = false → B) : if b = true then A else B := by
  cases b with
  | true => exact h1 rfl
  | false => exact h2 rfl
end
end Z

namespace Z
open PySem PySem.Spec PyProof.Rows L2

/-- F stays, H is written at B -/
structure Wr (B : List Addr) (F H H' : Hp) : Prop where
  e : Ext B F H F H'
section
variable {B B' B1 B2 : List Addr} {F H F1 H1 F2 H2 H' : Hp} {a : Addr} {o : HO} {d : D} {v : V} {ds : List D} {vs : List V}
theorem Ext.tr (x : Ext B F H F1 H1) (y : Ext B2 F1 H1 F2 H2) (s : ∀ a, a ∈ B2 → a ∈ B) : Ext B F H F2 H2 := x.trans (y.wide s)
theorem Ext.trW (x : Ext B F H F1 H1) (y : Wr B2 F1 H1 H2) (s : ∀ a, a ∈ B2 → a ∈ B) : Ext B F H F1 H2 := x.trans (y.e.wide s)
theorem Ext.trY (y : Ext B2 F1 H1 F2 H2) (x : Ext B F H F1 H1) (s : ∀ a, a ∈ B2 → a ∈ B) : Ext B F H F2 H2 := x.trans (y.wide s)
theorem Ext.trWY (y : Wr B2 F1 H1 H2) (x : Ext B F H F1 H1) (s : ∀ a, a ∈ B2 → a ∈ B) : Ext B F H F1 H2 := x.trans (y.e.wide s)
theorem Wr.fh (x : Wr B F H H') : Same F H' := x.e.fh
theorem Wr.cell (x : Wr B F H H') (h : H a = some o) (n : a ∉ B) : H' a = some o := x.e.hh a o n h
theorem Ext.sql {K : PySem.W.Frag} (x : Ext B F H F1 H1) {xs : List V} (h : SqL K F a xs) : SqL K F1 a xs := x.ff.seq h
theorem ne_nil : a ∉ ([] : List Addr) := by simp
theorem ne_one {b : Addr} (h : a ≠ b) : a ∉ [b] := by simp [h]
end

section
variable {σ : St} {H : Hp} {Q : VK} {K : PySem.W.Frag} {ta tb tc te : TE} {t u : TT} {nx bk ct : St → Hp → Prop} {rt : VK} {x y v : V}
theorem z_var {i : Nat} (h : σ[i]? = some (some v)) (q : Q v H) : tVar i σ H Q := ⟨v, h, q⟩
theorem z_c (q : Q v H) : tC v σ H Q := q
theorem z_op {r : R2} (h : ta σ H fun x H1 => tb σ H1 fun y H2 => r x y H2 Q) : tOp r ta tb σ H Q := h
theorem z_un {r : V → Hp → VK → Prop} (h : ta σ H fun x H1 => r x H1 Q) : tUn r ta σ H Q := h
theorem z_neg {i : Int} (q : Q (.int (-i)) H) : rU (fun i => .int (-i)) (.int i) H Q := ⟨i, rfl, q⟩
def IsB (x : V) (H : Hp) (Q : Bool → Hp → Prop) : Prop := ∃ k, x = .bl k ∧ Q k H
theorem z_isB {k : Bool} {Q : Bool → Hp → Prop} (q : Q k H) : IsB (.bl k) H Q := ⟨k, rfl, q⟩
theorem z_test {Q : Bool → Hp → Prop} (h : te σ H fun x H1 => IsB x H1 Q) : tTest te σ H Q := h
theorem z_tB {Q : Bool → Hp → Prop} (h : te σ H fun x H1 => IsB x H1 Q) : tB te σ H Q := h
theorem z_and {Q : Bool → Hp → Prop} (h : t σ H fun c H1 => if c = true then u σ H1 Q else Q false H1) : tAnd t u σ H Q := h
theorem z_or {Q : Bool → Hp → Prop} (h : t σ H fun c H1 => if c = true then Q true H1 else u σ H1 Q) : tOr t u σ H Q := h
theorem z_not {Q : Bool → Hp → Prop} (h : t σ H fun c H1 => Q (!c) H1) : tNot t σ H Q := h
theorem z_andV (h : ta σ H fun x H1 => IsB x H1 fun c H2 => if c = true then tb σ H2 Q else Q (.bl false) H2) : tAndV ta tb σ H Q := h
theorem z_orV (h : ta σ H fun x H1 => IsB x H1 fun c H2 => if c = true then Q (.bl true) H2 else tb σ H2 Q) : tOrV ta tb σ H Q := h
theorem z_notV (h : ta σ H fun x H1 => IsB x H1 fun c H2 => Q (.bl (!c)) H2) : tNotV ta σ H Q := h
theorem z_ifE (h : t σ H fun c H1 => if c = true then ta σ H1 Q else tb σ H1 Q) : tIf t ta tb σ H Q := h
theorem z_chain {r r' : R2} (h : ta σ H fun x H1 => tb σ H1 fun y H2 => r x y H2 fun z H3 => IsB z H3 fun k H4 => if k = true then tc σ H4 fun w H5 => r' y w H5 Q else Q (.bl false) H4) : tChain r r' ta tb tc σ H Q := h
theorem z_nil {Q : List V → Hp → Prop} (q : Q [] H) : tNil σ H Q := q
theorem z_cons {tr : TA} {Q : List V → Hp → Prop} (h : ta σ H fun x H1 => tr σ H1 fun xs H2 => Q (x :: xs) H2) : tCons ta tr σ H Q := h
def MkTup (xs : List V) (H : Hp) (Q : VK) : Prop := xs.length ≤ sizeLine ∧ ∀ p, H p = none → Q (.ref p) (upd H p (.tup xs))
def MkLst (xs : List V) (H : Hp) (Q : VK) : Prop := xs.length ≤ sizeLine ∧ ∀ p, H p = none → Q (.ref p) (upd H p (.lst xs))
theorem z_tup {t : TA} (h : t σ H fun xs H1 => MkTup xs H1 Q) : tTup t σ H Q := h
theorem z_lst {t : TA} (h : t σ H fun xs H1 => MkLst xs H1 Q) : tLst t σ H Q := h
theorem z_CB {r : List V → Hp → VK → Prop} {t : TA} (h : t σ H fun vs H1 => r vs H1 Q) : tCB r t σ H Q := h
def OnT (K : PySem.W.Frag) (T : String) (r : V → List V → Hp → VK → Prop) (x : V) (H : Hp) (Q : VK) : Prop := tyV K T x H ∧ r x [] H Q
theorem z_BM0 {T : String} {r : V → List V → Hp → VK → Prop} (h : te σ H fun x H1 => OnT K T r x H1 Q) : tBM0 K T r te σ H Q := h
theorem z_seq {t u : TS} (h : t ⟨u ⟨nx, rt, bk, ct⟩, rt, bk, ct⟩ σ H) : tSeq t u ⟨nx, rt, bk, ct⟩ σ H := h
theorem z_next (q : nx σ H) : tNext ⟨nx, rt, bk, ct⟩ σ H := q
theorem z_brk (q : bk σ H) : tBreak ⟨nx, rt, bk, ct⟩ σ H := q
theorem z_asg {g : TG} (h : te σ H fun x H1 => g x σ H1 nx) : tAsg te g ⟨nx, rt, bk, ct⟩ σ H := h
theorem z_gname {i : Nat} {Q : St → Hp → Prop} (q : Q (σ.set i (some v)) H) : gName i v σ H Q := q
theorem z_ret (h : te σ H rt) : tRet te ⟨nx, rt, bk, ct⟩ σ H := h
theorem z_retN (h : rt .non H) : tRetN ⟨nx, rt, bk, ct⟩ σ H := h
theorem z_drop (h : te σ H fun _ H1 => nx σ H1) : tDrop te ⟨nx, rt, bk, ct⟩ σ H := h
theorem z_ifS {t1 t2 : TS} (h : t σ H fun b H1 => if b = true then t1 ⟨nx, rt, bk, ct⟩ σ H1 else t2 ⟨nx, rt, bk, ct⟩ σ H1) : tIfS t t1 t2 ⟨nx, rt, bk, ct⟩ σ H := h
def PairTo (i j : Nat) (nx : St → Hp → Prop) (σ : St) (vs : List V) (H : Hp) : Prop := ∃ v w, vs = [v, w] ∧ nx ((σ.set i (some v)).set j (some w)) H
theorem z_par {i j : Nat} {t : TA} (h : t σ H fun vs H1 => PairTo i j nx σ vs H1) : tPar i j t ⟨nx, rt, bk, ct⟩ σ H := h
theorem z_pair {i j : Nat} {v w : V} (q : nx ((σ.set i (some v)).set j (some w)) H) : PairTo i j nx σ [v, w] H := ⟨v, w, rfl, q⟩
theorem z_it {R : It → Hp → Prop} (h : te σ H fun x H1 => vIt K x H1 R) : uIt K te σ H R := h
theorem z_for {wi : TI} {g : TG} {tb : TS} (h : wi σ H fun J H1 => ForG g tb ⟨nx, rt, bk, ct⟩ σ J H1) : tFor wi g tb ⟨nx, rt, bk, ct⟩ σ H := h
theorem z_lc {wi : TI} {g : TG} {tt : TT} {vs : List Nat} (h : wi σ H fun J H1 => LcG g tt te vs σ Q J H1) : tLc wi g tt te vs σ H Q := h
def RngTo (vs : List V) (H : Hp) (R : It → Hp → Prop) : Prop := ∃ j : Int, vs = [.int j] ∧ -(2 ^ 62) ≤ j ∧ j < 2 ^ 62 ∧ R (Itr 0 j.toNat) H
theorem z_rng1 {t : TA} {R : It → Hp → Prop} (h : t σ H fun vs H1 => RngTo vs H1 R) : iRng1 t σ H R := h
theorem z_rngTo {j : Int} {R : It → Hp → Prop} (h1 : -(2 ^ 62) ≤ j) (h2 : j < 2 ^ 62) (q : R (Itr 0 j.toNat) H) : RngTo [.int j] H R := ⟨j, rfl, h1, h2, q⟩
theorem z_C2 {n m : Nat} {gV : List V → List V → List V} {sp : Sp} {E : St → XK} {t tk : TA} (h : t σ H fun vs H1 => tk σ H1 fun zs H2 => vs.length = n ∧ zs.length = m ∧ sp (gV vs zs) H2 Q (E σ)) : tC2 n m gV sp E t tk σ H Q := h
theorem z_sp {n m : Nat} {vs zs : List V} {p : Prop} (h1 : vs.length = n) (h2 : zs.length = m) (h : p) : vs.length = n ∧ zs.length = m ∧ p := ⟨h1, h2, h⟩
theorem z_yes {Q : Bool → Hp → Prop} (q : Q true H) : tYes σ H Q := q
theorem z_wipe {i : Nat} {vs : List Nat} {p : Prop} (h : wipe σ vs = wipe σ vs) (q : p) : wipe σ vs = wipe σ vs ∧ p := ⟨rfl, q⟩
theorem z_fld {f : Str} {a C dx : Addr} {fs : List (Str × V)} (h : te σ H fun x H1 => ∃ a C dx fs v, x = .ref a ∧ H1 a = some (.ins C dx fs) ∧ Cls K C ∧ NoAttr K C f ∧ fs.lookup f = some v ∧ Q v H1) : tFld K te f σ H Q := h
/-- list stores -/
def SetTo (o i v : V) (H : Hp) (Q : Hp → Prop) : Prop := rSetL o i v H Q
theorem z_gsub {t : TSet} {to ti : TE} {Q : St → Hp → Prop} (h : to σ H fun o H1 => ti σ H1 fun i H2 => t o i v H2 fun H3 => Q σ H3) : gSub to ti t v σ H Q := h
theorem z_setL {p : Addr} {vs : List V} {k : Int} {j : Nat} {Q : Hp → Prop} (h : H p = some (.lst vs)) (e : ixN vs.length k = some j) (q : Q (upd H p (.lst (vs.set j v)))) : rSetL (.ref p) (.int k) v H Q := ⟨p, vs, k, j, rfl, rfl, h, e, q⟩
/-- xs.append(e) -/
theorem z_app {t : TE} (h : te σ H fun x H1 => tyV K "list" x H1 ∧ t σ H1 fun y H2 => rAppend x [y] H2 Q) : tBM K "list" rAppend te (tCons t tNil) σ H Q := h
theorem ite_t {A B : Prop} (h : A) : if true = true then A else B := by rw [if_pos rfl]; exact h
theorem ite_f {A B : Prop} (h : B) : if false = true then A else B := by rw [if_neg Bool.false_ne_true]; exact h
theorem ite_nt {A B : Prop} (h : B) : if (!true) = true then A else B := ite_f h
theorem ite_nf {A B : Prop} (h : A) : if (!false) = true then A else B := ite_t h
end
section
variable {A B : Prop} {b : Bool} {d : D} {n n2 : String}
theorem ite_eT (h : b = true) (q : A) : if b = true then A else B := by rw [if_pos h]; exact q
theorem ite_eF (h : b = false) (q : B) : if b = true then A else B := by rw [h, if_neg Bool.false_ne_true]; exact q
/-- a test of kinds -/
class KTest (b : Bool) : Prop where
  t : True
instance : KTest (isT d n) := ⟨trivial⟩
instance [KTest b] : KTest (!b) := ⟨trivial⟩
instance {c : Bool} [KTest b] [KTest c] : KTest (b || c) := ⟨trivial⟩
instance {c : Bool} [KTest b] [KTest c] : KTest (b && c) := ⟨trivial⟩
theorem gi_1 [KTest b] (h : if b = true then A else B) : if b = true then A else B := h
end
theorem r_tup' {F H : Hp} {Q : VK} {vs : List V} {ds : List D} (hF : Same F H) (r : Reps F ds vs) (l : vs.length ≤ sizeLine) (q : ∀ p F' H', Ext [] F H F' H' → Rep F' (.tup ds) (.ref p) → Q (.ref p) H') : MkTup vs H Q := r_tup hF r l q
theorem r_lst' {F H : Hp} {Q : VK} {vs : List V} {ds : List D} (hF : Same F H) (r : Reps F ds vs) (l : vs.length ≤ sizeLine) (q : ∀ p F' H', Ext [] F H F' H' → Rep F' (.lst ds) (.ref p) → Q (.ref p) H') : MkLst vs H Q := r_lst hF r l q
theorem r_lstW {F H : Hp} {Q : VK} {vs : List V} (hF : Same F H) (l : vs.length ≤ sizeLine) (q : ∀ p H', Wr [] F H H' → H' p = some (.lst vs) → F p = none → H p = none → Q (.ref p) H') : MkLst vs H Q :=
  r_lstM hF l fun p H' x => q p H' ⟨x⟩
theorem r_tupW {F H : Hp} {Q : VK} {vs : List V} (hF : Same F H) (l : vs.length ≤ sizeLine) (q : ∀ p H', Wr [] F H H' → H' p = some (.tup vs) → F p = none → H p = none → Q (.ref p) H') : MkTup vs H Q :=
  r_tupM hF l fun p H' x => q p H' ⟨x⟩
theorem z_st {N : List Str} {vs : List V} {σ : St} {t : TS} {D : Ends} {H : Hp} (e : start N vs = σ) (h : t D σ H) : t D (start N vs) H := by rw [e]; exact h
section
variable {K : PySem.W.Frag} {H : Hp} {Q : VK} {σ : St} {x y : V} {xs : List V} {i : Nat}
theorem gd_var (h : tVar i σ H Q) : tVar i σ H Q := h
theorem gd_add (h : uAdd K x y H Q) : uAdd K x y H Q := h
theorem gd_mul (h : uMul x y H Q) : uMul x y H Q := h
theorem gd_eq (h : uEq K x y H Q) : uEq K x y H Q := h
theorem gd_ne (h : uNe K x y H Q) : uNe K x y H Q := h
theorem gd_len (h : uLen K xs H Q) : uLen K xs H Q := h
theorem gd_ix (h : rIx K x y H Q) : rIx K x y H Q := h
theorem gd_isi (h : uIsi K xs H Q) : uIsi K xs H Q := h
theorem gd_sum (h : rSum K xs H Q) : rSum K xs H Q := h
theorem gd_all (h : rAll K xs H Q) : rAll K xs H Q := h
theorem gd_sorted (h : uSorted K xs H Q) : uSorted K xs H Q := h
theorem gd_listC (h : uListC K xs H Q) : uListC K xs H Q := h
theorem gd_tupC (h : uTupC K xs H Q) : uTupC K xs H Q := h
theorem gd_rp (h : rRp xs H Q) : rRp xs H Q := h
theorem gd_MkTup (h : MkTup xs H Q) : MkTup xs H Q := h
theorem gd_MkLst (h : MkLst xs H Q) : MkLst xs H Q := h
end
theorem small_le {n : Nat} (h : n ≤ 5000) : n ≤ sizeLine := by rw [sizeLine_eq]; omega
/-- what a def is started with -/
theorem same_refl (H : Hp) : Same H H := Same.refl H
end Z

namespace Z
open PySem PySem.Spec PyProof.Rows L2
section
variable {B B' : List Addr} {F H F1 H1 : Hp} {p : Addr} {o : HO} {ys : List V} {es : List D}
/-- a list that was made in this run, and was kept apart, becomes data -/
theorem Ext.seal (x : Ext B F H F1 H1) (hp : H p = none) (h1 : H1 p = some (.lst ys)) (f1 : F1 p = none) (r : Reps F1 es ys) :
    Ext B F H (upd F1 p (.lst ys)) H1 ∧ Rep (upd F1 p (.lst ys)) (.lst es) (.ref p) := by
  have s : Same F1 (upd F1 p (.lst ys)) := fun b u e => by rw [upd_ne (ne_of_none e f1)]; exact e
  refine ⟨⟨x.ff.trans s, fun b u e => ?_, x.hh, fun a h1' h2 => ?_, x.st⟩, rep_lst upd_same (r.mono s)⟩
  · by_cases z : b = p
    · subst z; rw [upd_same] at e; cases e; exact h1
    · rw [upd_ne z] at e; exact x.fh b u e
  · by_cases z : a = p
    · subst z; exact absurd hp h1'
    · rw [upd_ne z]; exact x.nw a h1' h2
/-- a cell that stands outside of F, written in this run: data from now on (nothing more may be written to it) -/
theorem Ext.seal' (x : Ext B F H F1 H1) (m : H p = none ∨ F p = none) (h1 : H1 p = some (.lst ys)) (f1 : F1 p = none) (r : Reps F1 es ys) :
    Same (upd F1 p (.lst ys)) H1 ∧ Same F1 (upd F1 p (.lst ys)) ∧ Rep (upd F1 p (.lst ys)) (.lst es) (.ref p) := by
  have s : Same F1 (upd F1 p (.lst ys)) := fun b u e => by rw [upd_ne (ne_of_none e f1)]; exact e
  refine ⟨fun b u e => ?_, s, rep_lst upd_same (r.mono s)⟩
  by_cases z : b = p
  · subst z; rw [upd_same] at e; cases e; exact h1
  · rw [upd_ne z] at e; exact x.fh b u e
end
section
variable {K : PySem.W.Frag} {g : TG} {σ : St} {F H : Hp} {x : V} {d : Z.D} {ds : List Z.D} {Q : VK} {vs : List Nat} {tt : TT} {te : TE}
/-- [te for v in d if tt], where each turn adds nothing but new objects -/
theorem d_lcM (hF : Same F H) (hx : Rep F d x) (hd : items d = some ds) (hn : ds.length ≤ 1000000) (fm : Z.D → Option Z.D)
    (hs : ∀ e v F' H' (Y : VK) (N : Hp → Prop), e ∈ ds → Rep F' e v → Ext [] F H F' H' → (∀ e' y F4 H4, fm e = some e' → Ext [] F' H' F4 H4 → Rep F4 e' y → Y y H4) →
      (∀ F4 H4, fm e = none → Ext [] F' H' F4 H4 → N H4) → g v (wipe σ vs) H' fun σ2 H2 => wipe σ2 vs = wipe σ vs ∧ tt σ2 H2 fun b H3 => if b = true then te σ2 H3 Y else N H3)
    (he : ∀ p F' H', H p = none → Ext [] F H F' H' → Rep F' (.lst (ds.filterMap fm)) (.ref p) → Q (.ref p) H') : vIt K x H (fun J H1 => LcG g tt te vs σ Q J H1) := by
  refine d_lc hF hx hd hn [] (by simp) (fun i es F' H' => es = (ds.take i).filterMap fm) (fun _ _ _ _ _ _ _ _ h => h) rfl ?_ ?_
  · intro p i es ys e v F' H' hi he' hc hI
    have l : i < ds.length := (List.getElem?_eq_some_iff.mp hi).1
    have tk : ds.take (i + 1) = ds.take i ++ [e] := by rw [List.take_add_one, hi]; rfl
    subst hI
    refine hs e v F' H' _ _ (List.mem_of_getElem? hi) he' hc.x (fun e' y F4 H4 h1 h2 h3 => ?_) (fun F4 H4 h1 h2 => ?_)
    · refine lc_yes (fun _ _ _ _ _ _ _ _ h => h) hc (by omega) h2 h3 ?_
      rw [tk, List.filterMap_append]; simp [h1]
    · refine lc_no hc (by omega) h2 ?_
      rw [tk, List.filterMap_append]; simp [h1]
  · intro p es ys F' H' hp le hx' h1 f1 r hI
    rw [List.take_length] at hI
    subst hI
    obtain ⟨a, b⟩ := hx'.seal hp h1 f1 r
    exact he p _ _ hp a b
theorem d_lcRM {lo : Int} {n : Nat} (hF : Same F H) (hn : n ≤ 1000000) (fm : Nat → Option Z.D)
    (hs : ∀ i F' H' (Y : VK) (N : Hp → Prop), i < n → Ext [] F H F' H' → (∀ e' y F4 H4, fm i = some e' → Ext [] F' H' F4 H4 → Rep F4 e' y → Y y H4) →
      (∀ F4 H4, fm i = none → Ext [] F' H' F4 H4 → N H4) → g (.int (lo + (i : Nat))) (wipe σ vs) H' fun σ2 H2 => wipe σ2 vs = wipe σ vs ∧ tt σ2 H2 fun b H3 => if b = true then te σ2 H3 Y else N H3)
    (he : ∀ p F' H', H p = none → Ext [] F H F' H' → Rep F' (.lst ((List.range n).filterMap fm)) (.ref p) → Q (.ref p) H') : LcG g tt te vs σ Q (Itr lo n) H := by
  refine d_lcR hF hn [] (by simp) (fun i es F' H' => es = (List.range i).filterMap fm) (fun _ _ _ _ _ _ _ _ h => h) rfl ?_ ?_
  · intro p i es ys F' H' hi hc hI
    subst hI
    refine hs i F' H' _ _ hi hc.x (fun e' y F4 H4 h1 h2 h3 => ?_) (fun F4 H4 h1 h2 => ?_)
    · refine lc_yes (fun _ _ _ _ _ _ _ _ h => h) hc (by omega) h2 h3 ?_
      rw [List.range_succ, List.filterMap_append]; simp [h1]
    · refine lc_no hc (by omega) h2 ?_
      rw [List.range_succ, List.filterMap_append]; simp [h1]
  · intro p es ys F' H' hp le hx' h1 f1 r hI
    subst hI
    obtain ⟨a, b⟩ := hx'.seal hp h1 f1 r
    exact he p _ _ hp a b
theorem z_wipeE {σ2 σ3 : St} {p : Prop} (h : σ2 = σ3) (q : p) : σ2 = σ3 ∧ p := ⟨h, q⟩
end
theorem filterMap_some {α β : Type} (f : α → β) (xs : List α) : xs.filterMap (fun x => some (f x)) = xs.map f := by
  induction xs with
  | nil => rfl
  | cons x xs ih => rw [List.filterMap_cons, ih]; rfl
theorem map_bls {α : Type} (f : α → Bool) (xs : List α) : xs.filterMap (fun x => some (Z.D.bl (f x))) = (xs.map f).map Z.D.bl := by
  rw [filterMap_some (fun x => Z.D.bl (f x)), List.map_map]; rfl
theorem all_map {α : Type} (f : α → Bool) (xs : List α) : (xs.map f).all id = xs.all f := by
  rw [List.all_map]; rfl
end Z

namespace Z
open PySem PySem.Spec PyProof.Rows L2
section
variable {K : PySem.W.Frag} {F H : Hp} {Q : VK} {x y v : V} {i j : Int}
theorem r_mod (h : 0 < j) (q : Q (.int (i % j)) H) : rI (fun _ j => 0 < j) (fun i j => .int (i % j)) (.int i) (.int j) H Q := ⟨i, j, rfl, rfl, h, q⟩
theorem r_pow (c : 0 ≤ j ∧ j ≤ 1000000 ∧ i.natAbs < 2 ^ 64) (q : Q (.int (i ^ j.toNat)) H) : rI CPow (fun i j => .int (i ^ j.toNat)) (.int i) (.int j) H Q := ⟨i, j, rfl, rfl, c, q⟩
theorem r_shl1 {p : Nat} (h : p ≤ 100000) (q : Q (.int ((2 : Int) ^ p)) H) : rI CShl (fun i j => .int (i * 2 ^ j.toNat)) (.int 1) (.int (p : Int)) H Q := by
  refine ⟨1, p, rfl, rfl, shl_ok (i := 1) (j := p) (n := 1) (by decide) (by omega), ?_⟩
  show Q (.int (1 * 2 ^ (p : Int).toNat)) H
  rw [Int.toNat_natCast, Int.one_mul]
  exact q
theorem r_mulB (h1 : -(10 ^ 75) < i ∧ i < 10 ^ 75) (h2 : -(10 ^ 75) < j ∧ j < 10 ^ 75) (q : Q (.int (i * j)) H) : uMul (.int i) (.int j) H Q := r_mul (cmulx h1 h2) q
theorem sq_bd {c w : Int} (h1 : 0 ≤ c) (h2 : c ≤ 200000) (h3 : 0 ≤ w) (h4 : w ≤ 1000001) : 0 ≤ c * w * w ∧ c * w * w ≤ 200000 * 1000001 * 1000001 := by
  have a : 0 ≤ c * w := Int.mul_nonneg h1 h3
  have b : c * w ≤ 200000 * 1000001 := Int.mul_le_mul h2 h4 h3 (by decide)
  exact ⟨Int.mul_nonneg a h3, Int.mul_le_mul b h4 h3 (by decide)⟩
theorem r_powSq {a c w e : Int} (ha : 0 ≤ a ∧ a < 2 ^ 62) (hc : 0 ≤ c ∧ c ≤ 200000) (hw : 0 ≤ w ∧ w ≤ 1000001) (he : 0 ≤ e ∧ e ≤ 100000) (hj : 0 ≤ j ∧ j ≤ 10) (q : Q (.int ((a + c * w * w + e) ^ j.toNat)) H) :
    rI CPow (fun i j => .int (i ^ j.toNat)) (.int (a + c * w * w + e)) (.int j) H Q := by
  have := sq_bd hc.1 hc.2 hw.1 hw.2
  exact r_pow ⟨by omega, by omega, by omega⟩ q
/-- a write to a list that F does not know -/
theorem z_setC {p : Addr} {vs ws : List V} {k : Int} {jn : Nat} {Q : Hp → Prop} (hF : Same F H) (h : H p = some (.lst vs)) (fp : F p = none) (e : ixN vs.length k = some jn) (es : vs.set jn v = ws)
    (q : ∀ H', Wr [p] F H H' → H' p = some (.lst ws) → Q H') : rSetL (.ref p) (.int k) v H Q := by
  subst es
  exact z_setL h e (q _ ⟨Ext.set hF fp (by simp)⟩ upd_same)
/-- append to such a list -/
theorem r_appC {p : Addr} {vs : List V} (hF : Same F H) (h : H p = some (.lst vs)) (fp : F p = none) (l : vs.length < 10000000)
    (q : ∀ H', Wr [p] F H H' → H' p = some (.lst (vs ++ [v])) → Q .non H') : tyV K "list" (.ref p) H ∧ rAppend (.ref p) [v] H Q :=
  r_append h l (q _ ⟨Ext.set hF fp (by simp)⟩ upd_same)
theorem r_appCx {p : Addr} {vs : List V} {G : Prop} (h : H p = some (.lst vs)) (q : G) : tyV K "list" (.ref p) H ∧ G := ⟨Or.inl ⟨rfl, _, SqL.of h⟩, q⟩
theorem r_appC2 {p : Addr} {vs : List V} (hF : Same F H) (h : H p = some (.lst vs)) (fp : F p = none) (l : vs.length < 10000000)
    (q : ∀ H', Wr [p] F H H' → H' p = some (.lst (vs ++ [v])) → Q .non H') : rAppend (.ref p) [v] H Q :=
  ⟨p, vs, v, rfl, rfl, h, by rw [sizeLine_eq]; omega, q _ ⟨Ext.set hF fp (by simp)⟩ upd_same⟩
/-- xs.reverse() -/
theorem r_revC {p : Addr} {vs : List V} (hF : Same F H) (h : H p = some (.lst vs)) (fp : F p = none)
    (q : ∀ H', Wr [p] F H H' → H' p = some (.lst vs.reverse) → Q .non H') : OnT K "list" rReverse (.ref p) H Q :=
  ⟨Or.inl ⟨rfl, _, SqL.of h⟩, p, vs, rfl, rfl, h, q _ ⟨Ext.set hF fp (by simp)⟩ upd_same⟩
end

section
variable {K : PySem.W.Frag} {H : Hp} {Q : VK} {x y v : V} {xs : List V}
theorem gd_setL {Q : Hp → Prop} (h : rSetL x y v H Q) : rSetL x y v H Q := h
theorem gd_app (h : rAppend x xs H Q) : rAppend x xs H Q := h
theorem gd_rev (h : OnT K "list" rReverse x H Q) : OnT K "list" rReverse x H Q := h
end
/-! ### rules within a comprehension's block -/
section
variable {X : Cx} {s : Shared} {H : Hp} {sc : Scope} {ce : Env} {fp : List Addr}
theorem u_addB : OpR (Cx.blk X s H sc ce fp) (binaryOp .Add) (uAdd X.K) := u_add
theorem u_eqB (hr : Rm 1 X.A) : OpR (Cx.blk X s H sc ce fp) (compareOp .Eq) (uEq X.K) := u_eq hr
theorem u_neB (hr : Rm 1 X.A) : OpR (Cx.blk X s H sc ce fp) (compareOp .NotEq) (uNe X.K) := u_ne hr
theorem u_lenB : CallR (Cx.blk X s H sc ce fp) (.builtin "len") (uLen X.K) := u_len
theorem u_isiB : CallR (Cx.blk X s H sc ce fp) (.builtin "isinstance") (uIsi X.K) := u_isi
theorem u_sortedB : CallR (Cx.blk X s H sc ce fp) (.builtin "sorted") (uSorted X.K) := u_sorted
theorem u_listB (h : X.calm = true) : CallR (Cx.blk X s H sc ce fp) (.type "list") (uListC X.K) := u_list h
theorem u_tupleB : CallR (Cx.blk X s H sc ce fp) (.type "tuple") (uTupC X.K) := u_tuple
theorem u_maxB (h : X.calm = true) : CallR (Cx.blk X s H sc ce fp) (.builtin "max") (uMax X.K) := u_max h
theorem u_minB (h : X.calm = true) : CallR (Cx.blk X s H sc ce fp) (.builtin "min") (uMin X.K) := u_min h
theorem ix_seqB : IxR (Cx.blk X s H sc ce fp) (rIx X.K) := ix_seq
theorem cr_sumB (h : X.calm = true) : CallR (Cx.blk X s H sc ce fp) (.builtin "sum") (rSum X.K) := cr_sum h
theorem cr_allB (h : X.calm = true) : CallR (Cx.blk X s H sc ce fp) (.builtin "all") (rAll X.K) := cr_all h
end
/-! ### what fits -/
mutual
def okD : D → Bool
  | .int i => decide (i.natAbs < 10 ^ 570)
  | .str x => PyData.strOk x
  | .lst xs => okDs xs
  | .tup xs => okDs xs
  | .non | .bl _ => true
def okDs : List D → Bool
  | [] => true
  | x :: xs => okD x && okDs xs
end
mutual
def wt : D → Nat
  | .str x => x.cps.size
  | .lst xs => wts xs
  | .tup xs => wts xs
  | .non | .bl _ | .int _ => 0
def wts : List D → Nat
  | [] => 0
  | x :: xs => wt x + 1 + wts xs
end
theorem p570 : (10 : Nat) ^ 570 < 2 ^ 1920 := by decide +kernel
theorem okDs_mem : ∀ {xs : List D}, okDs xs = true ↔ ∀ x ∈ xs, okD x = true
  | [] => by unfold okDs; simp
  | x :: xs => by unfold okDs; rw [Bool.and_eq_true_iff, okDs_mem]; simp
mutual
theorem sm_of : ∀ d : D, okD d = true → sm d = true
  | .non, _ => by unfold sm; rfl
  | .bl _, _ => by unfold sm; rfl
  | .int i, h => by
    unfold okD at h
    unfold sm smI
    have h1 := of_decide_eq_true h
    refine decide_eq_true ?_
    by_cases z : i.natAbs = 0
    · rw [z]; decide
    · exact (Nat.log2_lt z).mpr (Nat.lt_trans h1 p570)
  | .str x, h => by unfold okD at h; unfold sm; exact h
  | .lst xs, h => by unfold okD at h; unfold sm; exact sms_of xs h
  | .tup xs, h => by unfold okD at h; unfold sm; exact sms_of xs h
theorem sms_of : ∀ ds : List D, okDs ds = true → sms ds = true
  | [], _ => by unfold sms; rfl
  | d :: ds, h => by
    unfold okDs at h
    obtain ⟨h1, h2⟩ := Bool.and_eq_true_iff.mp h
    unfold sms
    rw [sm_of d h1, sms_of ds h2]; rfl
end
mutual
theorem txt_le : ∀ d : D, okD d = true → (txt d).length ≤ 573 * wt d + 571
  | .non, _ => by unfold txt; show 4 ≤ _; omega
  | .bl b, _ => by
    have e : (txt (.bl b)).length ≤ 5 := by unfold txt; cases b <;> decide
    omega
  | .int i, h => by
    unfold okD at h
    have e : (txt (.int i)).length ≤ 571 := by
      unfold txt
      have q := int_text_length_le10 (k := 570) (by decide) (of_decide_eq_true h)
      show (Str.ofString (toString i)).length ≤ 571
      rw [PySem.ofString_length]; exact q
    omega
  | .str x, h => by
    unfold okD PyData.strOk at h
    have hx : ∀ c ∈ x.cps.toList, c < 16 ^ 8 := by
      intro c hcm
      have := (Array.all_eq_true_iff_forall_mem.mp h) c (Array.mem_toList_iff.mp hcm)
      have e : (16 : Nat) ^ 8 = 4294967296 := by decide
      have h2 : c < 0x110000 := by simpa using this
      omega
    have e := StrLaws.reprText_len x hx
    have e2 : x.length = x.cps.size := rfl
    unfold txt wt
    omega
  | .lst xs, h => by
    unfold okD at h
    have h1 := txts_le xs h
    have h2 := listText_len_le (txts xs)
    have h3 := txts_len xs
    unfold txt wt
    omega
  | .tup xs, h => by
    unfold okD at h
    have h1 := txts_le xs h
    have h2 := tupleText_len_le (txts xs)
    have h3 := txts_len xs
    unfold txt wt
    omega
theorem txts_le : ∀ ds : List D, okDs ds = true → ((txts ds).map (·.length)).sum + 2 * ds.length ≤ 573 * wts ds
  | [], _ => by unfold txts wts; simp
  | d :: ds, h => by
    unfold okDs at h
    obtain ⟨h1, h2⟩ := Bool.and_eq_true_iff.mp h
    have e1 := txt_le d h1
    have e2 := txts_le ds h2
    unfold txts wts
    simp only [List.map_cons, List.sum_cons, List.length_cons]
    omega
end
theorem fit_of {d : D} (h1 : okD d = true) (h2 : dep d ≤ 64) (h3 : wt d ≤ 20000) : Fit d :=
  ⟨sm_of d h1, h2, by have := txt_le d h1; rw [sizeLine_eq]; omega⟩
/-- lists of numbers -/
theorem okDs_ints {ns : List Int} (h : ∀ n ∈ ns, n.natAbs < 10 ^ 570) : okDs (dI ns) = true := by
  rw [okDs_mem]
  intro x hx
  obtain ⟨n, hn, rfl⟩ := List.mem_map.mp hx
  unfold okD
  exact decide_eq_true (h n hn)
theorem deps_ints : ∀ ns : List Int, deps (dI ns) = 0
  | [] => by unfold deps; rfl
  | n :: ns => by
    show deps (.int n :: dI ns) = 0
    unfold deps dep
    rw [deps_ints ns]; rfl
theorem wts_ints : ∀ ns : List Int, wts (dI ns) = ns.length
  | [] => by unfold wts; rfl
  | n :: ns => by
    show wts (.int n :: dI ns) = _
    unfold wts wt
    rw [wts_ints ns, List.length_cons]; omega
theorem fit_ints {ns : List Int} (h : ∀ n ∈ ns, n.natAbs < 10 ^ 570) (l : ns.length ≤ 20000) : Fit (.lst (dI ns)) :=
  fit_of (by unfold okD; exact okDs_ints h) (by unfold dep; rw [deps_ints]; omega) (by unfold wt; rw [wts_ints]; exact l)
theorem fit_intsT {ns : List Int} (h : ∀ n ∈ ns, n.natAbs < 10 ^ 570) (l : ns.length ≤ 20000) : Fit (.tup (dI ns)) :=
  fit_of (by unfold okD; exact okDs_ints h) (by unfold dep; rw [deps_ints]; omega) (by unfold wt; rw [wts_ints]; exact l)
theorem fit_int {n : Int} (h : n.natAbs < 10 ^ 570) : Fit (.int n) :=
  fit_of (by unfold okD; exact decide_eq_true h) (by unfold dep; omega) (by unfold wt; omega)

/-! ### the seeded box of the laws: n takes so far -/
def Bx (b : Addr) (n : Nat) (F H : Hp) : Prop := ∃ x y z : Int, H b = some (.lst [.int x, .int y, .int z]) ∧ F b = none ∧ 0 ≤ x ∧ 0 ≤ y ∧ y < 2147483647 ∧ 0 ≤ z ∧ z ≤ n
theorem Bx.out {b : Addr} {n : Nat} {F H : Hp} (h : Bx b n F H) : F b = none := by obtain ⟨x, y, z, _, h, _⟩ := h; exact h
theorem Bx.on {b : Addr} {n : Nat} {F H : Hp} (h : Bx b n F H) : H b ≠ none := by obtain ⟨x, y, z, h, _⟩ := h; exact some_ne h
theorem Bx.ext {b : Addr} {n : Nat} {F H F' H' : Hp} {B : List Addr} (h : Bx b n F H) (e : Ext B F H F' H') (m : b ∉ B) : Bx b n F' H' := by
  obtain ⟨x, y, z, h1, h2, h3⟩ := h
  exact ⟨x, y, z, e.hh b _ m h1, e.nw b (some_ne h1) h2, h3⟩
theorem Bx.extW {b : Addr} {n : Nat} {F H H' : Hp} {B : List Addr} (h : Bx b n F H) (e : Wr B F H H') (m : b ∉ B) : Bx b n F H' := h.ext e.e m
theorem Bx.extY {b : Addr} {n : Nat} {F H F' H' : Hp} {B : List Addr} (e : Ext B F H F' H') (h : Bx b n F H) (m : b ∉ B) : Bx b n F' H' := h.ext e m
theorem Bx.extWY {b : Addr} {n : Nat} {F H H' : Hp} {B : List Addr} (e : Wr B F H H') (h : Bx b n F H) (m : b ∉ B) : Bx b n F H' := h.ext e.e m
theorem Bx.le {b : Addr} {n m : Nat} {F H : Hp} (h : Bx b n F H) (l : n ≤ m) : Bx b m F H := by
  obtain ⟨x, y, z, h1, h2, h3, h4, h5, h6, h7⟩ := h
  exact ⟨x, y, z, h1, h2, h3, h4, h5, h6, by omega⟩
theorem Wr.rfl {B : List Addr} {F H : Hp} (s : Same F H) : Wr B F H H := ⟨Ext.rfl s⟩
theorem Wr.trY {B B2 : List Addr} {F H H1 H2 : Hp} (y : Wr B2 F H1 H2) (x : Wr B F H H1) (s : ∀ a, a ∈ B2 → a ∈ B) : Wr B F H H2 := ⟨x.e.trans (y.e.wide s)⟩
/-- writes to what was not there at the start do not count -/
theorem Ext.drop {p : Addr} {B : List Addr} {F H F' H' : Hp} (x : Ext (p :: B) F H F' H') (hp : H p = none) : Ext B F H F' H' :=
  ⟨x.ff, x.fh, fun a o n h => x.hh a o (fun m => by
    rcases List.mem_cons.mp m with e | m
    · rw [e, hp] at h; cases h
    · exact n m) h, x.nw, x.st⟩
theorem Wr.drop {p : Addr} {B : List Addr} {F H H' : Hp} (x : Wr (p :: B) F H H') (hp : H p = none) : Wr B F H H' := ⟨x.e.drop hp⟩
theorem Wr.widen {B B' : List Addr} {F H H' : Hp} (x : Wr B F H H') (h : ∀ a, a ∈ B → a ∈ B') : Wr B' F H H' := ⟨x.e.wide h⟩
theorem Wr.ofX {B : List Addr} {F H H' : Hp} (x : Ext B F H F H') : Wr B F H H' := ⟨x⟩
theorem Ext.wideW {b : Addr} {F H F' H' : Hp} (x : Ext [] F H F' H') : Ext [b] F H F' H' := x.any
abbrev dN (ps : List Nat) : List D := ps.map fun p => D.int (p : Nat)
abbrev vN (ps : List Nat) : List V := ps.map fun p => V.int (p : Nat)
theorem reps_nats {F : Hp} : ∀ ps : List Nat, Reps F (dN ps) (vN ps)
  | [] => reps_nil
  | _ :: ps => reps_cons rep_int (reps_nats ps)
theorem dN_dI (ps : List Nat) : dN ps = dI (ps.map (fun p : Nat => (p : Int))) := by
  simp [dN, dI, List.map_map, Function.comp_def]
theorem vN_app (ps : List Nat) (k : Nat) : vN (ps ++ [k]) = vN ps ++ [V.int k] := by simp [vN]
theorem dN_app (ps : List Nat) (k : Nat) : dN (ps ++ [k]) = dN ps ++ [D.int k] := by simp [dN]
/-- an item of a list of natural numbers -/
theorem r_ixN {K : PySem.W.Frag} {F H : Hp} {Q : VK} {x : V} {ps : List Nat} {i : Nat} (hF : Same F H) (hx : Rep F (.lst (dN ps)) x) (h1 : (i : Int) < (ps.length : Int)) (q : ∀ z : Nat, z ∈ ps → Q (.int (z : Nat)) H) : rIx K x (.int (i : Nat)) H Q := by
  refine r_ixL hF hx (Int.natCast_nonneg i) (by rw [List.length_map]; exact h1) fun v e e1 e2 e3 => ?_
  obtain ⟨n, hn, rfl⟩ := List.mem_map.mp e2
  rw [e3.of_int]
  exact q n hn
/-- an item of a list of numbers -/
theorem r_ixI {K : PySem.W.Frag} {F H : Hp} {Q : VK} {x : V} {ns : List Int} {i : Int} (hF : Same F H) (hx : Rep F (.lst (dI ns)) x) (h0 : 0 ≤ i) (h1 : i < ns.length) (q : ∀ z, z ∈ ns → Q (.int z) H) : rIx K x (.int i) H Q := by
  refine r_ixL hF hx h0 (by rw [List.length_map]; exact h1) fun v e e1 e2 e3 => ?_
  obtain ⟨n, hn, rfl⟩ := List.mem_map.mp e2
  rw [e3.of_int]
  exact q n hn
end Z

namespace Z
open PySem PySem.Spec PyProof.Rows L2
theorem Bx.hid {b p : Addr} {n : Nat} {F H : Hp} {o : HO} (h : Bx b n F H) (ne : b ≠ p) : Bx b n F (upd H p o) := by
  obtain ⟨x, y, z, h1, h2, h3⟩ := h
  exact ⟨x, y, z, by rw [upd_ne ne]; exact h1, h2, h3⟩
theorem Bx.seal {b p : Addr} {n : Nat} {F H : Hp} {o : HO} (h : Bx b n F H) (ne : b ≠ p) : Bx b n (upd F p o) H := by
  obtain ⟨x, y, z, h1, h2, h3⟩ := h
  exact ⟨x, y, z, h1, by rw [upd_ne ne]; exact h2, h3⟩
section
variable {g : TG} {σ : St} {F H : Hp} {Q : VK} {vs : List Nat} {tt : TT} {te : TE} {lo : Int} {n : Nat} {b : Addr} {n0 : Nat}
/-- [te for k in range(..)], each turn c draws from the box -/
theorem d_lcRB (hF : Same F H) (hb : Bx b n0 F H) (hn : n ≤ 1000000) (c : Nat) (P : Z.D → Prop)
    (hs : ∀ i F' H' (Y : VK) (N : Hp → Prop), i < n → Ext [b] F H F' H' → Bx b (n0 + c * i) F' H' → (∀ e y F4 H4, P e → Ext [b] F' H' F4 H4 → Bx b (n0 + c * (i + 1)) F4 H4 → Rep F4 e y → Y y H4) →
      g (.int (lo + (i : Nat))) (wipe σ vs) H' fun σ2 H2 => wipe σ2 vs = wipe σ vs ∧ tt σ2 H2 fun b H3 => if b = true then te σ2 H3 Y else N H3)
    (he : ∀ p es F' H', H p = none → Ext [b] F H F' H' → Bx b (n0 + c * n) F' H' → es.length = n → (∀ e ∈ es, P e) → Rep F' (.lst es) (.ref p) → Q (.ref p) H') : LcG g tt te vs σ Q (Itr lo n) H := by
  have off : LcOff [b] (fun i es F' H' => (∀ e ∈ es, P e) ∧ es.length = i ∧ Bx b (n0 + c * i) F' H') := by
    intro i es F' H' p o f m h
    exact ⟨h.1, h.2.1, h.2.2.hid fun e => m (by simp [e])⟩
  refine d_lcR hF hn [b] (by intro a m; simp at m; subst m; exact hb.on) _ off ⟨by simp, rfl, hb⟩ ?_ ?_
  · rintro p i es ys F' H' hi hc ⟨h1, h2, h3⟩
    refine hs i F' H' _ _ hi hc.x h3 fun e y F4 H4 e1 e2 e3 e4 => ?_
    refine lc_yes off hc (by omega) e2 e4 ⟨?_, by simp [h2], e3⟩
    intro x hx
    rcases List.mem_append.mp hx with m | m
    · exact h1 x m
    · simp at m; subst m; exact e1
  · rintro p es ys F' H' hp le hx h1 f1 r ⟨a1, a2, a3⟩
    obtain ⟨xa, ra⟩ := hx.seal hp h1 f1 r
    refine he p es _ _ hp xa (a3.seal fun e => ?_) a2 a1 ra
    subst e
    exact hb.on hp
end
/-- data that are natural numbers up to m -/
theorem dN_of {m : Nat} : ∀ {es : List D}, (∀ e ∈ es, ∃ p : Nat, e = .int p ∧ p ≤ m) → ∃ ps : List Nat, es = dN ps ∧ ps.length = es.length ∧ ∀ p ∈ ps, p ≤ m
  | [], _ => ⟨[], rfl, rfl, by simp⟩
  | e :: es, h => by
    obtain ⟨p, rfl, hp⟩ := h e List.mem_cons_self
    obtain ⟨ps, rfl, hl, hm⟩ := dN_of fun x hx => h x (List.mem_cons_of_mem _ hx)
    exact ⟨p :: ps, rfl, by simp, by
      intro q hq
      rcases List.mem_cons.mp hq with e | e
      · rw [e]; exact hp
      · exact hm q e⟩
end Z

namespace Z
open PySem PySem.Spec PyProof.Rows L2
class Step (P : Prop) (R : outParam Prop) : Prop where
  go : R → P
theorem step {P R : Prop} [h : Step P R] (r : R) : P := h.go r
/-- what stands at a slot -/
class At (σ : St) (i : Nat) (v : outParam V) : Prop where
  e : σ[i]? = some (some v)
instance at0 {v : V} {σ : St} : At (some v :: σ) 0 v := ⟨rfl⟩
instance at1 {w : Option V} {v : V} {σ : St} {i : Nat} [h : At σ i v] : At (w :: σ) (i + 1) v := ⟨by simpa using h.e⟩
class SetAt (σ : St) (i : Nat) (v : Option V) (τ : outParam St) : Prop where
  e : σ.set i v = τ
instance set0 {w v : Option V} {σ : St} : SetAt (w :: σ) 0 v (v :: σ) := ⟨rfl⟩
instance set1 {w v : Option V} {σ τ : St} {i : Nat} [h : SetAt σ i v τ] : SetAt (w :: σ) (i + 1) v (w :: τ) := ⟨by rw [List.set_cons_succ, h.e]⟩
class Len {α : Type} (xs : List α) (n : Nat) : Prop where
  e : xs.length = n
instance len0 {α : Type} : Len ([] : List α) 0 := ⟨rfl⟩
instance len1 {α : Type} {x : α} {xs : List α} {n : Nat} [h : Len xs n] : Len (x :: xs) (n + 1) := ⟨by rw [List.length_cons, h.e]⟩
instance len0' {α β : Type} : Len ([] : List α) ([] : List β).length := ⟨rfl⟩
/-- a block's own names stand empty -/
class Wipe (σ : St) (vs : List Nat) (τ : outParam St) : Prop where
  e : wipe σ vs = τ
instance wipe0 {σ : St} : Wipe σ [] σ := ⟨rfl⟩
instance wipe1 {σ τ τ' : St} {v : Nat} {vs : List Nat} [h : Wipe σ vs τ] [k : SetAt τ v none τ'] : Wipe σ (v :: vs) τ' := ⟨by unfold wipe; rw [h.e, k.e]⟩
instance wipe0M {σ : St} : Wipe σ (List.map (fun x : Str × Nat => x.snd) []) σ := ⟨rfl⟩
instance wipe1M {σ τ τ' : St} {x : Str} {v : Nat} {vs : List (Str × Nat)} [h : Wipe σ (List.map (fun x : Str × Nat => x.snd) vs) τ] [k : SetAt τ v none τ'] : Wipe σ (List.map (fun x : Str × Nat => x.snd) ((x, v) :: vs)) τ' :=
  ⟨by rw [List.map_cons]; unfold wipe; rw [h.e, k.e]⟩
instance atW {σ τ : St} {vs : List Nat} {i : Nat} {v : V} [h : Wipe σ vs τ] [k : At τ i v] : At (wipe σ vs) i v := ⟨by rw [h.e]; exact k.e⟩
instance setW {σ τ τ' : St} {vs : List Nat} {i : Nat} {v : Option V} [h : Wipe σ vs τ] [k : SetAt τ i v τ'] : SetAt (wipe σ vs) i v τ' := ⟨by rw [h.e]; exact k.e⟩
section
variable {σ τ : St} {H : Hp} {Q : VK} {K : PySem.W.Frag} {ta tb tc te : TE} {t u : TT} {nx bk ct : St → Hp → Prop} {rt : VK} {x y v w : V} {vs zs : List V} {QB : Bool → Hp → Prop} {QA : List V → Hp → Prop} {QS : St → Hp → Prop} {i j : Int} {a b : Nat}
instance s_var [h : At σ a v] : Step (tVar a σ H Q) (Q v H) := ⟨z_var h.e⟩
instance s_c : Step (tC v σ H Q) (Q v H) := ⟨z_c⟩
instance s_op {r : R2} : Step (tOp r ta tb σ H Q) (ta σ H fun x H1 => tb σ H1 fun y H2 => r x y H2 Q) := ⟨z_op⟩
instance s_un {r : V → Hp → VK → Prop} : Step (tUn r ta σ H Q) (ta σ H fun x H1 => r x H1 Q) := ⟨z_un⟩
instance s_isB {k : Bool} : Step (IsB (.bl k) H QB) (QB k H) := ⟨z_isB⟩
instance s_test : Step (tTest te σ H QB) (te σ H fun x H1 => IsB x H1 QB) := ⟨z_test⟩
instance s_tB : Step (tB te σ H QB) (te σ H fun x H1 => IsB x H1 QB) := ⟨z_tB⟩
instance s_and : Step (tAnd t u σ H QB) (t σ H fun c H1 => if c = true then u σ H1 QB else QB false H1) := ⟨z_and⟩
instance s_or : Step (tOr t u σ H QB) (t σ H fun c H1 => if c = true then QB true H1 else u σ H1 QB) := ⟨z_or⟩
instance s_not : Step (tNot t σ H QB) (t σ H fun c H1 => QB (!c) H1) := ⟨z_not⟩
instance s_andV : Step (tAndV ta tb σ H Q) (ta σ H fun x H1 => IsB x H1 fun c H2 => if c = true then tb σ H2 Q else Q (.bl false) H2) := ⟨z_andV⟩
instance s_orV : Step (tOrV ta tb σ H Q) (ta σ H fun x H1 => IsB x H1 fun c H2 => if c = true then Q (.bl true) H2 else tb σ H2 Q) := ⟨z_orV⟩
instance s_notV : Step (tNotV ta σ H Q) (ta σ H fun x H1 => IsB x H1 fun c H2 => Q (.bl (!c)) H2) := ⟨z_notV⟩
instance s_ifE : Step (tIf t ta tb σ H Q) (t σ H fun c H1 => if c = true then ta σ H1 Q else tb σ H1 Q) := ⟨z_ifE⟩
instance s_chain {r r' : R2} : Step (tChain r r' ta tb tc σ H Q) (ta σ H fun x H1 => tb σ H1 fun y H2 => r x y H2 fun z H3 => IsB z H3 fun k H4 => if k = true then tc σ H4 fun w H5 => r' y w H5 Q else Q (.bl false) H4) := ⟨z_chain⟩
instance s_nil : Step (tNil σ H QA) (QA [] H) := ⟨z_nil⟩
instance s_cons {tr : TA} : Step (tCons ta tr σ H QA) (ta σ H fun x H1 => tr σ H1 fun xs H2 => QA (x :: xs) H2) := ⟨z_cons⟩
instance s_tup {t : TA} : Step (tTup t σ H Q) (t σ H fun xs H1 => MkTup xs H1 Q) := ⟨z_tup⟩
instance s_lst {t : TA} : Step (tLst t σ H Q) (t σ H fun xs H1 => MkLst xs H1 Q) := ⟨z_lst⟩
instance s_CB {r : List V → Hp → VK → Prop} {t : TA} : Step (tCB r t σ H Q) (t σ H fun vs H1 => r vs H1 Q) := ⟨z_CB⟩
instance s_BM0 {T : String} {r : V → List V → Hp → VK → Prop} : Step (tBM0 K T r te σ H Q) (te σ H fun x H1 => OnT K T r x H1 Q) := ⟨z_BM0⟩
instance s_seq {t u : TS} : Step (tSeq t u ⟨nx, rt, bk, ct⟩ σ H) (t ⟨u ⟨nx, rt, bk, ct⟩, rt, bk, ct⟩ σ H) := ⟨z_seq⟩
instance s_next : Step (tNext ⟨nx, rt, bk, ct⟩ σ H) (nx σ H) := ⟨z_next⟩
instance s_brk : Step (tBreak ⟨nx, rt, bk, ct⟩ σ H) (bk σ H) := ⟨z_brk⟩
instance s_asg {g : TG} : Step (tAsg te g ⟨nx, rt, bk, ct⟩ σ H) (te σ H fun x H1 => g x σ H1 nx) := ⟨z_asg⟩
instance s_gname [h : SetAt σ a (some v) τ] : Step (gName a v σ H QS) (QS τ H) := ⟨fun q => z_gname (by rw [h.e]; exact q)⟩
instance (priority := low) s_gnameL : Step (gName a v σ H QS) (QS (σ.set a (some v)) H) := ⟨z_gname⟩
instance s_ret : Step (tRet te ⟨nx, rt, bk, ct⟩ σ H) (te σ H rt) := ⟨z_ret⟩
instance s_retN : Step (tRetN ⟨nx, rt, bk, ct⟩ σ H) (rt .non H) := ⟨z_retN⟩
instance s_drop : Step (tDrop te ⟨nx, rt, bk, ct⟩ σ H) (te σ H fun _ H1 => nx σ H1) := ⟨z_drop⟩
instance s_ifS {t1 t2 : TS} : Step (tIfS t t1 t2 ⟨nx, rt, bk, ct⟩ σ H) (t σ H fun b H1 => if b = true then t1 ⟨nx, rt, bk, ct⟩ σ H1 else t2 ⟨nx, rt, bk, ct⟩ σ H1) := ⟨z_ifS⟩
instance s_par {t : TA} : Step (tPar a b t ⟨nx, rt, bk, ct⟩ σ H) (t σ H fun vs H1 => PairTo a b nx σ vs H1) := ⟨z_par⟩
instance s_pair {σ2 σ3 : St} [h : SetAt σ a (some v) σ2] [k : SetAt σ2 b (some w) σ3] : Step (PairTo a b nx σ [v, w] H) (nx σ3 H) := ⟨fun q => z_pair (by rw [h.e, k.e]; exact q)⟩
instance s_it {R : It → Hp → Prop} : Step (uIt K te σ H R) (te σ H fun x H1 => vIt K x H1 R) := ⟨z_it⟩
instance s_for {wi : TI} {g : TG} {tb : TS} : Step (tFor wi g tb ⟨nx, rt, bk, ct⟩ σ H) (wi σ H fun J H1 => ForG g tb ⟨nx, rt, bk, ct⟩ σ J H1) := ⟨z_for⟩
instance s_lc {wi : TI} {g : TG} {tt : TT} {vs : List Nat} : Step (tLc wi g tt te vs σ H Q) (wi σ H fun J H1 => LcG g tt te vs σ Q J H1) := ⟨z_lc⟩
instance s_rng1 {t : TA} {R : It → Hp → Prop} : Step (iRng1 t σ H R) (t σ H fun vs H1 => RngTo vs H1 R) := ⟨z_rng1⟩
/-- behind a call's arguments -/
def CallG (n m : Nat) (gV : List V → List V → List V) (sp : Sp) (vs zs : List V) (H : Hp) (Q : VK) (E : XK) : Prop := vs.length = n ∧ zs.length = m ∧ sp (gV vs zs) H Q E
instance s_C2 {n m : Nat} {gV : List V → List V → List V} {sp : Sp} {E : St → XK} {t tk : TA} : Step (tC2 n m gV sp E t tk σ H Q) (t σ H fun vs H1 => tk σ H1 fun zs H2 => CallG n m gV sp vs zs H2 Q (E σ)) := ⟨fun h => h⟩
instance s_callP {n m : Nat} {sp : Sp} {E : XK} [h : Len vs n] [k : Len zs m] : Step (CallG n m (fun us _ => us) sp vs zs H Q E) (sp vs H Q E) := ⟨fun q => ⟨h.e, k.e, q⟩⟩
instance s_yes : Step (tYes σ H QB) (QB true H) := ⟨z_yes⟩
instance s_gsub {t : TSet} {to ti : TE} : Step (gSub to ti t v σ H QS) (to σ H fun o H1 => ti σ H1 fun i H2 => t o i v H2 fun H3 => QS σ H3) := ⟨z_gsub⟩
instance s_app {t : TE} : Step (tBM K "list" rAppend te (tCons t tNil) σ H Q) (te σ H fun x H1 => tyV K "list" x H1 ∧ t σ H1 fun y H2 => rAppend x [y] H2 Q) := ⟨z_app⟩
variable {A B : Prop}
instance s_t : Step (if true = true then A else B) A := ⟨ite_t⟩
instance s_f : Step (if false = true then A else B) B := ⟨ite_f⟩
instance s_nt : Step (if (!true) = true then A else B) B := ⟨ite_nt⟩
instance s_nf : Step (if (!false) = true then A else B) A := ⟨ite_nf⟩
instance s_neg : Step (rU (fun i => .int (-i)) (.int i) H Q) (Q (.int (-i)) H) := ⟨z_neg⟩
instance s_i0 {g : Int → Int → V} : Step (rI0 g (.int i) (.int j) H Q) (Q (g i j) H) := ⟨r_i0⟩
instance s_add : Step (uAdd K (.int i) (.int j) H Q) (Q (.int (i + j)) H) := ⟨r_add⟩
instance s_eqI : Step (uEq K (.int i) (.int j) H Q) (Q (.bl (decide (i = j))) H) := ⟨r_eqI⟩
instance s_neI : Step (uNe K (.int i) (.int j) H Q) (Q (.bl (!decide (i = j))) H) := ⟨r_neI⟩
instance s_eqS {x y : Str} : Step (uEq K (.str x) (.str y) H Q) (Q (.bl (decide (x = y))) H) := ⟨r_eqS⟩
instance s_neS {x y : Str} : Step (uNe K (.str x) (.str y) H Q) (Q (.bl (!decide (x = y))) H) := ⟨r_neS⟩
instance s_max : Step (uMax K [.int i, .int j] H Q) (Q (.int (if j > i then j else i)) H) := ⟨r_max⟩
instance s_min : Step (uMin K [.int i, .int j] H Q) (Q (.int (if j < i then j else i)) H) := ⟨r_min⟩
instance s_intB {k : Bool} : Step (uInt [.bl k] H Q) (Q (.int (if k then 1 else 0)) H) := ⟨r_intB⟩
end
theorem r_lenN {K : PySem.W.Frag} {F H : Hp} {Q : VK} {x : V} {ps : List Nat} (hF : Same F H) (hx : Rep F (.lst (dN ps)) x) (q : Q (.int (ps.length : Nat)) H) : uLen K [x] H Q :=
  r_lenL hF hx (by rw [List.length_map]; exact q)
end Z

namespace Z
open PySem PySem.Spec PyProof.Rows L2
local macro_rules | `(tactic| walk_at "hf") => `(tactic| first | with_reducible assumption | (with_reducible exact Ext.fh (by assumption)) | (with_reducible exact Wr.fh (by assumption)) | fail)
local macro_rules | `(tactic| walk_at "rp") => `(tactic| first | with_reducible assumption | with_reducible exact rep_int | with_reducible exact rep_str | with_reducible exact rep_bl | with_reducible exact rep_non | (with_reducible exact Ext.rep (by assumption) (by walk_at "rp")) | fail)
local macro_rules | `(tactic| walk_at "rpd") => `(tactic| first | walk_at "rp" | assumption | (with_reducible refine Ext.rep (by assumption) ?_; walk_at "rpd") | fail)
local macro_rules | `(tactic| walk_at "rps") => `(tactic| first | with_reducible exact reps_nil | (with_reducible exact reps_cons (by walk_at "rp") (by walk_at "rps")) | with_reducible assumption | fail)
local macro_rules | `(tactic| walk_at "hp") => `(tactic| first | with_reducible assumption | (with_reducible exact Ext.cell (by assumption) (by walk_at "hp") (by walk_at "ne")) | (with_reducible exact Wr.cell (by assumption) (by walk_at "hp") (by walk_at "ne")) | fail)
local macro_rules | `(tactic| walk_at "ne") => `(tactic| first | with_reducible exact ne_nil | (refine ne_one ?_; first | assumption | (apply Ne.symm; assumption)) | fail)
local macro_rules | `(tactic| walk_at "fo") => `(tactic| first | with_reducible assumption | (with_reducible exact Ext.out (by assumption) (by walk_at "fo") (by walk_at "on")) | fail)
local macro_rules | `(tactic| walk_at "on") => `(tactic| first | with_reducible assumption | (with_reducible exact some_ne (by walk_at "hp")) | fail)
local macro_rules | `(tactic| walk_at "lt") => `(tactic| first | with_reducible assumption | omega | (simp only [List.length_append, List.length_map, List.length_cons, List.length_nil, List.length_replicate] at *; omega) | fail)
local macro_rules | `(tactic| walk_at "sub") => `(tactic| first | ((intro a m; first | exact m | (simp at m; done) | (simp at m ⊢; simp [m]; done))) | fail)
local macro_rules | `(tactic| walk_at "zx") => `(tactic| first | with_reducible assumption | (with_reducible exact Ext.rfl (by walk_at "hf")) | (with_reducible exact Ext.trY (by assumption) (by walk_at "zx") (by walk_at "sub")) | (with_reducible exact Ext.trWY (by assumption) (by walk_at "zx") (by walk_at "sub")) | fail)
local macro_rules | `(tactic| walk_at "zw") => `(tactic| first | with_reducible assumption | (with_reducible exact Wr.rfl (by walk_at "hf")) | (with_reducible exact Wr.trY (by assumption) (by walk_at "zw") (by walk_at "sub")) | fail)
local macro_rules | `(tactic| walk_at "z1") => `(tactic| first
  | ((with_reducible refine gd_var ?_); refine z_var (by exact rfl) ?_)
  | with_reducible refine z_rngTo (by omega) (by omega) ?_
  | ((with_reducible refine gi_1 ?_); first | refine ite_eT (Eq.refl true) ?_ | refine ite_eF (Eq.refl false) ?_)
  | (with_reducible refine ite_d ?_ ?_ <;> intro _) | (with_reducible refine ite_nd ?_ ?_ <;> intro _)
  | ((with_reducible refine gd_isi ?_); first | refine r_isi (by walk_at "hf") (by walk_at "rp") (by decide) ?_ | refine r_isi2 (by walk_at "hf") (by walk_at "rp") (by walk_at "hp") (by decide) (by decide) ?_ | refine r_isiC (by walk_at "hp") (by decide) ?_)
  | ((with_reducible refine gd_len ?_); first | (with_reducible refine r_lenN (by walk_at "hf") (by walk_at "rp") ?_) | refine r_lenL (by walk_at "hf") (by walk_at "rp") ?_ | refine r_lenT (by walk_at "hf") (by walk_at "rp") ?_ | refine r_lenC (by walk_at "hp") ?_)
  | with_reducible refine r_mod (by omega) ?_ | with_reducible refine r_div (by omega) (by omega) ?_ | with_reducible refine r_pow (by omega) ?_ | with_reducible refine r_powSq (by omega) (by omega) (by omega) (by omega) (by omega) ?_ | with_reducible refine r_mulB (by omega) (by omega) ?_
  | ((with_reducible refine gd_ix ?_); refine r_ixC (by walk_at "hp") (by rfl) ?_)
  | ((with_reducible refine gd_setL ?_); refine z_setC (by walk_at "hf") (by walk_at "hp") (by walk_at "fo") (by rfl) (by rfl) ?_; intro _ _ _)
  | (with_reducible refine r_appCx (by walk_at "hp") ?_)
  | ((with_reducible refine gd_app ?_); refine r_appC2 (by walk_at "hf") (by walk_at "hp") (by walk_at "fo") (by walk_at "lt") ?_; intro _ _ _)
  | ((with_reducible refine gd_rev ?_); refine r_revC (by walk_at "hf") (by walk_at "hp") (by walk_at "fo") ?_; intro _ _ _)
  | ((with_reducible refine gd_listC ?_); first | refine r_listL (by walk_at "hf") (by walk_at "rp") ?_ | refine r_listT (by walk_at "hf") (by walk_at "rp") ?_; intro _ _ _ _ _)
  | ((with_reducible refine gd_tupC ?_); refine r_tupleL (by walk_at "hf") (by walk_at "rp") ?_; intro _ _ _ _ _)
  | ((with_reducible refine gd_sum ?_); refine r_sum (by walk_at "hf") (by walk_at "rp") ?_)
  | ((with_reducible refine gd_all ?_); refine r_all (by walk_at "hf") (by walk_at "rp") ?_)
  | ((with_reducible refine gd_MkTup ?_); first | (refine r_tup' (by walk_at "hf") (by walk_at "rps") (small_le (by simp)) ?_; intro _ _ _ _ _) | (refine r_tupW (by walk_at "hf") (small_le (by simp)) ?_; intro _ _ _ _ _ _)) | fail)
local macro_rules | `(tactic| walk_at "zl") => `(tactic| first | (((with_reducible refine gd_MkLst ?_); refine r_lst' (by walk_at "hf") (by walk_at "rps") (small_le (by simp)) ?_; intro _ _ _ _ _)) | fail)
local macro_rules | `(tactic| walk_at "z") => `(tactic| repeat' (first | with_reducible refine step ?_ | walk_at "z1"))

def topS (i : Nat) : Stmt := PySem.Challenge.pw_slantworth_k06_rows_told.main.body.getD i (.Pass ⟨0, 0, 0, 0⟩)
structure Txt (W : Wd) : Prop where
  n_all : W.mg "all" = none
  n_bool : W.mg "bool" = none
  n_int : W.mg "int" = none
  n_isinstance : W.mg "isinstance" = none
  n_len : W.mg "len" = none
  n_list : W.mg "list" = none
  n_max : W.mg "max" = none
  n_min : W.mg "min" = none
  n_range : W.mg "range" = none
  n_repr : W.mg "repr" = none
  n_sorted : W.mg "sorted" = none
  n_sum : W.mg "sum" = none
  n_tuple : W.mg "tuple" = none
  k_MOST : ∃ u, W.mg "MOST" = some u ∧ RelV (.int (10 ^ 60)) u
  k_MOST_MANY : ∃ u, W.mg "MOST_MANY" = some u ∧ RelV (.int (400)) u
  k_MOST_PLACE : ∃ u, W.mg "MOST_PLACE" = some u ∧ RelV (.int (400)) u

/-! ### is_whole -/
def wholeD (d : D) (lo hi : Int) : Bool := match d with | .int i => decide (lo ≤ i) && decide (i ≤ hi) | _ => false
def sp_is_whole : Sp := fun vs H Q _ => ∃ F d v lo hi, vs = [v, .int lo, .int hi] ∧ Same F H ∧ Rep F d v ∧ Q (.bl (wholeD d lo hi)) H
theorem use_is_whole {F H : Hp} {d : D} {v : V} {lo hi : Int} {Q : VK} {E : XK} (hF : Same F H) (hd : Rep F d v) (q : Q (.bl (wholeD d lo hi)) H) : sp_is_whole [v, .int lo, .int hi] H Q E := ⟨F, d, v, lo, hi, rfl, hF, hd, q⟩
local macro_rules | `(tactic| walk_at "z1") => `(tactic| first | (with_reducible refine use_is_whole (by walk_at "hf") (by walk_at "rp") ?_) | fail)
abbrev s_is_whole : Stmt := topS 5
theorem sc_is_whole : FnScope ["thing", "low", "high"] ["thing", "low", "high"] (defScope s_is_whole) := ⟨rfl, rfl, rfl, by decide +kernel, rfl, by decide +kernel, by decide +kernel⟩
theorem ok_is_whole {W : Wd} {f : Addr} {fd : FuncData} (T : Txt W) (dF : Df W "is_whole" "is_whole" s_is_whole f fd) : Fn W 1 f fd ["thing", "low", "high"] sp_is_whole := by
  refine fn_by dF sc_is_whole (fun vs H Q E h => ?_) (fun cd A out s H vs Q E hr h => ?_)
  · obtain ⟨F, d, v, lo, hi, rfl, _⟩ := h; rfl
  obtain ⟨F, d, v, lo, hi, rfl, hF, hd, q⟩ := h
  refine ⟨_, (pss_one (ps_ret (pe_and (pe_callB u_isi (by rfl) T.n_isinstance (by decide +kernel) (pa_cons (pv 0) (pa_cons (pe_bltn (v := .ty "int") (by rfl) T.n_int (by decide +kernel) rfl) pa_nil))) (pe_and (pe_not (pe_callB u_isi (by rfl) T.n_isinstance (by decide +kernel) (pa_cons (pv 0) (pa_cons (pe_bltn (v := .ty "bool") (by rfl) T.n_bool (by decide +kernel) rfl) pa_nil)))) (pe_one (pe_chain op_le op_le (pv 1) (pv 0) (pv 2))))))), ?_⟩
  refine z_st (σ := [some v, some (.int lo), some (.int hi)]) rfl ?_
  cases d with
  | int i =>
    obtain rfl := hd.of_int
    walk_at "z"
    · rename_i h1
      rw [show wholeD (.int i) lo hi = decide (i ≤ hi) by unfold wholeD; simp [h1]] at q
      exact q
    · rename_i h1
      rw [show wholeD (.int i) lo hi = false by unfold wholeD; simp [h1]] at q
      exact q
  | _ => walk_at "z"; exact q

/-! ### is_row -/
def rowD (d : D) : Bool := match d with | .lst ds => decide (ds.length ≤ 400) && ds.all (wholeD · 0 400) | .tup ds => decide (ds.length ≤ 400) && ds.all (wholeD · 0 400) | _ => false
def sp_is_row : Sp := fun vs H Q _ => ∃ F d v, vs = [v] ∧ Same F H ∧ Rep F d v ∧ ∀ F' H', Ext [] F H F' H' → Q (.bl (rowD d)) H'
theorem use_is_row {F H : Hp} {d : D} {v : V} {Q : VK} {E : XK} (hF : Same F H) (hd : Rep F d v) (q : ∀ F' H', Ext [] F H F' H' → Q (.bl (rowD d)) H') : sp_is_row [v] H Q E := ⟨F, d, v, rfl, hF, hd, q⟩
local macro_rules | `(tactic| walk_at "z1") => `(tactic| first | ((with_reducible refine use_is_row (by walk_at "hf") (by walk_at "rp") ?_; intro _ _ _)) | fail)
abbrev s_is_row : Stmt := topS 10
theorem sc_is_row : FnScope ["thing", "place"] ["thing"] (defScope s_is_row) := ⟨rfl, rfl, rfl, by decide +kernel, rfl, by decide +kernel, by decide +kernel⟩
theorem ok_is_row {W : Wd} {f : Addr} {fd : FuncData} (T : Txt W) (dF : Df W "is_row" "is_row" s_is_row f fd) (c_is_whole_3 : Cal W 1 "is_whole" 3 [] (fun vs _ => vs) sp_is_whole) : Fn W 2 f fd ["thing"] sp_is_row := by
  refine fn_by dF sc_is_row (fun vs H Q E h => ?_) (fun cd A out s H vs Q E hr h => ?_)
  · obtain ⟨F, d, v, rfl, _⟩ := h; rfl
  obtain ⟨F, d, v, rfl, hF, hd, q⟩ := h
  refine ⟨_, (pss_cons (ps_if (PW.pt (pw_or (pt_not (pt_val (pe_callB u_isi (by rfl) T.n_isinstance (by decide +kernel) (pa_cons (pv 0) (pa_cons (pe_tup (pa_cons (pe_bltn (v := .ty "list") (by rfl) T.n_list (by decide +kernel) rfl) (pa_cons (pe_bltn (v := .ty "tuple") (by rfl) T.n_tuple (by decide +kernel) rfl) pa_nil))) pa_nil))))) (pw_or1 (pt_cmpR op_gt (pe_callB u_len (by rfl) T.n_len (by decide +kernel) (pa_cons (pv 0) pa_nil)) (u_glob rfl T.k_MOST_MANY) (nomark _))))) (pss_one (ps_ret pe_bl)) pss_nil)
    (pss_one (ps_ret (pe_callB (cr_all rfl) (by rfl) T.n_all (by decide +kernel) (pa_cons (pe_lc rfl sc_is_row.nd (u_it (pv 0)) (blkOk_by (own := [("place", 1)]) (N := ["thing", "place"]) (sc := defScope s_is_row) (by decide +kernel)) (fun _ _ _ _ _ => (pg_name (i := 1) sc_is_row.nd rfl (Or.inl rfl))) (fun _ _ _ _ _ => pts_nil) (fun _ _ _ _ _ => (c_fn c_is_whole_3 hr (by decide) (by rfl) passNo (pa_cons (pv 1) (pa_cons pe_int (pa_cons (u_glob rfl T.k_MOST_PLACE) pa_nil))) pk_nil))) pa_nil))))), ?_⟩
  refine z_st (σ := [some v, none]) rfl ?_
  cases d with
  | lst ds =>
    walk_at "z"
    · rename_i h1
      rw [show rowD (.lst ds) = false by unfold rowD; simp; omega] at q
      exact q _ _ (by walk_at "zx")
    · rename_i h1
      refine d_lcM (by walk_at "hf") (by walk_at "rp") rfl (by omega) (fun e => some (.bl (wholeD e 0 400))) ?_ ?_
      · intro e v F' H' Y N _ he x hy _
        walk_at "z"
        refine ⟨rfl, ?_⟩
        walk_at "z"
        exact hy _ _ _ _ rfl (by walk_at "zx") (by walk_at "rp")
      · intro p F' H' hp x hr
        rw [map_bls] at hr
        walk_at "z"
        rw [all_map]
        rw [show rowD (.lst ds) = ds.all (wholeD · 0 400) by simp only [rowD, decide_eq_true (show ds.length ≤ 400 by omega), Bool.true_and]] at q
        exact q _ _ (by walk_at "zx")
  | tup ds =>
    walk_at "z"
    · rename_i h1
      rw [show rowD (.tup ds) = false by unfold rowD; simp; omega] at q
      exact q _ _ (by walk_at "zx")
    · rename_i h1
      refine d_lcM (by walk_at "hf") (by walk_at "rp") rfl (by omega) (fun e => some (.bl (wholeD e 0 400))) ?_ ?_
      · intro e v F' H' Y N _ he x hy _
        walk_at "z"
        refine ⟨rfl, ?_⟩
        walk_at "z"
        exact hy _ _ _ _ rfl (by walk_at "zx") (by walk_at "rp")
      · intro p F' H' hp x hr
        rw [map_bls] at hr
        walk_at "z"
        rw [all_map]
        rw [show rowD (.tup ds) = ds.all (wholeD · 0 400) by simp only [rowD, decide_eq_true (show ds.length ≤ 400 by omega), Bool.true_and]] at q
        exact q _ _ (by walk_at "zx")
  | _ => walk_at "z"; exact q _ _ (by walk_at "zx")

/-! ### _law_cell -/
def sp_law_cell (K : PySem.W.Frag) : Sp := fun vs H Q _ => ∃ (a : Addr) (ns : List Int) (k : Nat), vs = [.ref a, .int k] ∧ SqL K H a (ns.map V.int) ∧ k ≤ 100000 ∧ ∀ z : Int, Q (.int z) H
theorem use_law_cell {K : PySem.W.Frag} {a : Addr} {ns : List Int} {k : Nat} {F H : Hp} {Q : VK} {E : XK} (h : SqL K F a (ns.map V.int)) (hF : Same F H) (l : k ≤ 100000) (q : ∀ z : Int, Q (.int z) H) : sp_law_cell K [.ref a, .int k] H Q E := ⟨a, ns, k, rfl, hF.seq h, l, q⟩
abbrev s_law_cell : Stmt := topS 18
theorem sc_law_cell : FnScope ["script", "k"] ["script", "k"] (defScope s_law_cell) := ⟨rfl, rfl, rfl, by decide +kernel, rfl, by decide +kernel, by decide +kernel⟩
theorem ok_law_cell {W : Wd} {f : Addr} {fd : FuncData} (T : Txt W) (dF : Df W "_law_cell" "_law_cell" s_law_cell f fd) : Fn W 1 f fd ["script", "k"] (sp_law_cell W.K) := by
  refine fn_by dF sc_law_cell (fun vs H Q E h => ?_) (fun cd A out s H vs Q E hr h => ?_)
  · obtain ⟨a, ns, k, rfl, _⟩ := h; rfl
  obtain ⟨a, ns, k, rfl, hs, hk, q⟩ := h
  refine ⟨_, (pss_cons (ps_if (pt_cmpR op_lt (pv 1) (pe_callB u_len (by rfl) T.n_len (by decide +kernel) (pa_cons (pv 0) pa_nil)) (nomark _)) (pss_one (ps_ret (pe_ix ix_seq (pv 0) (pv 1) (fun _ _ => rfl)))) pss_nil)
    (pss_one (ps_ret (pe_op u_add (pe_op u_mul pe_int (pv 1)) pe_int)))), ?_⟩
  refine z_st (σ := [some (.ref a), some (.int k)]) rfl ?_
  walk_at "z"
  refine r_lenQ hs ?_
  walk_at "z"
  · rename_i h1
    rw [List.length_map] at h1
    exact r_ixQ hs (by omega) (by omega) fun z => q z
  · exact q _

/-! ### _law_box -/
def sp_law_box : Sp := fun vs H Q _ => ∃ F c, vs = [.int c] ∧ Same F H ∧ ∀ b H', H b = none → Wr [] F H H' → Bx b 0 F H' → Q (.ref b) H'
theorem use_law_box {F H : Hp} {c : Int} {Q : VK} {E : XK} (hF : Same F H) (q : ∀ b H', H b = none → Wr [] F H H' → Bx b 0 F H' → Q (.ref b) H') : sp_law_box [.int c] H Q E := ⟨F, c, rfl, hF, q⟩
local macro_rules | `(tactic| walk_at "z1") => `(tactic| first | (with_reducible refine use_law_box (by walk_at "hf") ?_; intro _ _ _ _ _) | fail)
abbrev s_law_box : Stmt := topS 19
theorem sc_law_box : FnScope ["cell"] ["cell"] (defScope s_law_box) := ⟨rfl, rfl, rfl, by decide +kernel, rfl, by decide +kernel, by decide +kernel⟩
theorem ok_law_box {W : Wd} {f : Addr} {fd : FuncData} (T : Txt W) (dF : Df W "_law_box" "_law_box" s_law_box f fd) : Fn W 1 f fd ["cell"] sp_law_box := by
  refine fn_by dF sc_law_box (fun vs H Q E h => ?_) (fun cd A out s H vs Q E hr h => ?_)
  · obtain ⟨F, c, rfl, _⟩ := h; rfl
  obtain ⟨F, c, rfl, hF, q⟩ := h
  refine ⟨_, (pss_one (ps_ret (pe_lst (pa_cons (pe_callB (u_max rfl) (by rfl) T.n_max (by decide +kernel) (pa_cons pe_int (pa_cons (pe_op op_sub (pv 0) (pe_op op_pow pe_int pe_int)) pa_nil))) (pa_cons (pe_op op_mod (pv 0) pe_int) (pa_cons pe_int pa_nil)))))), ?_⟩
  refine z_st (σ := [some (.int c)]) rfl ?_
  walk_at "z"
  refine r_lstW hF (small_le (by simp)) fun p H' x h1 f1 hp => q p H' hp x ⟨_, _, _, h1, f1, ?_, ?_, ?_, ?_, ?_⟩
  · split <;> omega
  · omega
  · omega
  · omega
  · exact Int.le_refl _

/-! ### _law_take -/
def sp_law_take : Sp := fun vs H Q _ => ∃ F b n m, vs = [.ref b, .int m] ∧ Same F H ∧ Bx b n F H ∧ 1 ≤ m ∧ m < 10 ^ 75 ∧ n < 1000000 ∧ ∀ d H', 0 ≤ d → d < m → Wr [b] F H H' → Bx b (n + 1) F H' → Q (.int d) H'
abbrev s_law_take : Stmt := topS 20
theorem sc_law_take : FnScope ["box", "many", "digit", "one", "other"] ["box", "many"] (defScope s_law_take) := ⟨rfl, rfl, rfl, by decide +kernel, rfl, by decide +kernel, by decide +kernel⟩
theorem ok_law_take {W : Wd} {f : Addr} {fd : FuncData} (T : Txt W) (dF : Df W "_law_take" "_law_take" s_law_take f fd) : Fn W 1 f fd ["box", "many"] sp_law_take := by
  refine fn_by dF sc_law_take (fun vs H Q E h => ?_) (fun cd A out s H vs Q E hr h => ?_)
  · obtain ⟨F, b, n, m, rfl, _⟩ := h; rfl
  obtain ⟨F, b, n, m, rfl, hF, ⟨x, y, z, h0, f0, hx, hy1, hy2, hz1, hz2⟩, hm1, hm2, hn, q⟩ := h
  refine ⟨_, (pss_cons (ps_if (pt_cmpR op_gt (pe_ix ix_seq (pv 0) pe_int (fun _ _ => rfl)) pe_int (nomark _)) (pss_cons (ps_set (i := 2) sc_law_take.nd rfl (Or.inl rfl) (pe_op op_mod (pe_ix ix_seq (pv 0) pe_int (fun _ _ => rfl)) (pv 1)))
    (pss_cons (ps_asg (pe_op op_fdivW (pe_ix ix_seq (pv 0) pe_int (fun _ _ => rfl)) (pv 1)) (pg_sub (pv 0) pe_int u_set))
    (pss_one (ps_ret (pv 2))))) pss_nil)
    (pss_cons (ps_asg (pe_op u_add (pe_ix ix_seq (pv 0) pe_int (fun _ _ => rfl)) pe_int) (pg_sub (pv 0) pe_int u_set))
    (pss_cons (ps_set (i := 3) sc_law_take.nd rfl (Or.inl rfl) (pe_op op_mod (pe_op op_pow (pe_op u_add (pe_op u_add (pe_ix ix_seq (pv 0) pe_int (fun _ _ => rfl)) (pe_op u_mul pe_int (pe_ix ix_seq (pv 0) pe_int (fun _ _ => rfl)))) pe_int) pe_int) pe_int))
    (pss_cons (ps_set (i := 4) sc_law_take.nd rfl (Or.inl rfl) (pe_op op_mod (pe_op op_pow (pe_op u_add (pe_op u_add (pe_op op_fdivW (pv 3) pe_int) (pe_op u_mul (pe_op u_mul pe_int (pe_ix ix_seq (pv 0) pe_int (fun _ _ => rfl))) (pe_ix ix_seq (pv 0) pe_int (fun _ _ => rfl)))) pe_int) pe_int) pe_int))
    (pss_one (ps_ret (pe_op op_mod (pe_op u_add (pe_op op_fdivW (pv 3) pe_int) (pe_op u_mul pe_int (pe_op op_fdivW (pv 4) pe_int))) (pv 1)))))))), ?_⟩
  refine z_st (σ := [some (.ref b), some (.int m), none, none, none]) rfl ?_
  walk_at "z"
  · exact q _ _ (Int.emod_nonneg _ (by omega)) (Int.emod_lt_of_pos _ (by omega)) (by assumption) ⟨_, _, _, by assumption, f0, Int.ediv_nonneg hx (by omega), hy1, hy2, hz1, by omega⟩
  · exact q _ _ (Int.emod_nonneg _ (by omega)) (Int.emod_lt_of_pos _ (by omega)) (by assumption) ⟨_, _, _, by assumption, f0, hx, hy1, hy2, by omega, by omega⟩

/-! ### whole numbers by their bits (plain) -/
def onesN (n : Nat) : List Nat := (List.range (n.log2 + 1)).filter n.testBit
def worth (ps : List Nat) : Nat := (ps.map fun p => 2 ^ p).sum
theorem bits_more {n p q : Nat} (h : p ≤ q) (z : n < 2 ^ p) : (List.range q).filter n.testBit = (List.range p).filter n.testBit := by
  induction q with
  | zero =>
    have e : p = 0 := by omega
    rw [e]
  | succ q ih =>
    by_cases e : p = q + 1
    · rw [e]
    · have le : p ≤ q := by omega
      rw [List.range_succ, List.filter_append, ih le]
      have f : n.testBit q = false := Nat.testBit_lt_two_pow (Nat.lt_of_lt_of_le z (Nat.pow_le_pow_right (by decide) le))
      simp [f]
theorem bits_all {n p : Nat} (z : n < 2 ^ p) : (List.range p).filter n.testBit = onesN n := by
  unfold onesN
  have h : n < 2 ^ (n.log2 + 1) := Nat.lt_log2_self
  rcases Nat.le_total p (n.log2 + 1) with l | l
  · rw [bits_more l z]
  · rw [bits_more l h]
theorem bits_stop {n p : Nat} (z : n / 2 ^ p = 0) : (List.range p).filter n.testBit = onesN n :=
  bits_all (by rcases Nat.div_eq_zero_iff.mp z with h | h
               · exact absurd h (Nat.ne_of_gt (Nat.two_pow_pos p))
               · exact h)
theorem bits_yes {n p : Nat} (h : n / 2 ^ p % 2 = 1) : (List.range (p + 1)).filter n.testBit = (List.range p).filter n.testBit ++ [p] := by
  rw [List.range_succ, List.filter_append]
  have f : n.testBit p = true := by rw [Nat.testBit_eq_decide_div_mod_eq]; exact decide_eq_true h
  simp [f]
theorem bits_no {n p : Nat} (h : ¬ n / 2 ^ p % 2 = 1) : (List.range (p + 1)).filter n.testBit = (List.range p).filter n.testBit := by
  rw [List.range_succ, List.filter_append]
  have f : n.testBit p = false := by rw [Nat.testBit_eq_decide_div_mod_eq]; exact decide_eq_false h
  simp [f]
theorem bits_len (n p : Nat) : ((List.range p).filter n.testBit).length ≤ p := by
  have := List.length_filter_le n.testBit (List.range p)
  rwa [List.length_range] at this
/-- how many ones -/
def pc (n : Nat) : Nat := if n = 0 then 0 else pc (n / 2) + n % 2
theorem pc0 : pc 0 = 0 := by unfold pc; rfl
theorem pc_step (n : Nat) : pc n = pc (n / 2) + n % 2 := by
  by_cases h : n = 0
  · subst h; rw [show 0 / 2 = 0 from rfl, pc0]
  · conv => lhs; unfold pc
    rw [if_neg h]
theorem bits_pc : ∀ (p n : Nat), n < 2 ^ p → ((List.range p).filter n.testBit).length = pc n
  | 0, n, h => by
    have e : n = 0 := by simpa using h
    subst e; rw [pc0]; rfl
  | p + 1, n, h => by
    have h2 : n / 2 < 2 ^ p := by rw [Nat.pow_succ] at h; omega
    have ih := bits_pc p (n / 2) h2
    rw [List.range_succ_eq_map, List.filter_cons, List.filter_map, pc_step n, ← ih]
    have e : (n.testBit ∘ Nat.succ) = (n / 2).testBit := by
      funext k
      show n.testBit (k + 1) = _
      rw [Nat.testBit_succ]
    rw [e]
    have b : n.testBit 0 = decide (n % 2 = 1) := Nat.testBit_zero n
    rw [b]
    by_cases c : n % 2 = 1
    · rw [decide_eq_true c, if_pos rfl, List.length_cons, List.length_map, c]
    · rw [decide_eq_false c, if_neg Bool.false_ne_true, List.length_map, show n % 2 = 0 by omega]; rfl
theorem onesN_pc (n : Nat) : (onesN n).length = pc n := bits_pc _ n Nat.lt_log2_self
theorem pc_add (a b : Nat) : pc (a + b) ≤ pc a + pc b := by
  induction h : a + b using Nat.strongRecOn generalizing a b with
  | _ s ih =>
    subst h
    by_cases z : a + b = 0
    · rw [z, pc0]; omega
    · by_cases b1 : a = 0
      · subst b1; rw [Nat.zero_add]; omega
      · by_cases b2 : b = 0
        · subst b2; rw [Nat.add_zero]; omega
        · rw [pc_step (a + b), pc_step a, pc_step b]
          by_cases odd : a % 2 = 1 ∧ b % 2 = 1
          · have e : (a + b) / 2 = a / 2 + (b / 2 + 1) := by omega
            have i1 := ih (a / 2 + (b / 2 + 1)) (by omega) (a / 2) (b / 2 + 1) rfl
            have p1 : pc 1 = 1 := by rw [pc_step, show 1 / 2 = 0 from rfl, pc0]
            by_cases s1 : b / 2 + 1 < a + b
            · have i2 := ih (b / 2 + 1) s1 (b / 2) 1 rfl
              rw [e]; omega
            · omega
          · have e : (a + b) / 2 = a / 2 + b / 2 := by omega
            have i1 := ih (a / 2 + b / 2) (by omega) (a / 2) (b / 2) rfl
            rw [e]; omega
theorem pc_pow : ∀ k : Nat, pc (2 ^ k) = 1
  | 0 => by rw [pc_step, show 2 ^ 0 / 2 = 0 from rfl, pc0]
  | k + 1 => by
    rw [pc_step, show 2 ^ (k + 1) / 2 = 2 ^ k by rw [Nat.pow_succ]; omega, pc_pow k]
    have : 2 ^ (k + 1) % 2 = 0 := by rw [Nat.pow_succ]; omega
    omega
theorem pc_worth : ∀ ps : List Nat, pc (worth ps) ≤ ps.length
  | [] => by rw [show worth [] = 0 from rfl, pc0]; exact Nat.zero_le _
  | p :: ps => by
    have e : worth (p :: ps) = 2 ^ p + worth ps := by simp [worth]
    rw [e, List.length_cons]
    have h1 := pc_add (2 ^ p) (worth ps)
    have h2 := pc_worth ps
    have h3 := pc_pow p
    omega
theorem ones_len (ps : List Nat) : (onesN (worth ps)).length ≤ ps.length := by rw [onesN_pc]; exact pc_worth ps
theorem worth_le : ∀ {ps : List Nat} {m : Nat}, (∀ p ∈ ps, p ≤ m) → worth ps ≤ ps.length * 2 ^ m
  | [], _, _ => by simp [worth]
  | p :: ps, m, h => by
    have e : worth (p :: ps) = 2 ^ p + worth ps := by simp [worth]
    have i := worth_le (ps := ps) (m := m) fun q hq => h q (List.mem_cons_of_mem _ hq)
    have j : 2 ^ p ≤ 2 ^ m := Nat.pow_le_pow_right (by decide) (h p List.mem_cons_self)
    rw [e, List.length_cons, Nat.add_mul, Nat.one_mul]
    omega
theorem ones_small {n p : Nat} (h : p ∈ onesN n) : 2 ^ p ≤ n := by
  unfold onesN at h
  have := (List.mem_filter.mp h).2
  exact Nat.ge_two_pow_of_testBit this
theorem ones_lt {n p m : Nat} (h : p ∈ onesN n) (l : n < 2 ^ m) : p < m := by
  have := ones_small h
  exact (Nat.pow_lt_pow_iff_right (by decide)).mp (Nat.lt_of_le_of_lt this l)
theorem onesN_len {n m : Nat} (l : n < 2 ^ m) : (onesN n).length ≤ m := by
  rw [← bits_all l]; exact bits_len n m
theorem bits_half {n k : Nat} : n / 2 ^ (k + 1) = n / 2 ^ k / 2 := by rw [Nat.pow_succ, Nat.div_div_eq_div_mul]
theorem bits_halfI {n k : Nat} : ((n / 2 ^ (k + 1) : Nat) : Int) = ((n / 2 ^ k : Nat) : Int) / 2 := by rw [bits_half]; rfl

/-! ### rows of places -/
def RowD (ps : List Nat) (d : D) : Prop := (d = .lst (dN ps) ∨ d = .tup (dN ps)) ∧ ps.length ≤ 400 ∧ ∀ p ∈ ps, p ≤ 400
theorem RowD.items {ps : List Nat} {d : D} (h : RowD ps d) : items d = some (dN ps) := by rcases h.1 with e | e <;> subst e <;> rfl
theorem RowD.row {ps : List Nat} {d : D} (h : RowD ps d) : rowD d = true := by
  have a : (dN ps).all (wholeD · 0 400) = true := by
    rw [List.all_eq_true]
    intro x hx
    obtain ⟨p, hp, rfl⟩ := List.mem_map.mp hx
    have := h.2.2 p hp
    unfold wholeD
    simp; omega
  have l : (dN ps).length ≤ 400 := by rw [List.length_map]; exact h.2.1
  rcases h.1 with e | e <;> subst e <;> simp only [rowD, decide_eq_true l, a, Bool.true_and]
theorem worth_lt {ps : List Nat} (h : ps.length ≤ 400) (k : ∀ p ∈ ps, p ≤ 400) : worth ps < 2 ^ 410 := by
  have a := worth_le k
  have b : ps.length * 2 ^ 400 ≤ 400 * 2 ^ 400 := Nat.mul_le_mul_right _ h
  have c : (400 : Nat) * 2 ^ 400 < 2 ^ 410 := by decide +kernel
  omega
/-- 1 << place, each -/
def powD : D → Option D | .int p => some (.int (2 ^ p.toNat)) | _ => none
theorem powD_map (ps : List Nat) : (dN ps).filterMap powD = dI (ps.map fun p => (2 : Int) ^ p) := by
  induction ps with
  | nil => rfl
  | cons p ps ih =>
    show (D.int (p : Nat) :: dN ps).filterMap powD = _
    rw [List.filterMap_cons, ih]
    simp [powD]
theorem sum_worth (ps : List Nat) : (ps.map fun p => (2 : Int) ^ p).sum = (worth ps : Nat) := by
  induction ps with
  | nil => rfl
  | cons p ps ih =>
    have e : worth (p :: ps) = 2 ^ p + worth ps := by simp [worth]
    rw [List.map_cons, List.sum_cons, ih, e]
    simp
theorem r_lenRow {K : PySem.W.Frag} {F H : Hp} {Q : VK} {x : V} {ps : List Nat} {d : D} (hF : Same F H) (hx : Rep F d x) (h : RowD ps d) (q : Q (.int (ps.length : Nat)) H) : uLen K [x] H Q := by
  rcases h.1 with e | e <;> subst e
  · exact r_lenL hF hx (by rw [List.length_map]; exact q)
  · exact r_lenT hF hx (by rw [List.length_map]; exact q)
local macro_rules | `(tactic| walk_at "z1") => `(tactic| first | ((with_reducible refine gd_len ?_); with_reducible refine r_lenRow (by walk_at "hf") (by walk_at "rp") (by with_reducible assumption) ?_) | fail)

/-! ### need_row -/
def sp_need_row : Sp := fun vs H Q _ => ∃ F d v, vs = [v] ∧ Same F H ∧ Rep F d v ∧ rowD d = true ∧ ∀ F' H', Ext [] F H F' H' → Q .non H'
theorem use_need_row {F H : Hp} {d : D} {v : V} {Q : VK} {E : XK} (hF : Same F H) (hd : Rep F d v) (h : rowD d = true) (q : ∀ F' H', Ext [] F H F' H' → Q .non H') : sp_need_row [v] H Q E := ⟨F, d, v, rfl, hF, hd, h, q⟩
abbrev s_need_row : Stmt := topS 11
theorem sc_need_row : FnScope ["thing"] ["thing"] (defScope s_need_row) := ⟨rfl, rfl, rfl, by decide +kernel, rfl, by decide +kernel, by decide +kernel⟩
theorem ok_need_row {W : Wd} {f : Addr} {fd : FuncData} (T : Txt W) (dF : Df W "need_row" "need_row" s_need_row f fd) (c_is_row_1 : Cal W 2 "is_row" 1 [] (fun vs _ => vs) sp_is_row) : Fn W 3 f fd ["thing"] sp_need_row := by
  refine fn_by dF sc_need_row (fun vs H Q E h => ?_) (fun cd A out s H vs Q E hr h => ?_)
  · obtain ⟨F, d, v, rfl, _⟩ := h; rfl
  obtain ⟨F, d, v, rfl, hF, hd, h1, q⟩ := h
  refine ⟨_, (pss_one (ps_if (pt_not (pt_val (c_fn c_is_row_1 hr (by decide) (by rfl) pass (pa_cons (pv 0) pa_nil) pk_nil))) (pss_one (ps_never)) pss_nil)), ?_⟩
  refine z_st (σ := [some v]) rfl ?_
  walk_at "z"
  rw [h1]
  walk_at "z"
  exact q _ _ (by walk_at "zx")

/-! ### ones_of -/
def sp_ones_of : Sp := fun vs H Q _ => ∃ F n, vs = [.int (n : Nat)] ∧ Same F H ∧ n < 2 ^ 5000 ∧ ∀ p H', H p = none → F p = none → Wr [] F H H' → H' p = some (.lst (vN (onesN n))) → Q (.ref p) H'
theorem use_ones_of {F H : Hp} {n : Nat} {Q : VK} {E : XK} (hF : Same F H) (h : n < 2 ^ 5000) (q : ∀ p H', H p = none → F p = none → Wr [] F H H' → H' p = some (.lst (vN (onesN n))) → Q (.ref p) H') : sp_ones_of [.int n] H Q E := ⟨F, n, rfl, hF, h, q⟩
abbrev s_ones_of : Stmt := topS 12
theorem sc_ones_of : FnScope ["number", "found", "place"] ["number"] (defScope s_ones_of) := ⟨rfl, rfl, rfl, by decide +kernel, rfl, by decide +kernel, by decide +kernel⟩
theorem ok_ones_of {W : Wd} {f : Addr} {fd : FuncData} (T : Txt W) (dF : Df W "ones_of" "ones_of" s_ones_of f fd) : Fn W 2 f fd ["number"] sp_ones_of := by
  refine fn_by dF sc_ones_of (fun vs H Q E h => ?_) (fun cd A out s H vs Q E hr h => ?_)
  · obtain ⟨F, n, rfl, _⟩ := h; rfl
  obtain ⟨F, n, rfl, hF, hn, q⟩ := h
  refine ⟨_, (pss_cons (ps_set (i := 1) sc_ones_of.nd rfl (Or.inl rfl) (pe_lst pa_nil))
    (pss_cons (ps_set (i := 2) sc_ones_of.nd rfl (Or.inl rfl) pe_int)
    (pss_cons (ps_while passOwn (pt_cmpR op_gt (pv 0) pe_int (nomark _)) (pss_cons (ps_if (pt_cmpR (u_eq (hr.less (by decide))) (pe_op op_mod (pv 0) pe_int) pe_int (nomark _)) (pss_one (ps_expr (pe_bm PySem.F.plainAttrs_list PySem.F.slot_list_append PySem.F.type_list_append mt_append (pv 1) (pa_cons (pv 2) pa_nil)))) pss_nil)
    (pss_cons (ps_set (i := 0) sc_ones_of.nd rfl (Or.inl rfl) (pe_op op_fdivW (pv 0) pe_int))
    (pss_one (ps_set (i := 2) sc_ones_of.nd rfl (Or.inl rfl) (pe_op u_add (pv 2) pe_int))))))
    (pss_one (ps_ret (pv 1)))))), ?_⟩
  refine z_st (σ := [some (.int n), none, none]) rfl ?_
  walk_at "z"
  refine r_lstW hF (small_le (by simp)) fun p H1 x1 h1 f1 hp => ?_
  walk_at "z"
  refine d_while (by walk_at "hf") [p] (fun m σ' F' H' => ∃ k : Nat, k ≤ 5000 ∧ m = n / 2 ^ k ∧ F = F' ∧ σ' = [some (.int (n / 2 ^ k : Nat)), some (.ref p), some (.int k)] ∧ H' p = some (.lst (vN ((List.range k).filter n.testBit)))) n ⟨0, by omega, by simp, rfl, by simp, h1⟩ ?_
  rintro m σ' F' H' x ⟨k, hk, rfl, rfl, rfl, hc⟩
  have bl := bits_len n k
  walk_at "z"
  refine wh_go (fun h => ?_) (fun h => ?_)
  · have hpos : 0 < n / 2 ^ k := by have := of_decide_eq_true h; omega
    have hk' : k + 1 ≤ 5000 := by
      rcases Nat.lt_or_ge k 5000 with l | l
      · exact l
      · rw [Nat.div_eq_of_lt (Nat.lt_of_lt_of_le hn (Nat.pow_le_pow_right (by decide) l))] at hpos
        omega
    have lt : n / 2 ^ (k + 1) < n / 2 ^ k := by rw [bits_half]; omega
    walk_at "z"
    · rename_i hm H2 y2 h2
      have e1 : n / 2 ^ k % 2 = 1 := by omega
      refine ⟨_, F, lt, ?_, k + 1, hk', rfl, rfl, ?_, ?_⟩
      · walk_at "zx"
      · rw [bits_halfI]; rfl
      · rw [bits_yes e1, vN_app]; exact h2
    · rename_i hm
      have e1 : ¬ n / 2 ^ k % 2 = 1 := by omega
      refine ⟨_, F, lt, ?_, k + 1, hk', rfl, rfl, ?_, ?_⟩
      · walk_at "zx"
      · rw [bits_halfI]; rfl
      · rw [bits_no e1]; exact hc
  · have z : n / 2 ^ k = 0 := by
      have h0 : ¬ (0 : Int) < ((n / 2 ^ k : Nat) : Int) := of_decide_eq_false h
      exact Nat.le_zero.mp (Nat.not_lt.mp fun l => h0 (Int.ofNat_lt.mpr l))
    rw [bits_stop z] at hc
    walk_at "z"
    exact q _ _ hp f1 (Wr.trY (.ofX x) (x1.widen fun _ h => by cases h) (fun _ h => h) |>.drop hp) hc

/-! ### worth_of -/
def sp_worth_of : Sp := fun vs H Q _ => ∃ F ps d v, vs = [v] ∧ Same F H ∧ Rep F d v ∧ RowD ps d ∧ ∀ F' H', Ext [] F H F' H' → Q (.int (worth ps : Nat)) H'
theorem use_worth_of {F H : Hp} {ps : List Nat} {d : D} {v : V} {Q : VK} {E : XK} (hF : Same F H) (hd : Rep F d v) (h : RowD ps d) (q : ∀ F' H', Ext [] F H F' H' → Q (.int (worth ps : Nat)) H') : sp_worth_of [v] H Q E := ⟨F, ps, d, v, rfl, hF, hd, h, q⟩
local macro_rules | `(tactic| walk_at "z1") => `(tactic| first | ((with_reducible refine use_worth_of (by walk_at "hf") (by walk_at "rp") (by with_reducible assumption) ?_; intro _ _ _)) | fail)
abbrev s_worth_of : Stmt := topS 14
theorem sc_worth_of : FnScope ["places", "place"] ["places"] (defScope s_worth_of) := ⟨rfl, rfl, rfl, by decide +kernel, rfl, by decide +kernel, by decide +kernel⟩
theorem ok_worth_of {W : Wd} {f : Addr} {fd : FuncData} (T : Txt W) (dF : Df W "worth_of" "worth_of" s_worth_of f fd) (c_need_row_1 : Cal W 3 "need_row" 1 [] (fun vs _ => vs) sp_need_row) : Fn W 4 f fd ["places"] sp_worth_of := by
  refine fn_by dF sc_worth_of (fun vs H Q E h => ?_) (fun cd A out s H vs Q E hr h => ?_)
  · obtain ⟨F, ps, d, v, rfl, _⟩ := h; rfl
  obtain ⟨F, ps, d, v, rfl, hF, hd, hp, q⟩ := h
  refine ⟨_, (pss_cons (ps_expr (c_fn c_need_row_1 hr (by decide) (by rfl) pass (pa_cons (pv 0) pa_nil) pk_nil))
    (pss_one (ps_ret (pe_callB (cr_sum rfl) (by rfl) T.n_sum (by decide +kernel) (pa_cons (pe_lc rfl sc_worth_of.nd (u_it (pv 0)) (blkOk_by (own := [("place", 1)]) (N := ["places", "place"]) (sc := defScope s_worth_of) (by decide +kernel)) (fun _ _ _ _ _ => (pg_name (i := 1) sc_worth_of.nd rfl (Or.inl rfl))) (fun _ _ _ _ _ => pts_nil) (fun _ _ _ _ _ => (pe_op op_shlW pe_int (pv 1)))) pa_nil))))), ?_⟩
  refine z_st (σ := [some v, none]) rfl ?_
  walk_at "z"
  refine use_need_row (by walk_at "hf") (by walk_at "rp") hp.row fun F1 H1 x1 => ?_
  walk_at "z"
  refine d_lcM (by walk_at "hf") (by walk_at "rp") hp.items (by rw [List.length_map]; have := hp.2.1; omega) powD ?_ ?_
  · intro e v F' H' Y N he hv x hy _
    obtain ⟨p, hm, rfl⟩ := List.mem_map.mp he
    have e1 := hv.of_int
    have l1 := hp.2.2 p hm
    subst e1
    walk_at "z"
    refine ⟨rfl, ?_⟩
    walk_at "z"
    refine r_shl1 (by omega) ?_
    exact hy _ _ _ _ rfl (by walk_at "zx") (by simpa using rep_int)
  · intro p F' H' hq x hr
    rw [powD_map] at hr
    walk_at "z"
    rw [sum_worth]
    exact q _ _ (by walk_at "zx")

/-! ### shortest -/
def sp_shortest : Sp := fun vs H Q _ => ∃ F ps d v, vs = [v] ∧ Same F H ∧ Rep F d v ∧ RowD ps d ∧ ∀ p F' H', H p = none → F' p = none → Ext [] F H F' H' → H' p = some (.lst (vN (onesN (worth ps)))) → Q (.ref p) H'
theorem use_shortest {F H : Hp} {ps : List Nat} {d : D} {v : V} {Q : VK} {E : XK} (hF : Same F H) (hd : Rep F d v) (h : RowD ps d) (q : ∀ p F' H', H p = none → F' p = none → Ext [] F H F' H' → H' p = some (.lst (vN (onesN (worth ps)))) → Q (.ref p) H') : sp_shortest [v] H Q E := ⟨F, ps, d, v, rfl, hF, hd, h, q⟩
local macro_rules | `(tactic| walk_at "z1") => `(tactic| first | ((with_reducible refine use_shortest (by walk_at "hf") (by walk_at "rp") (by with_reducible assumption) ?_; intro _ _ _ _ _ _ _)) | fail)
abbrev s_shortest : Stmt := topS 15
theorem sc_shortest : FnScope ["places"] ["places"] (defScope s_shortest) := ⟨rfl, rfl, rfl, by decide +kernel, rfl, by decide +kernel, by decide +kernel⟩
theorem ok_shortest {W : Wd} {f : Addr} {fd : FuncData} (T : Txt W) (dF : Df W "shortest" "shortest" s_shortest f fd) (c_ones_of_1 : Cal W 2 "ones_of" 1 [] (fun vs _ => vs) sp_ones_of) (c_worth_of_1 : Cal W 4 "worth_of" 1 [] (fun vs _ => vs) sp_worth_of) : Fn W 5 f fd ["places"] sp_shortest := by
  refine fn_by dF sc_shortest (fun vs H Q E h => ?_) (fun cd A out s H vs Q E hr h => ?_)
  · obtain ⟨F, ps, d, v, rfl, _⟩ := h; rfl
  obtain ⟨F, ps, d, v, rfl, hF, hd, hp, q⟩ := h
  refine ⟨_, (pss_one (ps_ret (c_fn c_ones_of_1 hr (by decide) (by rfl) pass (pa_cons (c_fn c_worth_of_1 hr (by decide) (by rfl) pass (pa_cons (pv 0) pa_nil) pk_nil) pa_nil) pk_nil))), ?_⟩
  refine z_st (σ := [some v]) rfl ?_
  walk_at "z"
  rename_i F1 H1 x1
  refine use_ones_of (by walk_at "hf") (Nat.lt_trans (worth_lt hp.2.1 hp.2.2) (Nat.pow_lt_pow_right (by decide) (by decide))) fun p H2 h1 h2 x2 h3 => ?_
  exact q _ _ _ (x1.free h1) h2 (by walk_at "zx") h3

/-! ### fewer_by -/
def sp_fewer_by : Sp := fun vs H Q _ => ∃ F ps d v, vs = [v] ∧ Same F H ∧ Rep F d v ∧ RowD ps d ∧ ∀ F' H', Ext [] F H F' H' → Q (.int ((ps.length : Int) - ((onesN (worth ps)).length : Int))) H'
theorem use_fewer_by {F H : Hp} {ps : List Nat} {d : D} {v : V} {Q : VK} {E : XK} (hF : Same F H) (hd : Rep F d v) (h : RowD ps d) (q : ∀ F' H', Ext [] F H F' H' → Q (.int ((ps.length : Int) - ((onesN (worth ps)).length : Int))) H') : sp_fewer_by [v] H Q E := ⟨F, ps, d, v, rfl, hF, hd, h, q⟩
local macro_rules | `(tactic| walk_at "z1") => `(tactic| first | ((with_reducible refine use_fewer_by (by walk_at "hf") (by walk_at "rp") (by with_reducible assumption) ?_; intro _ _ _)) | fail)
abbrev s_fewer_by : Stmt := topS 16
theorem sc_fewer_by : FnScope ["places"] ["places"] (defScope s_fewer_by) := ⟨rfl, rfl, rfl, by decide +kernel, rfl, by decide +kernel, by decide +kernel⟩
theorem ok_fewer_by {W : Wd} {f : Addr} {fd : FuncData} (T : Txt W) (dF : Df W "fewer_by" "fewer_by" s_fewer_by f fd) (c_need_row_1 : Cal W 3 "need_row" 1 [] (fun vs _ => vs) sp_need_row) (c_shortest_1 : Cal W 5 "shortest" 1 [] (fun vs _ => vs) sp_shortest) : Fn W 6 f fd ["places"] sp_fewer_by := by
  refine fn_by dF sc_fewer_by (fun vs H Q E h => ?_) (fun cd A out s H vs Q E hr h => ?_)
  · obtain ⟨F, ps, d, v, rfl, _⟩ := h; rfl
  obtain ⟨F, ps, d, v, rfl, hF, hd, hp, q⟩ := h
  refine ⟨_, (pss_cons (ps_expr (c_fn c_need_row_1 hr (by decide) (by rfl) pass (pa_cons (pv 0) pa_nil) pk_nil))
    (pss_one (ps_ret (pe_op op_sub (pe_callB u_len (by rfl) T.n_len (by decide +kernel) (pa_cons (pv 0) pa_nil)) (pe_callB u_len (by rfl) T.n_len (by decide +kernel) (pa_cons (c_fn c_shortest_1 hr (by decide) (by rfl) pass (pa_cons (pv 0) pa_nil) pk_nil) pa_nil)))))), ?_⟩
  refine z_st (σ := [some v]) rfl ?_
  walk_at "z"
  refine use_need_row (by walk_at "hf") (by walk_at "rp") hp.row fun F1 H1 x1 => ?_
  walk_at "z"
  rw [List.length_map]
  exact q _ _ (by walk_at "zx")

/-! ### _law_ones -/
def sp_law_ones : Sp := fun vs H Q _ => ∃ F n, vs = [.int (n : Nat)] ∧ Same F H ∧ n < 2 ^ 5000 ∧ ∀ p H', H p = none → F p = none → Wr [] F H H' → H' p = some (.lst (vN (onesN n))) → Q (.ref p) H'
theorem use_law_ones {F H : Hp} {n : Nat} {Q : VK} {E : XK} (hF : Same F H) (h : n < 2 ^ 5000) (q : ∀ p H', H p = none → F p = none → Wr [] F H H' → H' p = some (.lst (vN (onesN n))) → Q (.ref p) H') : sp_law_ones [.int n] H Q E := ⟨F, n, rfl, hF, h, q⟩
abbrev s_law_ones : Stmt := topS 22
theorem sc_law_ones : FnScope ["number", "found", "place"] ["number"] (defScope s_law_ones) := ⟨rfl, rfl, rfl, by decide +kernel, rfl, by decide +kernel, by decide +kernel⟩
theorem ok_law_ones {W : Wd} {f : Addr} {fd : FuncData} (T : Txt W) (dF : Df W "_law_ones" "_law_ones" s_law_ones f fd) : Fn W 2 f fd ["number"] sp_law_ones := by
  refine fn_by dF sc_law_ones (fun vs H Q E h => ?_) (fun cd A out s H vs Q E hr h => ?_)
  · obtain ⟨F, n, rfl, _⟩ := h; rfl
  obtain ⟨F, n, rfl, hF, hn, q⟩ := h
  refine ⟨_, (pss_cons (ps_par (i := 1) (j := 2) rfl sc_law_ones.nd rfl rfl (by decide) rfl rfl (pa_cons (pe_lst pa_nil) (pa_cons pe_int pa_nil)) (by rfl))
    (pss_cons (ps_while passOwn (pt_cmpR op_gt (pv 0) pe_int (nomark _)) (pss_cons (ps_if (pt_cmpR (u_eq (hr.less (by decide))) (pe_op op_mod (pv 0) pe_int) pe_int (nomark _)) (pss_one (ps_expr (pe_bm PySem.F.plainAttrs_list PySem.F.slot_list_append PySem.F.type_list_append mt_append (pv 1) (pa_cons (pv 2) pa_nil)))) pss_nil)
    (pss_one (ps_par (i := 0) (j := 2) rfl sc_law_ones.nd rfl rfl (by decide) rfl rfl (pa_cons (pe_op op_fdivW (pv 0) pe_int) (pa_cons (pe_op u_add (pv 2) pe_int) pa_nil)) (by rfl)))))
    (pss_one (ps_ret (pv 1))))), ?_⟩
  refine z_st (σ := [some (.int n), none, none]) rfl ?_
  walk_at "z"
  refine r_lstW hF (small_le (by simp)) fun p H1 x1 h1 f1 hp => ?_
  walk_at "z"
  refine d_while (by walk_at "hf") [p] (fun m σ' F' H' => ∃ k : Nat, k ≤ 5000 ∧ m = n / 2 ^ k ∧ F = F' ∧ σ' = [some (.int (n / 2 ^ k : Nat)), some (.ref p), some (.int k)] ∧ H' p = some (.lst (vN ((List.range k).filter n.testBit)))) n ⟨0, by omega, by simp, rfl, by simp, h1⟩ ?_
  rintro m σ' F' H' x ⟨k, hk, rfl, rfl, rfl, hc⟩
  have bl := bits_len n k
  walk_at "z"
  refine wh_go (fun h => ?_) (fun h => ?_)
  · have hpos : 0 < n / 2 ^ k := by have := of_decide_eq_true h; omega
    have hk' : k + 1 ≤ 5000 := by
      rcases Nat.lt_or_ge k 5000 with l | l
      · exact l
      · rw [Nat.div_eq_of_lt (Nat.lt_of_lt_of_le hn (Nat.pow_le_pow_right (by decide) l))] at hpos
        omega
    have lt : n / 2 ^ (k + 1) < n / 2 ^ k := by rw [bits_half]; omega
    walk_at "z"
    · rename_i hm H2 y2 h2
      have e1 : n / 2 ^ k % 2 = 1 := by omega
      refine ⟨_, F, lt, ?_, k + 1, hk', rfl, rfl, ?_, ?_⟩
      · walk_at "zx"
      · rw [bits_halfI]; rfl
      · rw [bits_yes e1, vN_app]; exact h2
    · rename_i hm
      have e1 : ¬ n / 2 ^ k % 2 = 1 := by omega
      refine ⟨_, F, lt, ?_, k + 1, hk', rfl, rfl, ?_, ?_⟩
      · walk_at "zx"
      · rw [bits_halfI]; rfl
      · rw [bits_no e1]; exact hc
  · have z : n / 2 ^ k = 0 := by
      have h0 : ¬ (0 : Int) < ((n / 2 ^ k : Nat) : Int) := of_decide_eq_false h
      exact Nat.le_zero.mp (Nat.not_lt.mp fun l => h0 (Int.ofNat_lt.mpr l))
    rw [bits_stop z] at hc
    walk_at "z"
    exact q _ _ hp f1 (Wr.trY (.ofX x) (x1.widen fun _ h => by cases h) (fun _ h => h) |>.drop hp) hc

/-! ### _law_sum -/
def sp_law_sum : Sp := fun vs H Q _ => ∃ F ps d v, vs = [v] ∧ Same F H ∧ Rep F d v ∧ items d = some (dN ps) ∧ ps.length ≤ 5000 ∧ (∀ p ∈ ps, p ≤ 5000) ∧ ∀ F' H', Ext [] F H F' H' → Q (.int (worth ps : Nat)) H'
theorem use_law_sum {F H : Hp} {ps : List Nat} {d : D} {v : V} {Q : VK} {E : XK} (hF : Same F H) (hd : Rep F d v) (h : RowD ps d) (q : ∀ F' H', Ext [] F H F' H' → Q (.int (worth ps : Nat)) H') : sp_law_sum [v] H Q E :=
  ⟨F, ps, d, v, rfl, hF, hd, h.items, Nat.le_trans h.2.1 (by decide), fun p m => Nat.le_trans (h.2.2 p m) (by decide), q⟩
local macro_rules | `(tactic| walk_at "z1") => `(tactic| first | ((with_reducible refine use_law_sum (by walk_at "hf") (by walk_at "rp") (by with_reducible assumption) ?_; intro _ _ _)) | fail)
abbrev s_law_sum : Stmt := topS 24
theorem sc_law_sum : FnScope ["row", "place"] ["row"] (defScope s_law_sum) := ⟨rfl, rfl, rfl, by decide +kernel, rfl, by decide +kernel, by decide +kernel⟩
theorem ok_law_sum {W : Wd} {f : Addr} {fd : FuncData} (T : Txt W) (dF : Df W "_law_sum" "_law_sum" s_law_sum f fd) : Fn W 2 f fd ["row"] sp_law_sum := by
  refine fn_by dF sc_law_sum (fun vs H Q E h => ?_) (fun cd A out s H vs Q E hr h => ?_)
  · obtain ⟨F, ps, d, v, rfl, _⟩ := h; rfl
  obtain ⟨F, ps, d, v, rfl, hF, hd, hi, hl, hm, q⟩ := h
  refine ⟨_, (pss_one (ps_ret (pe_callB (cr_sum rfl) (by rfl) T.n_sum (by decide +kernel) (pa_cons (pe_lc rfl sc_law_sum.nd (u_it (pv 0)) (blkOk_by (own := [("place", 1)]) (N := ["row", "place"]) (sc := defScope s_law_sum) (by decide +kernel)) (fun _ _ _ _ _ => (pg_name (i := 1) sc_law_sum.nd rfl (Or.inl rfl))) (fun _ _ _ _ _ => pts_nil) (fun _ _ _ _ _ => (pe_op op_shlW pe_int (pv 1)))) pa_nil)))), ?_⟩
  refine z_st (σ := [some v, none]) rfl ?_
  walk_at "z"
  refine d_lcM (by walk_at "hf") (by walk_at "rp") hi (by rw [List.length_map]; omega) powD ?_ ?_
  · intro e v F' H' Y N he hv x hy _
    obtain ⟨p, hp, rfl⟩ := List.mem_map.mp he
    have e1 := hv.of_int
    have l1 := hm p hp
    subst e1
    walk_at "z"
    refine ⟨rfl, ?_⟩
    walk_at "z"
    refine r_shl1 (by omega) ?_
    exact hy _ _ _ _ rfl (by walk_at "zx") (by simpa using rep_int)
  · intro p F' H' hq x hr
    rw [powD_map] at hr
    walk_at "z"
    rw [sum_worth]
    exact q _ _ (by walk_at "zx")

/-! ### _law_just -/
def justD (d e : D) : Bool := eqD d e && decide (txt d = txt e)
theorem justD_self (d : D) : justD d d = true := by unfold justD; rw [eqD_self, decide_eq_true rfl]; rfl
def sp_law_just : Sp := fun vs H Q _ => ∃ F d e v w, vs = [v, w] ∧ Same F H ∧ Rep F d v ∧ Rep F e w ∧ Fit d ∧ Fit e ∧ Q (.bl (justD d e)) H
theorem use_law_just {F H : Hp} {d e : D} {v w : V} {Q : VK} {E : XK} (hF : Same F H) (hd : Rep F d v) (he : Rep F e w) (fd : Fit d) (fe : Fit e) (q : Q (.bl (justD d e)) H) : sp_law_just [v, w] H Q E := ⟨F, d, e, v, w, rfl, hF, hd, he, fd, fe, q⟩
theorem use_law_justS {F H : Hp} {d : D} {v w : V} {Q : VK} {E : XK} (hF : Same F H) (hd : Rep F d v) (he : Rep F d w) (fd : Fit d) (q : Q (.bl true) H) : sp_law_just [v, w] H Q E := ⟨F, d, d, v, w, rfl, hF, hd, he, fd, fd, by rw [justD_self]; exact q⟩
abbrev s_law_just : Stmt := topS 21
theorem sc_law_just : FnScope ["told", "due"] ["told", "due"] (defScope s_law_just) := ⟨rfl, rfl, rfl, by decide +kernel, rfl, by decide +kernel, by decide +kernel⟩
theorem ok_law_just {W : Wd} {f : Addr} {fd : FuncData} (T : Txt W) (dF : Df W "_law_just" "_law_just" s_law_just f fd) : Fn W 2 f fd ["told", "due"] sp_law_just := by
  refine fn_by dF sc_law_just (fun vs H Q E h => ?_) (fun cd A out s H vs Q E hr h => ?_)
  · obtain ⟨F, d, e, v, w, rfl, _⟩ := h; rfl
  obtain ⟨F, d, e, v, w, rfl, hF, hd, he, fd, fe, q⟩ := h
  refine ⟨_, (pss_one (ps_ret (pe_and (pe_cmpR (u_eq (hr.less (by decide))) (pv 0) (pv 1) (nomark _)) (pe_one (pe_cmpR (u_eq (hr.less (by decide))) (pe_callB (u_repr (hr.less (by decide))) (by rfl) T.n_repr (by decide +kernel) (pa_cons (pv 0) pa_nil)) (pe_callB (u_repr (hr.less (by decide))) (by rfl) T.n_repr (by decide +kernel) (pa_cons (pv 1) pa_nil)) (nomark _)))))), ?_⟩
  refine z_st (σ := [some v, some w]) rfl ?_
  walk_at "z"
  refine r_eqD hF hd he fd.sm fe.sm fd.dep fe.dep ?_
  walk_at "z"
  refine ite_b (fun h => ?_) (fun h => ?_)
  · walk_at "z"
    refine r_repr hF hd fd ?_
    walk_at "z"
    refine r_repr hF he fe ?_
    walk_at "z"
    unfold justD at q
    rw [h, Bool.true_and] at q
    exact q
  · unfold justD at q
    rw [h, Bool.false_and] at q
    exact q

theorem use_law_take {F H : Hp} {b : Addr} {n : Nat} {m : Int} {Q : VK} {E : XK} (hF : Same F H) (hb : Bx b n F H) (h1 : 1 ≤ m ∧ m < 10 ^ 75) (h3 : n < 1000000)
    (q : ∀ (d : Nat) H', (d : Int) < m → Wr [b] F H H' → Bx b (n + 1) F H' → Q (.int (d : Nat)) H') : sp_law_take [.ref b, .int m] H Q E :=
  ⟨F, b, n, m, rfl, hF, hb, h1.1, h1.2, h3, fun d H' h1 h2 h3 h4 => by
    obtain ⟨k, rfl⟩ := Int.eq_ofNat_of_zero_le h1
    exact q k H' h2 h3 h4⟩
local macro_rules | `(tactic| walk_at "bx") => `(tactic| first | with_reducible assumption | (with_reducible exact Bx.extY (by assumption) (by walk_at "bx") (by walk_at "ne")) | (with_reducible exact Bx.extWY (by assumption) (by walk_at "bx") (by walk_at "ne")) | fail)
local macro_rules | `(tactic| walk_at "z1") => `(tactic| first | ((with_reducible refine use_law_take (by walk_at "hf") (by walk_at "bx") (by omega) (by omega) ?_; intro _ _ _ _ _)) | fail)

/-! ### places_of -/
def sp_places_of : Sp := fun vs H Q _ => ∃ F n, vs = [.int (n : Nat)] ∧ Same F H ∧ n ≤ 10 ^ 60 ∧ ∀ p H', H p = none → F p = none → Wr [] F H H' → H' p = some (.lst (vN (onesN n))) → Q (.ref p) H'
theorem use_places_of {F H : Hp} {n : Nat} {Q : VK} {E : XK} (hF : Same F H) (h : n ≤ 10 ^ 60) (q : ∀ p H', H p = none → F p = none → Wr [] F H H' → H' p = some (.lst (vN (onesN n))) → Q (.ref p) H') : sp_places_of [.int n] H Q E := ⟨F, n, rfl, hF, h, q⟩
theorem p60 : (10 : Nat) ^ 60 < 2 ^ 5000 := by decide +kernel
abbrev s_places_of : Stmt := topS 13
theorem sc_places_of : FnScope ["number"] ["number"] (defScope s_places_of) := ⟨rfl, rfl, rfl, by decide +kernel, rfl, by decide +kernel, by decide +kernel⟩
theorem ok_places_of {W : Wd} {f : Addr} {fd : FuncData} (T : Txt W) (dF : Df W "places_of" "places_of" s_places_of f fd) (c_is_whole_3 : Cal W 1 "is_whole" 3 [] (fun vs _ => vs) sp_is_whole) (c_ones_of_1 : Cal W 2 "ones_of" 1 [] (fun vs _ => vs) sp_ones_of) : Fn W 3 f fd ["number"] sp_places_of := by
  refine fn_by dF sc_places_of (fun vs H Q E h => ?_) (fun cd A out s H vs Q E hr h => ?_)
  · obtain ⟨F, n, rfl, _⟩ := h; rfl
  obtain ⟨F, n, rfl, hF, hn, q⟩ := h
  refine ⟨_, (pss_cons (ps_if (pt_not (pt_val (c_fn c_is_whole_3 hr (by decide) (by rfl) pass (pa_cons (pv 0) (pa_cons pe_int (pa_cons (u_glob rfl T.k_MOST) pa_nil))) pk_nil))) (pss_one (ps_never)) pss_nil)
    (pss_one (ps_ret (c_fn c_ones_of_1 hr (by decide) (by rfl) pass (pa_cons (pv 0) pa_nil) pk_nil)))), ?_⟩
  refine z_st (σ := [some (.int n)]) rfl ?_
  walk_at "z"
  have e : wholeD (.int (n : Nat)) 0 (10 ^ 60) = true := by
    have h1 : (0 : Int) ≤ n := by omega
    have h2 : (n : Int) ≤ 10 ^ 60 := by omega
    simp only [wholeD, decide_eq_true h1, decide_eq_true h2, Bool.and_self]
  rw [e]
  walk_at "z"
  exact use_ones_of (by walk_at "hf") (Nat.lt_of_le_of_lt hn p60) q

/-! ### _law_row -/
def sp_law_row : Sp := fun vs H Q _ => ∃ F b n m, vs = [.ref b, .int (m : Nat)] ∧ Same F H ∧ Bx b n F H ∧ n ≤ 900000 ∧ 30 ≤ m ∧ m ≤ 400 ∧ ∀ ps v F' H', ps.length ≤ m → (∀ p ∈ ps, p ≤ 400) → Ext [b] F H F' H' → Bx b (n + 500) F' H' → Rep F' (.lst (dN ps)) v → Q v H'
theorem use_law_row {F H : Hp} {b : Addr} {n m : Nat} {Q : VK} {E : XK} (hF : Same F H) (hb : Bx b n F H) (h1 : n ≤ 900000) (h2 : 30 ≤ m ∧ m ≤ 400)
    (q : ∀ ps v F' H', ps.length ≤ m → (∀ p ∈ ps, p ≤ 400) → Ext [b] F H F' H' → Bx b (n + 500) F' H' → Rep F' (.lst (dN ps)) v → Q v H') : sp_law_row [.ref b, .int m] H Q E := ⟨F, b, n, m, rfl, hF, hb, h1, h2.1, h2.2, q⟩
local macro_rules | `(tactic| walk_at "z1") => `(tactic| first | (with_reducible refine use_law_row (by walk_at "hf") (by walk_at "bx") (by omega) (by omega) ?_; intro _ _ _ _ _ _ _ _ _) | fail)
theorem dI_dN : ∀ {ns : List Int}, (∀ z ∈ ns, 0 ≤ z) → dI ns = dN (ns.map Int.toNat)
  | [], _ => rfl
  | z :: ns, h => by
    have a := h z List.mem_cons_self
    have e : ((z.toNat : Nat) : Int) = z := by omega
    show D.int z :: dI ns = D.int ((z.toNat : Nat) : Int) :: dN (ns.map Int.toNat)
    rw [e, dI_dN fun y hy => h y (List.mem_cons_of_mem _ hy)]
theorem flat1 {α : Type} (x : α) : ∀ n : Nat, (List.replicate n [x]).flatten = List.replicate n x
  | 0 => rfl
  | n + 1 => by rw [List.replicate_succ, List.flatten_cons, flat1 x n]; rfl
theorem r_mulLB {F H : Hp} {Q : VK} {x : V} {ds : List D} {k : Bool} (hF : Same F H) (hx : Rep F (.lst ds) x) (l : ds.length ≤ 1000)
    (q : ∀ p F' H', Ext [] F H F' H' → Rep F' (.lst (if k = true then ds else [])) (.ref p) → Q (.ref p) H') : uMul x (.int (if k = true then 1 else 0)) H Q := by
  cases k with
  | true => exact r_mulL (k := 1) hF hx (by decide) (by decide) (small_le (by simp; omega)) fun p F' H' x r => q p F' H' x (by simpa using r)
  | false => exact r_mulL (k := 0) hF hx (by decide) (by decide) (small_le (by simp)) fun p F' H' x r => q p F' H' x (by simpa using r)
abbrev s_law_row : Stmt := topS 23
theorem sc_law_row : FnScope ["box", "most", "way", "high", "many", "found", "k"] ["box", "most"] (defScope s_law_row) := ⟨rfl, rfl, rfl, by decide +kernel, rfl, by decide +kernel, by decide +kernel⟩
theorem ok_law_row {W : Wd} {f : Addr} {fd : FuncData} (T : Txt W) (dF : Df W "_law_row" "_law_row" s_law_row f fd) (c_law_take_2 : Cal W 1 "_law_take" 2 [] (fun vs _ => vs) sp_law_take) : Fn W 2 f fd ["box", "most"] sp_law_row := by
  refine fn_by dF sc_law_row (fun vs H Q E h => ?_) (fun cd A out s H vs Q E hr h => ?_)
  · obtain ⟨F, b, n, m, rfl, _⟩ := h; rfl
  obtain ⟨F, b, n, m, rfl, hF, hb, hn, hm1, hm2, q⟩ := h
  refine ⟨_, (pss_cons (ps_set (i := 2) sc_law_row.nd rfl (Or.inl rfl) (c_fn c_law_take_2 hr (by decide) (by rfl) pass (pa_cons (pv 0) (pa_cons pe_int pa_nil)) pk_nil))
    (pss_cons (ps_set (i := 3) sc_law_row.nd rfl (Or.inr rfl) (pe_ix ix_seq (pe_lst (pa_cons pe_int (pa_cons pe_int (pa_cons pe_int (pa_cons pe_int pa_nil))))) (c_fn c_law_take_2 hr (by decide) (by rfl) pass (pa_cons (pv 0) (pa_cons pe_int pa_nil)) pk_nil) (fun _ _ => rfl)))
    (pss_cons (ps_set (i := 4) sc_law_row.nd rfl (Or.inl rfl) (pe_ix ix_seq (pe_lst (pa_cons (c_fn c_law_take_2 hr (by decide) (by rfl) pass (pa_cons (pv 0) (pa_cons pe_int pa_nil)) pk_nil) (pa_cons (c_fn c_law_take_2 hr (by decide) (by rfl) pass (pa_cons (pv 0) (pa_cons pe_int pa_nil)) pk_nil) (pa_cons (c_fn c_law_take_2 hr (by decide) (by rfl) pass (pa_cons (pv 0) (pa_cons (pe_op u_add (pv 1) pe_int) pa_nil)) pk_nil) pa_nil)))) (c_fn c_law_take_2 hr (by decide) (by rfl) pass (pa_cons (pv 0) (pa_cons pe_int pa_nil)) pk_nil) (fun _ _ => rfl)))
    (pss_cons (ps_if (pt_cmpR (u_eq (hr.less (by decide))) (pv 2) pe_int (nomark _)) (pss_one (ps_ret (pe_op u_mul (pe_lst (pa_cons (c_fn c_law_take_2 hr (by decide) (by rfl) pass (pa_cons (pv 0) (pa_cons (pe_op u_add (pv 3) pe_int) pa_nil)) pk_nil) pa_nil)) (pv 4)))) pss_nil)
    (pss_cons (ps_setLc (i := 5) rfl sc_law_row.nd rfl rfl (sw_true rfl rfl rfl (by decide +kernel)) (pi_range1 (by rfl) T.n_range (pa_cons (pv 4) pa_nil)) (blkOk_by (own := [("k", 6)]) (N := ["box", "most", "way", "high", "many", "found", "k"]) (sc := defScope s_law_row) (by decide +kernel)) (fun _ _ _ _ _ => (pg_name (i := 6) sc_law_row.nd rfl (Or.inl rfl))) (fun _ _ _ _ _ => pts_nil) (fun _ _ _ _ _ => (c_fn c_law_take_2 hr (by decide) (by rfl) passNo (pa_cons (pv 0) (pa_cons (pe_op u_addB (pv 3) pe_int) pa_nil)) pk_nil)))
    (pss_cons (ps_if (pt_cmpR (u_eq (hr.less (by decide))) (pv 2) pe_int (nomark _)) (pss_one (ps_ret (pe_callB u_sorted (by rfl) T.n_sorted (by decide +kernel) (pa_cons (pv 5) pa_nil)))) pss_nil)
    (pss_one (ps_ret (pe_op u_add (pv 5) (pe_op u_mul (pe_lst (pa_cons pe_int pa_nil)) (pe_callTy u_int (by rfl) T.n_int (by decide +kernel) (pa_cons (pe_and (pe_cmpR (u_eq (hr.less (by decide))) (pv 2) pe_int (nomark _)) (pe_one (pe_cmpR op_lt (pv 4) (pv 1) (nomark _)))) pa_nil)))))))))))), ?_⟩
  refine z_st (σ := [some (.ref b), some (.int m), none, none, none, none, none]) rfl ?_
  walk_at "z"
  walk_at "zl"
  walk_at "z"
  refine r_ixN (ps := [4, 12, 60, 400]) (by walk_at "hf") (by walk_at "rpd") (by simp; omega) fun high hh => ?_
  have hh' : 4 ≤ high ∧ high ≤ 400 := by simp at hh; omega
  walk_at "z"
  walk_at "zl"
  walk_at "z"
  refine r_ixN (ps := [_, _, _]) (by walk_at "hf") (by walk_at "rpd") (by simp; omega) fun many hm => ?_
  have hm' : many ≤ m := by simp at hm; omega
  walk_at "z"
  · walk_at "zl"
    rename_i d _ _ _ _ _ _ _ _ _
    walk_at "z"
    refine r_mulL (by walk_at "hf") (by walk_at "rp") (by omega) (by omega) (small_le (by simp; omega)) fun p' F2 H2 x2 r2 => ?_
    rw [flat1] at r2
    refine q (List.replicate many d) _ _ _ (by simp; omega) (fun p hp => by rw [List.eq_of_mem_replicate hp]; omega) (by walk_at "zx") (Bx.le (by walk_at "bx") (by omega)) ?_
    simpa [dN, List.map_replicate] using r2
  · rename_i hw
    rw [Int.toNat_natCast]
    refine d_lcRB (by walk_at "hf") (by walk_at "bx") (by omega) 1 (fun e => ∃ p : Nat, e = .int p ∧ p ≤ high) ?_ ?_
    · intro i F' H' Y N hi hx hbx hy
      walk_at "z"
      refine ⟨rfl, ?_⟩
      walk_at "z"
      refine hy (.int _) _ F' _ ⟨_, rfl, ?_⟩ ?_ ?_ rep_int
      · omega
      · walk_at "zx"
      · exact Bx.le (by walk_at "bx") (by omega)
    · intro p es F' H' hp hx hbx hl hP hr
      obtain ⟨ps, rfl, hl2, hps⟩ := dN_of hP
      rw [hl] at hl2
      walk_at "z"
      · refine r_sorted (ns := ps.map (fun p : Nat => (p : Int))) (by walk_at "hf") (by rw [← dN_dI]; walk_at "rp") fun ns' p2 F2 H2 pm _ x2 r2 => ?_
        have nn : ∀ z ∈ ns', 0 ≤ z ∧ z ≤ 400 := by
          intro z hz
          obtain ⟨y, hy, rfl⟩ := List.mem_map.mp (pm.mem_iff.mp hz)
          have := hps y hy
          omega
        rw [dI_dN fun z hz => (nn z hz).1] at r2
        refine q _ _ F2 H2 ?_ ?_ (by walk_at "zx") (Bx.le (by walk_at "bx") (by omega)) r2
        · rw [List.length_map, pm.length_eq, List.length_map, hl2]; omega
        · intro z hz
          obtain ⟨y, hy, rfl⟩ := List.mem_map.mp hz
          have := nn y hy
          omega
      · rename_i hw1
        walk_at "zl"
        walk_at "z"
        · rename_i hw2
          refine r_mulLB (by walk_at "hf") (by walk_at "rp") (by simp) fun p2 F2 H2 x2 r2 => ?_
          refine r_addL (by walk_at "hf") (by walk_at "rp") (by walk_at "rp") (small_le (by rw [hl]; split <;> simp <;> omega)) fun p3 F3 H3 x3 r3 => ?_
          by_cases c : many < m
          · rw [if_pos (decide_eq_true (by omega))] at r3
            refine q (ps ++ [400]) _ F3 H3 ?_ ?_ (by walk_at "zx") (Bx.le (by walk_at "bx") (by omega)) (by simpa [dN] using r3)
            · rw [List.length_append, List.length_singleton]; omega
            · intro z hz
              rcases List.mem_append.mp hz with m1 | m1
              · have := hps z m1; omega
              · simp at m1; omega
          · rw [if_neg (by simpa using c), List.append_nil] at r3
            refine q ps _ F3 H3 (by omega) ?_ (by walk_at "zx") (Bx.le (by walk_at "bx") (by omega)) r3
            intro z hz
            have := hps z hz
            omega
        · refine r_mulLB (by walk_at "hf") (by walk_at "rp") (by simp) fun p2 F2 H2 x2 r2 => ?_
          refine r_addL (by walk_at "hf") (by walk_at "rp") (by walk_at "rp") (small_le (by rw [hl]; split <;> simp <;> omega)) fun p3 F3 H3 x3 r3 => ?_
          rw [if_neg (by simp), List.append_nil] at r3
          refine q ps _ F3 H3 (by omega) ?_ (by walk_at "zx") (Bx.le (by walk_at "bx") (by omega)) r3
          intro z hz
          have := hps z hz
          omega

/-! ### _law_right -/
def sp_law_right : Sp := fun vs H Q _ => ∃ F ps d v, vs = [v] ∧ Same F H ∧ Rep F d v ∧ RowD ps d ∧ ∀ F' H', Ext [] F H F' H' → Q (.bl true) H'
theorem use_law_right {F H : Hp} {ps : List Nat} {d : D} {v : V} {Q : VK} {E : XK} (hF : Same F H) (hd : Rep F d v) (h : RowD ps d) (q : ∀ F' H', Ext [] F H F' H' → Q (.bl true) H') : sp_law_right [v] H Q E := ⟨F, ps, d, v, rfl, hF, hd, h, q⟩
local macro_rules | `(tactic| walk_at "z1") => `(tactic| first | (with_reducible refine use_law_right (by walk_at "hf") (by walk_at "rp") (by with_reducible assumption) ?_; intro _ _ _) | fail)
theorem fit_nats {ps : List Nat} (h : ∀ p ∈ ps, p < 10 ^ 9) (l : ps.length ≤ 20000) : Fit (.lst (dN ps)) := by
  rw [dN_dI]
  refine fit_ints (fun n hn => ?_) (by rw [List.length_map]; exact l)
  obtain ⟨p, hp, rfl⟩ := List.mem_map.mp hn
  have a := h p hp
  have b : (10 : Nat) ^ 9 ≤ 10 ^ 570 := Nat.pow_le_pow_right (by decide) (by decide)
  exact Nat.lt_of_lt_of_le (by simpa using a) b
theorem fit_natsT {ps : List Nat} (h : ∀ p ∈ ps, p < 10 ^ 9) (l : ps.length ≤ 20000) : Fit (.tup (dN ps)) := by
  rw [dN_dI]
  refine fit_intsT (fun n hn => ?_) (by rw [List.length_map]; exact l)
  obtain ⟨p, hp, rfl⟩ := List.mem_map.mp hn
  have a := h p hp
  have b : (10 : Nat) ^ 9 ≤ 10 ^ 570 := Nat.pow_le_pow_right (by decide) (by decide)
  exact Nat.lt_of_lt_of_le (by simpa using a) b
theorem RowD.fit {ps : List Nat} {d : D} (h : RowD ps d) : Fit d := by
  have a : ∀ p ∈ ps, p < 10 ^ 9 := fun p hp => Nat.lt_of_le_of_lt (h.2.2 p hp) (by decide)
  have b : ps.length ≤ 20000 := Nat.le_trans h.2.1 (by decide)
  rcases h.1 with e | e <;> subst e
  · exact fit_nats a b
  · exact fit_natsT a b
theorem p410 : (2 : Nat) ^ 410 < 10 ^ 570 := by decide +kernel
theorem worth_big {ps : List Nat} (h : ps.length ≤ 400) (k : ∀ p ∈ ps, p ≤ 400) : worth ps < 10 ^ 570 := Nat.lt_trans (worth_lt h k) p410
/-- what is told of a row -/
abbrev toldD (ps : List Nat) : D := .lst [.int (worth ps : Nat), .lst (dN (onesN (worth ps))), .int ((ps.length : Int) - ((onesN (worth ps)).length : Int))]
theorem ok_nats {ps : List Nat} (h : ∀ p ∈ ps, p < 10 ^ 9) : okDs (dN ps) = true := by
  rw [dN_dI]
  refine okDs_ints fun n hn => ?_
  obtain ⟨p, hp, rfl⟩ := List.mem_map.mp hn
  have a := h p hp
  have b : (10 : Nat) ^ 9 ≤ 10 ^ 570 := Nat.pow_le_pow_right (by decide) (by decide)
  exact Nat.lt_of_lt_of_le (by simpa using a) b
theorem small_570 {n : Nat} (h : n < 10 ^ 9) : n < 10 ^ 570 := Nat.lt_of_lt_of_le h (Nat.pow_le_pow_right (by decide) (by decide))
theorem fit_told {ps : List Nat} (h : ps.length ≤ 400) (k : ∀ p ∈ ps, p ≤ 400) : Fit (toldD ps) := by
  have w := worth_lt h k
  have o1 : ∀ p ∈ onesN (worth ps), p < 10 ^ 9 := fun p hp => Nat.lt_trans (ones_lt hp w) (by decide)
  have o2 : (onesN (worth ps)).length ≤ 410 := onesN_len w
  have i1 : decide (((worth ps : Nat) : Int).natAbs < 10 ^ 570) = true := decide_eq_true (by rw [Int.natAbs_natCast]; exact worth_big h k)
  have i2 : decide (((ps.length : Int) - ((onesN (worth ps)).length : Int)).natAbs < 10 ^ 570) = true := decide_eq_true (small_570 (by omega))
  refine fit_of ?_ ?_ ?_
  · unfold okD okDs okDs okDs okDs okD
    rw [ok_nats o1, i1, i2]; rfl
  · unfold dep deps deps deps deps dep
    rw [dN_dI, deps_ints]; decide
  · unfold wt wts wts wts wts wt
    rw [dN_dI, wts_ints, List.length_map]; omega
/-- the places below 401 -/
theorem some_map (qs : List Nat) : (dN qs).filterMap (fun e => match e with | .int p => if p < 401 then some (.int p) else none | _ => none) = dN (qs.filter (fun p => decide (p < 401))) := by
  induction qs with
  | nil => rfl
  | cons p ps ih =>
    show (D.int (p : Nat) :: dN ps).filterMap _ = _
    rw [List.filterMap_cons, ih, List.filter_cons]
    by_cases c : p < 401
    · have c' : ((p : Nat) : Int) < 401 := by omega
      simp [c, c']
    · have c' : ¬ ((p : Nat) : Int) < 401 := by omega
      simp [c, c']
abbrev s_law_right : Stmt := topS 25
theorem sc_law_right : FnScope ["handed", "kept", "due", "turn", "found", "told", "some", "place"] ["handed"] (defScope s_law_right) := ⟨rfl, rfl, rfl, by decide +kernel, rfl, by decide +kernel, by decide +kernel⟩
theorem ok_law_right {W : Wd} {f : Addr} {fd : FuncData} (T : Txt W) (dF : Df W "_law_right" "_law_right" s_law_right f fd) (c_law_ones_1 : Cal W 2 "_law_ones" 1 [] (fun vs _ => vs) sp_law_ones) (c_law_sum_1 : Cal W 2 "_law_sum" 1 [] (fun vs _ => vs) sp_law_sum)
    (c_shortest_1 : Cal W 5 "shortest" 1 [] (fun vs _ => vs) sp_shortest) (c_fewer_by_1 : Cal W 6 "fewer_by" 1 [] (fun vs _ => vs) sp_fewer_by) (c_worth_of_1 : Cal W 4 "worth_of" 1 [] (fun vs _ => vs) sp_worth_of) (c_law_just_2 : Cal W 2 "_law_just" 2 [] (fun vs _ => vs) sp_law_just) :
    Fn W 7 f fd ["handed"] sp_law_right := by
  refine fn_by dF sc_law_right (fun vs H Q E h => ?_) (fun cd A out s H vs Q E hr h => ?_)
  · obtain ⟨F, ps, d, v, rfl, _⟩ := h; rfl
  obtain ⟨F, ps, d, v, rfl, hF, hd, hp, q⟩ := h
  refine ⟨_, (pss_cons (ps_set (i := 1) sc_law_right.nd rfl (Or.inl rfl) (pe_callB (u_repr (hr.less (by decide))) (by rfl) T.n_repr (by decide +kernel) (pa_cons (pv 0) pa_nil)))
    (pss_cons (ps_set (i := 2) sc_law_right.nd rfl (Or.inl rfl) (c_fn c_law_ones_1 hr (by decide) (by rfl) pass (pa_cons (c_fn c_law_sum_1 hr (by decide) (by rfl) pass (pa_cons (pv 0) pa_nil) pk_nil) pa_nil) pk_nil))
    (pss_cons (ps_for passOwn rfl (pi_range1 (by rfl) T.n_range (pa_cons pe_int pa_nil)) (pg_name (i := 3) sc_law_right.nd rfl (Or.inl rfl)) (pss_cons (ps_set (i := 4) sc_law_right.nd rfl (Or.inl rfl) (c_fn c_shortest_1 hr (by decide) (by rfl) pass (pa_cons (pv 0) pa_nil) pk_nil))
    (pss_cons (ps_set (i := 5) sc_law_right.nd rfl (Or.inl rfl) (pe_lst (pa_cons (c_fn c_worth_of_1 hr (by decide) (by rfl) pass (pa_cons (pv 0) pa_nil) pk_nil) (pa_cons (pe_callTy (u_list rfl) (by rfl) T.n_list (by decide +kernel) (pa_cons (pv 4) pa_nil)) (pa_cons (c_fn c_fewer_by_1 hr (by decide) (by rfl) pass (pa_cons (pv 0) pa_nil) pk_nil) pa_nil)))))
    (pss_cons (ps_if (PW.pt (pw_or (pt_not (pt_val (c_fn c_law_just_2 hr (by decide) (by rfl) pass (pa_cons (pv 5) (pa_cons (pe_lst (pa_cons (c_fn c_law_sum_1 hr (by decide) (by rfl) pass (pa_cons (pv 0) pa_nil) pk_nil) (pa_cons (pv 2) (pa_cons (pe_op op_sub (pe_callB u_len (by rfl) T.n_len (by decide +kernel) (pa_cons (pv 0) pa_nil)) (pe_callB u_len (by rfl) T.n_len (by decide +kernel) (pa_cons (pv 2) pa_nil))) pa_nil)))) pa_nil)) pk_nil))) (pw_or1 (pt_not (pt_val (pe_callB u_isi (by rfl) T.n_isinstance (by decide +kernel) (pa_cons (pv 4) (pa_cons (pe_bltn (v := .ty "list") (by rfl) T.n_list (by decide +kernel) rfl) pa_nil)))))))) (pss_one (ps_ret pe_bl)) pss_nil)
    (pss_cons (ps_expr (pe_bm PySem.F.plainAttrs_list PySem.F.slot_list_append PySem.F.type_list_append mt_append (pv 4) (pa_cons pe_int pa_nil)))
    (pss_one (ps_expr (pe_bm0 PySem.F.plainAttrs_list PySem.F.slot_list_reverse PySem.F.type_list_reverse mt_reverse (pv 4)))))))))
    (pss_cons (ps_setLc (i := 6) rfl sc_law_right.nd rfl rfl (sw_true rfl rfl rfl (by decide +kernel)) (u_it (pv 2)) (blkOk_by (own := [("place", 7)]) (N := ["handed", "kept", "due", "turn", "found", "told", "some", "place"]) (sc := defScope s_law_right) (by decide +kernel)) (fun _ _ _ _ _ => (pg_name (i := 7) sc_law_right.nd rfl (Or.inl rfl))) (fun _ _ _ _ _ => (pts_one (pt_cmpR op_lt (pv 7) pe_int (nomark _)))) (fun _ _ _ _ _ => (pv 7)))
    (pss_one (ps_ret (pe_and (pe_cmpR (u_eq (hr.less (by decide))) (pe_callB (u_repr (hr.less (by decide))) (by rfl) T.n_repr (by decide +kernel) (pa_cons (pv 0) pa_nil)) (pv 1) (nomark _)) (pe_one (c_fn c_law_just_2 hr (by decide) (by rfl) pass (pa_cons (c_fn c_worth_of_1 hr (by decide) (by rfl) pass (pa_cons (pv 6) pa_nil) pk_nil) (pa_cons (c_fn c_law_sum_1 hr (by decide) (by rfl) pass (pa_cons (pv 6) pa_nil) pk_nil) pa_nil)) pk_nil))))))))), ?_⟩
  refine z_st (σ := [some v, none, none, none, none, none, none, none]) rfl ?_
  have w := worth_lt hp.2.1 hp.2.2
  walk_at "z"
  refine r_repr hF hd hp.fit ?_
  walk_at "z"
  rename_i F1 H1 x1
  refine use_law_ones x1.fh (Nat.lt_trans w (Nat.pow_lt_pow_right (by decide) (by decide))) fun pd H2 hn1 hn2 x2 h2 => ?_
  obtain ⟨x3, r3⟩ := x2.e.seal hn1 h2 hn2 (reps_nats _)
  generalize upd F1 pd _ = F2 at x3 r3
  clear x2 h2 hn2
  have ol : (onesN (worth ps)).length ≤ 410 := onesN_len w
  walk_at "z"
  refine d_forR (by walk_at "hf") [] (fun i σ' F' H' => ∃ a b c, σ' = [some v, some (.str (txt d)), some (.ref pd), a, b, c, none, none]) ⟨_, _, _, rfl⟩ ?_ ?_
  · rintro i σ' F' H' hi hx ⟨a, b, c, rfl⟩
    walk_at "z"
    rename_i p F3 H3 hp1 hp2 y3 hp3 F4 H4 y4
    refine r_listC (by walk_at "hf") (by walk_at "hp") (reps_nats _) fun p2 F5 H5 x5 r5 => ?_
    walk_at "z"
    walk_at "zl"
    walk_at "z"
    walk_at "zl"
    walk_at "z"
    refine use_law_justS (by walk_at "hf") (by walk_at "rp") (by walk_at "rp") (fit_told hp.2.1 hp.2.2) ?_
    walk_at "z"
    rename_i F9 _ _ _ _ _ _ H9 _ _
    have y : Ext [p] F' H' F9 H9 := by walk_at "zx"
    exact ⟨_, hx.trans (y.drop hp1), _, _, _, rfl⟩
  · rintro σ' F' H' hx ⟨a, b, c, rfl⟩
    walk_at "z"
    refine d_lcM (by walk_at "hf") (by walk_at "rp") rfl (by rw [List.length_map]; omega) (fun e => match e with | .int p => if p < 401 then some (.int p) else none | _ => none) ?_ ?_
    · intro e u F4 H4 Y N hm hv x4 hy hno
      obtain ⟨p, hp', rfl⟩ := List.mem_map.mp hm
      have e1 := hv.of_int
      subst e1
      walk_at "z"
      refine ⟨rfl, ?_⟩
      walk_at "z"
      · rename_i hlt
        exact hy (.int p) _ F4 _ (by simp [hlt]) (by walk_at "zx") rep_int
      · rename_i hlt
        exact hno F4 _ (by simp [hlt]) (by walk_at "zx")
    · intro p5 F5 H5 hp5 x5 r5
      rw [some_map] at r5
      have hs : RowD ((onesN (worth ps)).filter (fun p => decide (p < 401))) (.lst (dN ((onesN (worth ps)).filter (fun p => decide (p < 401))))) := by
        refine ⟨Or.inl rfl, ?_, fun p hp => ?_⟩
        · have a := List.length_filter_le (fun p => decide (p < 401)) (onesN (worth ps))
          have b := ones_len ps
          have c := hp.2.1
          omega
        · have := of_decide_eq_true (List.mem_filter.mp hp).2
          omega
      walk_at "z"
      refine r_repr (by walk_at "hf") (by walk_at "rp") hp.fit ?_
      walk_at "z"
      · refine use_law_justS (by walk_at "hf") rep_int rep_int (fit_int (by rw [Int.natAbs_natCast]; exact worth_big hs.2.1 hs.2.2)) ?_
        exact q _ _ (by walk_at "zx")
      · rename_i hne
        exact absurd rfl hne

/-! ### law -/
abbrev s_law : Stmt := topS 26
theorem sc_law : FnScope ["script", "row", "k", "box"] ["script"] (defScope s_law) := ⟨rfl, rfl, rfl, by decide +kernel, rfl, by decide +kernel, by decide +kernel⟩
theorem ok_law {W : Wd} {f : Addr} {fd : FuncData} (T : Txt W) (dF : Df W "law" "law" s_law f fd) (c_places_of_1 : Cal W 3 "places_of" 1 [] (fun vs _ => vs) sp_places_of) (c_law_sum_1 : Cal W 2 "_law_sum" 1 [] (fun vs _ => vs) sp_law_sum)
    (c_shortest_1 : Cal W 5 "shortest" 1 [] (fun vs _ => vs) sp_shortest) (c_law_right_1 : Cal W 7 "_law_right" 1 [] (fun vs _ => vs) sp_law_right) (c_law_box_1 : Cal W 1 "_law_box" 1 [] (fun vs _ => vs) sp_law_box)
    (c_law_cell_2 : Cal W 1 "_law_cell" 2 [] (fun vs _ => vs) (sp_law_cell W.K)) (c_law_row_2 : Cal W 2 "_law_row" 2 [] (fun vs _ => vs) sp_law_row) (c_law_take_2 : Cal W 1 "_law_take" 2 [] (fun vs _ => vs) sp_law_take) :
    Fn W 8 f fd ["script"] (spTrue W.K) := by
  refine fn_by dF sc_law (fun vs H Q E h => ?_) (fun cd A out s H vs Q E hr h => ?_)
  · obtain ⟨a, ns, rfl, _⟩ := h; rfl
  obtain ⟨a, ns, rfl, ⟨hs, h63⟩, _, q⟩ := h
  refine ⟨_, (pss_cons (ps_for passOwn rfl (u_it (pe_lst (pa_cons (pe_lst pa_nil) (pa_cons (pe_lst (pa_cons pe_int (pa_cons pe_int pa_nil))) (pa_cons (pe_lst (pa_cons pe_int (pa_cons pe_int (pa_cons pe_int (pa_cons pe_int pa_nil))))) pa_nil))))) (pg_name (i := 1) sc_law.nd rfl (Or.inl rfl)) (pss_one (ps_if (PW.pt (pw_or (pt_not (pt_val (c_fn c_law_right_1 hr (by decide) (by rfl) pass (pa_cons (pv 1) pa_nil) pk_nil))) (pw_or1 (pt_cmpR (u_ne (hr.less (by decide))) (c_fn c_places_of_1 hr (by decide) (by rfl) pass (pa_cons (c_fn c_law_sum_1 hr (by decide) (by rfl) pass (pa_cons (pv 1) pa_nil) pk_nil) pa_nil) pk_nil) (c_fn c_shortest_1 hr (by decide) (by rfl) pass (pa_cons (pv 1) pa_nil) pk_nil) (nomark _))))) (pss_one (ps_ret pe_bl)) pss_nil)))
    (pss_cons (ps_for passOwn rfl (pi_range1 (by rfl) T.n_range (pa_cons (pe_callB (u_max rfl) (by rfl) T.n_max (by decide +kernel) (pa_cons pe_int (pa_cons (pe_callB (u_min rfl) (by rfl) T.n_min (by decide +kernel) (pa_cons pe_int (pa_cons (pe_callB u_len (by rfl) T.n_len (by decide +kernel) (pa_cons (pv 0) pa_nil)) pa_nil))) pa_nil))) pa_nil)) (pg_name (i := 2) sc_law.nd rfl (Or.inl rfl)) (pss_cons (ps_set (i := 3) sc_law.nd rfl (Or.inl rfl) (c_fn c_law_box_1 hr (by decide) (by rfl) pass (pa_cons (c_fn c_law_cell_2 hr (by decide) (by rfl) pass (pa_cons (pv 0) (pa_cons (pv 2) pa_nil)) pk_nil) pa_nil) pk_nil))
    (pss_cons (ps_set (i := 1) sc_law.nd rfl (Or.inl rfl) (c_fn c_law_row_2 hr (by decide) (by rfl) pass (pa_cons (pv 3) (pa_cons pe_int pa_nil)) pk_nil))
    (pss_one (ps_if (pt_not (pt_val (c_fn c_law_right_1 hr (by decide) (by rfl) pass (pa_cons (pe_ix ix_seq (pe_lst (pa_cons (pv 1) (pa_cons (pe_callTy u_tuple (by rfl) T.n_tuple (by decide +kernel) (pa_cons (pv 1) pa_nil)) pa_nil))) (c_fn c_law_take_2 hr (by decide) (by rfl) pass (pa_cons (pv 3) (pa_cons pe_int pa_nil)) pk_nil) (fun _ _ => rfl)) pa_nil) pk_nil))) (pss_one (ps_ret pe_bl)) pss_nil)))))
    (pss_one (ps_ret pe_bl)))), ?_⟩
  refine z_st (σ := [some (.ref a), none, none, none]) rfl ?_
  have hH : Same H H := same_refl H
  walk_at "z"
  walk_at "zl"
  walk_at "z"
  walk_at "zl"
  walk_at "z"
  walk_at "zl"
  walk_at "z"
  walk_at "zl"
  walk_at "z"
  refine d_for (by walk_at "hf") (by walk_at "rp") rfl [] (fun i σ' F' H' => ∃ b c d, σ' = [some (.ref a), b, c, d]) ⟨_, _, _, rfl⟩ ?_ ?_
  · rintro i e v σ' F' H' hi hv hx ⟨b, c, d, rfl⟩
    have hm := List.mem_of_getElem? hi
    have he : ∃ ps : List Nat, RowD ps e ∧ worth ps ≤ 10 ^ 60 := by
      simp only [List.mem_cons, List.not_mem_nil, or_false] at hm
      rcases hm with h | h | h
      · exact ⟨[], ⟨Or.inl h, by decide, by decide⟩, by decide⟩
      · exact ⟨[3, 3], ⟨Or.inl h, by decide, by decide⟩, by decide⟩
      · exact ⟨[0, 0, 1, 5], ⟨Or.inl h, by decide, by decide⟩, by decide⟩
    obtain ⟨ps, hp, hw⟩ := he
    walk_at "z"
    refine use_places_of (by walk_at "hf") hw fun p1 H1 h1 h2 x1 h3 => ?_
    obtain ⟨x2, r2⟩ := x1.e.seal h1 h3 h2 (reps_nats _)
    generalize upd _ p1 _ = F2 at x2 r2
    clear x1 h3 h2
    walk_at "z"
    rename_i p5 F5 H5 g1 g2 x5 g3
    obtain ⟨x6, r6⟩ := x5.seal g1 g3 g2 (reps_nats _)
    generalize upd _ p5 _ = F6 at x6 r6
    clear x5 g3 g2
    have w := worth_lt hp.2.1 hp.2.2
    have fit : Fit (.lst (dN (onesN (worth ps)))) := fit_nats (fun p hp => Nat.lt_trans (ones_lt hp w) (by decide)) (Nat.le_trans (onesN_len w) (by decide))
    refine r_neD (by walk_at "hf") (by walk_at "rp") (by walk_at "rp") fit.sm fit.sm fit.dep fit.dep ?_
    rw [eqD_self]
    walk_at "z"
    exact ⟨_, by walk_at "zx", _, _, _, rfl⟩
  · rintro σ' F' H' hx ⟨b, c, d, rfl⟩
    have hs' : SqL W.K F' a (ns.map V.int) := by
      have e : Ext [] H H F' H' := by walk_at "zx"
      exact e.sql hs
    walk_at "z"
    refine r_lenQ (hx.fh.seq hs') ?_
    walk_at "z"
    refine d_forR (by walk_at "hf") [] (fun i σ' F' H' => ∃ b c d, σ' = [some (.ref a), b, c, d]) ⟨_, _, _, rfl⟩ ?_ ?_
    · rintro i σ' F2 H2 hi hx2 ⟨b, c, d, rfl⟩
      rw [Int.zero_add]
      have hi' : i < 100 := by
        rw [List.length_map] at hi
        revert hi
        (repeat' split) <;> omega
      have hs2 : SqL W.K F2 a (ns.map V.int) := hx2.sql hs'
      walk_at "z"
      refine use_law_cell hs2 (by walk_at "hf") (by omega) fun z => ?_
      walk_at "z"
      rename_i b0 H3 hb0 y3 bx3
      refine use_law_row (m := 60) (by walk_at "hf") (by walk_at "bx") (by omega) (by omega) fun ps v4 F4 H4 hps1 hps2 y4 bx4 r4 => ?_
      walk_at "z"
      walk_at "zl"
      walk_at "z"
      rename_i dg H7 hdg y7 bx7
      refine r_ixL (by walk_at "hf") (by walk_at "rp") (by omega) (by simp; omega) fun u e e1 e2 e3 => ?_
      have hp : RowD ps e := by
        simp only [List.mem_cons, List.not_mem_nil, or_false] at e2
        rcases e2 with h | h
        · exact ⟨Or.inl h, by omega, hps2⟩
        · exact ⟨Or.inr h, by omega, hps2⟩
      walk_at "z"
      rename_i F9 H9 y9
      have y : Ext [b0] F2 H2 F9 H9 := by walk_at "zx"
      exact ⟨_, hx2.trans (y.drop hb0), _, _, _, rfl⟩
    · rintro σ' F2 H2 hx2 ⟨b, c, d, rfl⟩
      walk_at "z"
      exact q _

/-! ### what the top has written -/
theorem all_mk {P : Program} {w : World} {K : PySem.W.Frag} {h : Heap} {mg : Str → Option Value} {fa : Addr} (X : K.In h) (G : h.Ns mainGlobals mg) (hfa : mg "law" = some (.ref fa)) (y_MOST : ∃ u, mg "MOST" = some u ∧ RelV (V.int (10 ^ 60)) u)
    {od0 an0 : Option Addr} {sl0 : Array (Option Value)} {oc0 kV0 dc0 pm0 cd0 ct0 : Value} {f0 : Addr}
    {od1 an1 : Option Addr} {sl1 : Array (Option Value)} {oc1 kV1 dc1 pm1 cd1 ct1 : Value} {f1 : Addr}
    {od2 an2 : Option Addr} {sl2 : Array (Option Value)} {oc2 kV2 dc2 pm2 cd2 ct2 : Value} {f2 : Addr}
    {od3 an3 : Option Addr} {sl3 : Array (Option Value)} {oc3 kV3 dc3 pm3 cd3 ct3 : Value} {f3 : Addr}
    {od4 an4 : Option Addr} {sl4 : Array (Option Value)} {oc4 kV4 dc4 pm4 cd4 ct4 : Value} {f4 : Addr}
    {od5 an5 : Option Addr} {sl5 : Array (Option Value)} {oc5 kV5 dc5 pm5 cd5 ct5 : Value} {f5 : Addr}
    {od6 an6 : Option Addr} {sl6 : Array (Option Value)} {oc6 kV6 dc6 pm6 cd6 ct6 : Value} {f6 : Addr}
    {od7 an7 : Option Addr} {sl7 : Array (Option Value)} {oc7 kV7 dc7 pm7 cd7 ct7 : Value} {f7 : Addr}
    {od8 an8 : Option Addr} {sl8 : Array (Option Value)} {oc8 kV8 dc8 pm8 cd8 ct8 : Value} {f8 : Addr}
    {od9 an9 : Option Addr} {sl9 : Array (Option Value)} {oc9 kV9 dc9 pm9 cd9 ct9 : Value} {f9 : Addr}
    {od10 an10 : Option Addr} {sl10 : Array (Option Value)} {oc10 kV10 dc10 pm10 cd10 ct10 : Value} {f10 : Addr}
    {od11 an11 : Option Addr} {sl11 : Array (Option Value)} {oc11 kV11 dc11 pm11 cd11 ct11 : Value} {f11 : Addr}
    {od12 an12 : Option Addr} {sl12 : Array (Option Value)} {oc12 kV12 dc12 pm12 cd12 ct12 : Value} {f12 : Addr}
    {od13 an13 : Option Addr} {sl13 : Array (Option Value)} {oc13 kV13 dc13 pm13 cd13 ct13 : Value} {f13 : Addr}
    {od14 an14 : Option Addr} {sl14 : Array (Option Value)} {oc14 kV14 dc14 pm14 cd14 ct14 : Value} {f14 : Addr}
    {od15 an15 : Option Addr} {sl15 : Array (Option Value)} {oc15 kV15 dc15 pm15 cd15 ct15 : Value} {f15 : Addr}
    {od16 an16 : Option Addr} {sl16 : Array (Option Value)} {oc16 kV16 dc16 pm16 cd16 ct16 : Value} {f16 : Addr}
    {t_MOST_MANY : Tok}
    {t_MOST_PLACE : Tok}
    (a0 : PySem.W.nsIn K mainGlobals "is_whole" = some (some (.ref f0)))
    (l0 : K.lookup f0 = some ⟨oc0, od0, .func (PySem.W.fnOf "is_whole" "is_whole" (defArgs s_is_whole) (defBody s_is_whole) (defScope s_is_whole) .none kV0 dc0 pm0 an0 cd0 ct0), sl0⟩)
    (c0 : PySem.W.codeIn K cd0 "is_whole" = true)
    (k0 : PySem.W.keepIn K (.ref f0) = true)
    (a1 : PySem.W.nsIn K mainGlobals "is_row" = some (some (.ref f1)))
    (l1 : K.lookup f1 = some ⟨oc1, od1, .func (PySem.W.fnOf "is_row" "is_row" (defArgs s_is_row) (defBody s_is_row) (defScope s_is_row) .none kV1 dc1 pm1 an1 cd1 ct1), sl1⟩)
    (c1 : PySem.W.codeIn K cd1 "is_row" = true)
    (k1 : PySem.W.keepIn K (.ref f1) = true)
    (a2 : PySem.W.nsIn K mainGlobals "_law_cell" = some (some (.ref f2)))
    (l2 : K.lookup f2 = some ⟨oc2, od2, .func (PySem.W.fnOf "_law_cell" "_law_cell" (defArgs s_law_cell) (defBody s_law_cell) (defScope s_law_cell) .none kV2 dc2 pm2 an2 cd2 ct2), sl2⟩)
    (c2 : PySem.W.codeIn K cd2 "_law_cell" = true)
    (k2 : PySem.W.keepIn K (.ref f2) = true)
    (a3 : PySem.W.nsIn K mainGlobals "_law_box" = some (some (.ref f3)))
    (l3 : K.lookup f3 = some ⟨oc3, od3, .func (PySem.W.fnOf "_law_box" "_law_box" (defArgs s_law_box) (defBody s_law_box) (defScope s_law_box) .none kV3 dc3 pm3 an3 cd3 ct3), sl3⟩)
    (c3 : PySem.W.codeIn K cd3 "_law_box" = true)
    (k3 : PySem.W.keepIn K (.ref f3) = true)
    (a4 : PySem.W.nsIn K mainGlobals "_law_take" = some (some (.ref f4)))
    (l4 : K.lookup f4 = some ⟨oc4, od4, .func (PySem.W.fnOf "_law_take" "_law_take" (defArgs s_law_take) (defBody s_law_take) (defScope s_law_take) .none kV4 dc4 pm4 an4 cd4 ct4), sl4⟩)
    (c4 : PySem.W.codeIn K cd4 "_law_take" = true)
    (k4 : PySem.W.keepIn K (.ref f4) = true)
    (a5 : PySem.W.nsIn K mainGlobals "need_row" = some (some (.ref f5)))
    (l5 : K.lookup f5 = some ⟨oc5, od5, .func (PySem.W.fnOf "need_row" "need_row" (defArgs s_need_row) (defBody s_need_row) (defScope s_need_row) .none kV5 dc5 pm5 an5 cd5 ct5), sl5⟩)
    (c5 : PySem.W.codeIn K cd5 "need_row" = true)
    (k5 : PySem.W.keepIn K (.ref f5) = true)
    (a6 : PySem.W.nsIn K mainGlobals "ones_of" = some (some (.ref f6)))
    (l6 : K.lookup f6 = some ⟨oc6, od6, .func (PySem.W.fnOf "ones_of" "ones_of" (defArgs s_ones_of) (defBody s_ones_of) (defScope s_ones_of) .none kV6 dc6 pm6 an6 cd6 ct6), sl6⟩)
    (c6 : PySem.W.codeIn K cd6 "ones_of" = true)
    (k6 : PySem.W.keepIn K (.ref f6) = true)
    (a7 : PySem.W.nsIn K mainGlobals "worth_of" = some (some (.ref f7)))
    (l7 : K.lookup f7 = some ⟨oc7, od7, .func (PySem.W.fnOf "worth_of" "worth_of" (defArgs s_worth_of) (defBody s_worth_of) (defScope s_worth_of) .none kV7 dc7 pm7 an7 cd7 ct7), sl7⟩)
    (c7 : PySem.W.codeIn K cd7 "worth_of" = true)
    (k7 : PySem.W.keepIn K (.ref f7) = true)
    (a8 : PySem.W.nsIn K mainGlobals "shortest" = some (some (.ref f8)))
    (l8 : K.lookup f8 = some ⟨oc8, od8, .func (PySem.W.fnOf "shortest" "shortest" (defArgs s_shortest) (defBody s_shortest) (defScope s_shortest) .none kV8 dc8 pm8 an8 cd8 ct8), sl8⟩)
    (c8 : PySem.W.codeIn K cd8 "shortest" = true)
    (k8 : PySem.W.keepIn K (.ref f8) = true)
    (a9 : PySem.W.nsIn K mainGlobals "fewer_by" = some (some (.ref f9)))
    (l9 : K.lookup f9 = some ⟨oc9, od9, .func (PySem.W.fnOf "fewer_by" "fewer_by" (defArgs s_fewer_by) (defBody s_fewer_by) (defScope s_fewer_by) .none kV9 dc9 pm9 an9 cd9 ct9), sl9⟩)
    (c9 : PySem.W.codeIn K cd9 "fewer_by" = true)
    (k9 : PySem.W.keepIn K (.ref f9) = true)
    (a10 : PySem.W.nsIn K mainGlobals "_law_ones" = some (some (.ref f10)))
    (l10 : K.lookup f10 = some ⟨oc10, od10, .func (PySem.W.fnOf "_law_ones" "_law_ones" (defArgs s_law_ones) (defBody s_law_ones) (defScope s_law_ones) .none kV10 dc10 pm10 an10 cd10 ct10), sl10⟩)
    (c10 : PySem.W.codeIn K cd10 "_law_ones" = true)
    (k10 : PySem.W.keepIn K (.ref f10) = true)
    (a11 : PySem.W.nsIn K mainGlobals "_law_sum" = some (some (.ref f11)))
    (l11 : K.lookup f11 = some ⟨oc11, od11, .func (PySem.W.fnOf "_law_sum" "_law_sum" (defArgs s_law_sum) (defBody s_law_sum) (defScope s_law_sum) .none kV11 dc11 pm11 an11 cd11 ct11), sl11⟩)
    (c11 : PySem.W.codeIn K cd11 "_law_sum" = true)
    (k11 : PySem.W.keepIn K (.ref f11) = true)
    (a12 : PySem.W.nsIn K mainGlobals "_law_just" = some (some (.ref f12)))
    (l12 : K.lookup f12 = some ⟨oc12, od12, .func (PySem.W.fnOf "_law_just" "_law_just" (defArgs s_law_just) (defBody s_law_just) (defScope s_law_just) .none kV12 dc12 pm12 an12 cd12 ct12), sl12⟩)
    (c12 : PySem.W.codeIn K cd12 "_law_just" = true)
    (k12 : PySem.W.keepIn K (.ref f12) = true)
    (a13 : PySem.W.nsIn K mainGlobals "places_of" = some (some (.ref f13)))
    (l13 : K.lookup f13 = some ⟨oc13, od13, .func (PySem.W.fnOf "places_of" "places_of" (defArgs s_places_of) (defBody s_places_of) (defScope s_places_of) .none kV13 dc13 pm13 an13 cd13 ct13), sl13⟩)
    (c13 : PySem.W.codeIn K cd13 "places_of" = true)
    (k13 : PySem.W.keepIn K (.ref f13) = true)
    (a14 : PySem.W.nsIn K mainGlobals "_law_row" = some (some (.ref f14)))
    (l14 : K.lookup f14 = some ⟨oc14, od14, .func (PySem.W.fnOf "_law_row" "_law_row" (defArgs s_law_row) (defBody s_law_row) (defScope s_law_row) .none kV14 dc14 pm14 an14 cd14 ct14), sl14⟩)
    (c14 : PySem.W.codeIn K cd14 "_law_row" = true)
    (k14 : PySem.W.keepIn K (.ref f14) = true)
    (a15 : PySem.W.nsIn K mainGlobals "_law_right" = some (some (.ref f15)))
    (l15 : K.lookup f15 = some ⟨oc15, od15, .func (PySem.W.fnOf "_law_right" "_law_right" (defArgs s_law_right) (defBody s_law_right) (defScope s_law_right) .none kV15 dc15 pm15 an15 cd15 ct15), sl15⟩)
    (c15 : PySem.W.codeIn K cd15 "_law_right" = true)
    (k15 : PySem.W.keepIn K (.ref f15) = true)
    (a16 : PySem.W.nsIn K mainGlobals "law" = some (some (.ref f16)))
    (l16 : K.lookup f16 = some ⟨oc16, od16, .func (PySem.W.fnOf "law" "law" (defArgs s_law) (defBody s_law) (defScope s_law) .none kV16 dc16 pm16 an16 cd16 ct16), sl16⟩)
    (c16 : PySem.W.codeIn K cd16 "law" = true)
    (k16 : PySem.W.keepIn K (.ref f16) = true)
    (z_all : PySem.W.nsIn K mainGlobals "all" = some none)
    (z_bool : PySem.W.nsIn K mainGlobals "bool" = some none)
    (z_int : PySem.W.nsIn K mainGlobals "int" = some none)
    (z_isinstance : PySem.W.nsIn K mainGlobals "isinstance" = some none)
    (z_len : PySem.W.nsIn K mainGlobals "len" = some none)
    (z_list : PySem.W.nsIn K mainGlobals "list" = some none)
    (z_max : PySem.W.nsIn K mainGlobals "max" = some none)
    (z_min : PySem.W.nsIn K mainGlobals "min" = some none)
    (z_range : PySem.W.nsIn K mainGlobals "range" = some none)
    (z_repr : PySem.W.nsIn K mainGlobals "repr" = some none)
    (z_sorted : PySem.W.nsIn K mainGlobals "sorted" = some none)
    (z_sum : PySem.W.nsIn K mainGlobals "sum" = some none)
    (z_tuple : PySem.W.nsIn K mainGlobals "tuple" = some none)
    (v_MOST_MANY : PySem.W.nsIn K mainGlobals "MOST_MANY" = some (some (.int (400) t_MOST_MANY)))
    (v_MOST_PLACE : PySem.W.nsIn K mainGlobals "MOST_PLACE" = some (some (.int (400) t_MOST_PLACE))) :
    ∃ fd : FuncData, (∀ (s : Shared) (u : Value), BindsTo s fd ⟨[u], []⟩ [("script", u)]) ∧ ∀ base : Heap, K.In base → base.Ns mainGlobals mg → Fn ⟨P, w, K, mg, base⟩ 8 fa fd ["script"] (spTrue K) := by
  have e := hfa.symm.trans (PySem.W.mg_of X G a16)
  cases e
  refine ⟨PySem.W.fnOf "law" "law" (defArgs s_law) (defBody s_law) (defScope s_law) .none kV16 dc16 pm16 an16 cd16 ct16, fun s v => .of_eq rfl, fun base hb gb => ?_⟩
  have T : Txt ⟨P, w, K, mg, base⟩ := { n_all := PySem.W.mg_none_of X G z_all, n_bool := PySem.W.mg_none_of X G z_bool, n_int := PySem.W.mg_none_of X G z_int, n_isinstance := PySem.W.mg_none_of X G z_isinstance, n_len := PySem.W.mg_none_of X G z_len, n_list := PySem.W.mg_none_of X G z_list, n_max := PySem.W.mg_none_of X G z_max, n_min := PySem.W.mg_none_of X G z_min, n_range := PySem.W.mg_none_of X G z_range, n_repr := PySem.W.mg_none_of X G z_repr, n_sorted := PySem.W.mg_none_of X G z_sorted, n_sum := PySem.W.mg_none_of X G z_sum, n_tuple := PySem.W.mg_none_of X G z_tuple, k_MOST_MANY := ⟨_, PySem.W.mg_of X G v_MOST_MANY, ⟨_, rfl⟩⟩, k_MOST_PLACE := ⟨_, PySem.W.mg_of X G v_MOST_PLACE, ⟨_, rfl⟩⟩, k_MOST := y_MOST }
  have D0 : Df ⟨P, w, K, mg, base⟩ "is_whole" "is_whole" s_is_whole f0 _ := ⟨⟨_, _, _, _, _, _, _, _, _, _, rfl, l0, c0⟩, k0⟩
  have F0 := ok_is_whole T D0 
  have c_is_whole_3 : Cal ⟨P, w, K, mg, base⟩ 1 "is_whole" 3 [] (fun vs _ => vs) sp_is_whole := ⟨⟨f0, _, _, fun us _ => us, F0, PySem.W.mg_of X G a0, k0, ⟨fun s us ws _ h1 h2 => match us, ws, h1, h2 with | [_, _, _], [], _, _ => .of_eq rfl, fun r _ => r⟩⟩⟩
  have D1 : Df ⟨P, w, K, mg, base⟩ "is_row" "is_row" s_is_row f1 _ := ⟨⟨_, _, _, _, _, _, _, _, _, _, rfl, l1, c1⟩, k1⟩
  have F1 := ok_is_row T D1 (c_is_whole_3)
  have c_is_row_1 : Cal ⟨P, w, K, mg, base⟩ 2 "is_row" 1 [] (fun vs _ => vs) sp_is_row := ⟨⟨f1, _, _, fun us _ => us, F1, PySem.W.mg_of X G a1, k1, ⟨fun s us ws _ h1 h2 => match us, ws, h1, h2 with | [_], [], _, _ => .of_eq rfl, fun r _ => r⟩⟩⟩
  have D2 : Df ⟨P, w, K, mg, base⟩ "_law_cell" "_law_cell" s_law_cell f2 _ := ⟨⟨_, _, _, _, _, _, _, _, _, _, rfl, l2, c2⟩, k2⟩
  have F2 := ok_law_cell T D2 
  have c_law_cell_2 : Cal ⟨P, w, K, mg, base⟩ 1 "_law_cell" 2 [] (fun vs _ => vs) (sp_law_cell K) := ⟨⟨f2, _, _, fun us _ => us, F2, PySem.W.mg_of X G a2, k2, ⟨fun s us ws _ h1 h2 => match us, ws, h1, h2 with | [_, _], [], _, _ => .of_eq rfl, fun r _ => r⟩⟩⟩
  have D3 : Df ⟨P, w, K, mg, base⟩ "_law_box" "_law_box" s_law_box f3 _ := ⟨⟨_, _, _, _, _, _, _, _, _, _, rfl, l3, c3⟩, k3⟩
  have F3 := ok_law_box T D3 
  have c_law_box_1 : Cal ⟨P, w, K, mg, base⟩ 1 "_law_box" 1 [] (fun vs _ => vs) sp_law_box := ⟨⟨f3, _, _, fun us _ => us, F3, PySem.W.mg_of X G a3, k3, ⟨fun s us ws _ h1 h2 => match us, ws, h1, h2 with | [_], [], _, _ => .of_eq rfl, fun r _ => r⟩⟩⟩
  have D4 : Df ⟨P, w, K, mg, base⟩ "_law_take" "_law_take" s_law_take f4 _ := ⟨⟨_, _, _, _, _, _, _, _, _, _, rfl, l4, c4⟩, k4⟩
  have F4 := ok_law_take T D4 
  have c_law_take_2 : Cal ⟨P, w, K, mg, base⟩ 1 "_law_take" 2 [] (fun vs _ => vs) sp_law_take := ⟨⟨f4, _, _, fun us _ => us, F4, PySem.W.mg_of X G a4, k4, ⟨fun s us ws _ h1 h2 => match us, ws, h1, h2 with | [_, _], [], _, _ => .of_eq rfl, fun r _ => r⟩⟩⟩
  have D5 : Df ⟨P, w, K, mg, base⟩ "need_row" "need_row" s_need_row f5 _ := ⟨⟨_, _, _, _, _, _, _, _, _, _, rfl, l5, c5⟩, k5⟩
  have F5 := ok_need_row T D5 (c_is_row_1)
  have c_need_row_1 : Cal ⟨P, w, K, mg, base⟩ 3 "need_row" 1 [] (fun vs _ => vs) sp_need_row := ⟨⟨f5, _, _, fun us _ => us, F5, PySem.W.mg_of X G a5, k5, ⟨fun s us ws _ h1 h2 => match us, ws, h1, h2 with | [_], [], _, _ => .of_eq rfl, fun r _ => r⟩⟩⟩
  have D6 : Df ⟨P, w, K, mg, base⟩ "ones_of" "ones_of" s_ones_of f6 _ := ⟨⟨_, _, _, _, _, _, _, _, _, _, rfl, l6, c6⟩, k6⟩
  have F6 := ok_ones_of T D6 
  have c_ones_of_1 : Cal ⟨P, w, K, mg, base⟩ 2 "ones_of" 1 [] (fun vs _ => vs) sp_ones_of := ⟨⟨f6, _, _, fun us _ => us, F6, PySem.W.mg_of X G a6, k6, ⟨fun s us ws _ h1 h2 => match us, ws, h1, h2 with | [_], [], _, _ => .of_eq rfl, fun r _ => r⟩⟩⟩
  have D7 : Df ⟨P, w, K, mg, base⟩ "worth_of" "worth_of" s_worth_of f7 _ := ⟨⟨_, _, _, _, _, _, _, _, _, _, rfl, l7, c7⟩, k7⟩
  have F7 := ok_worth_of T D7 (c_need_row_1)
  have c_worth_of_1 : Cal ⟨P, w, K, mg, base⟩ 4 "worth_of" 1 [] (fun vs _ => vs) sp_worth_of := ⟨⟨f7, _, _, fun us _ => us, F7, PySem.W.mg_of X G a7, k7, ⟨fun s us ws _ h1 h2 => match us, ws, h1, h2 with | [_], [], _, _ => .of_eq rfl, fun r _ => r⟩⟩⟩
  have D8 : Df ⟨P, w, K, mg, base⟩ "shortest" "shortest" s_shortest f8 _ := ⟨⟨_, _, _, _, _, _, _, _, _, _, rfl, l8, c8⟩, k8⟩
  have F8 := ok_shortest T D8 (c_ones_of_1) (c_worth_of_1)
  have c_shortest_1 : Cal ⟨P, w, K, mg, base⟩ 5 "shortest" 1 [] (fun vs _ => vs) sp_shortest := ⟨⟨f8, _, _, fun us _ => us, F8, PySem.W.mg_of X G a8, k8, ⟨fun s us ws _ h1 h2 => match us, ws, h1, h2 with | [_], [], _, _ => .of_eq rfl, fun r _ => r⟩⟩⟩
  have D9 : Df ⟨P, w, K, mg, base⟩ "fewer_by" "fewer_by" s_fewer_by f9 _ := ⟨⟨_, _, _, _, _, _, _, _, _, _, rfl, l9, c9⟩, k9⟩
  have F9 := ok_fewer_by T D9 (c_need_row_1) (c_shortest_1)
  have c_fewer_by_1 : Cal ⟨P, w, K, mg, base⟩ 6 "fewer_by" 1 [] (fun vs _ => vs) sp_fewer_by := ⟨⟨f9, _, _, fun us _ => us, F9, PySem.W.mg_of X G a9, k9, ⟨fun s us ws _ h1 h2 => match us, ws, h1, h2 with | [_], [], _, _ => .of_eq rfl, fun r _ => r⟩⟩⟩
  have D10 : Df ⟨P, w, K, mg, base⟩ "_law_ones" "_law_ones" s_law_ones f10 _ := ⟨⟨_, _, _, _, _, _, _, _, _, _, rfl, l10, c10⟩, k10⟩
  have F10 := ok_law_ones T D10 
  have c_law_ones_1 : Cal ⟨P, w, K, mg, base⟩ 2 "_law_ones" 1 [] (fun vs _ => vs) sp_law_ones := ⟨⟨f10, _, _, fun us _ => us, F10, PySem.W.mg_of X G a10, k10, ⟨fun s us ws _ h1 h2 => match us, ws, h1, h2 with | [_], [], _, _ => .of_eq rfl, fun r _ => r⟩⟩⟩
  have D11 : Df ⟨P, w, K, mg, base⟩ "_law_sum" "_law_sum" s_law_sum f11 _ := ⟨⟨_, _, _, _, _, _, _, _, _, _, rfl, l11, c11⟩, k11⟩
  have F11 := ok_law_sum T D11 
  have c_law_sum_1 : Cal ⟨P, w, K, mg, base⟩ 2 "_law_sum" 1 [] (fun vs _ => vs) sp_law_sum := ⟨⟨f11, _, _, fun us _ => us, F11, PySem.W.mg_of X G a11, k11, ⟨fun s us ws _ h1 h2 => match us, ws, h1, h2 with | [_], [], _, _ => .of_eq rfl, fun r _ => r⟩⟩⟩
  have D12 : Df ⟨P, w, K, mg, base⟩ "_law_just" "_law_just" s_law_just f12 _ := ⟨⟨_, _, _, _, _, _, _, _, _, _, rfl, l12, c12⟩, k12⟩
  have F12 := ok_law_just T D12 
  have c_law_just_2 : Cal ⟨P, w, K, mg, base⟩ 2 "_law_just" 2 [] (fun vs _ => vs) sp_law_just := ⟨⟨f12, _, _, fun us _ => us, F12, PySem.W.mg_of X G a12, k12, ⟨fun s us ws _ h1 h2 => match us, ws, h1, h2 with | [_, _], [], _, _ => .of_eq rfl, fun r _ => r⟩⟩⟩
  have D13 : Df ⟨P, w, K, mg, base⟩ "places_of" "places_of" s_places_of f13 _ := ⟨⟨_, _, _, _, _, _, _, _, _, _, rfl, l13, c13⟩, k13⟩
  have F13 := ok_places_of T D13 (c_is_whole_3) (c_ones_of_1)
  have c_places_of_1 : Cal ⟨P, w, K, mg, base⟩ 3 "places_of" 1 [] (fun vs _ => vs) sp_places_of := ⟨⟨f13, _, _, fun us _ => us, F13, PySem.W.mg_of X G a13, k13, ⟨fun s us ws _ h1 h2 => match us, ws, h1, h2 with | [_], [], _, _ => .of_eq rfl, fun r _ => r⟩⟩⟩
  have D14 : Df ⟨P, w, K, mg, base⟩ "_law_row" "_law_row" s_law_row f14 _ := ⟨⟨_, _, _, _, _, _, _, _, _, _, rfl, l14, c14⟩, k14⟩
  have F14 := ok_law_row T D14 (c_law_take_2)
  have c_law_row_2 : Cal ⟨P, w, K, mg, base⟩ 2 "_law_row" 2 [] (fun vs _ => vs) sp_law_row := ⟨⟨f14, _, _, fun us _ => us, F14, PySem.W.mg_of X G a14, k14, ⟨fun s us ws _ h1 h2 => match us, ws, h1, h2 with | [_, _], [], _, _ => .of_eq rfl, fun r _ => r⟩⟩⟩
  have D15 : Df ⟨P, w, K, mg, base⟩ "_law_right" "_law_right" s_law_right f15 _ := ⟨⟨_, _, _, _, _, _, _, _, _, _, rfl, l15, c15⟩, k15⟩
  have F15 := ok_law_right T D15 (c_law_ones_1) (c_law_sum_1) (c_shortest_1) (c_fewer_by_1) (c_worth_of_1) (c_law_just_2)
  have c_law_right_1 : Cal ⟨P, w, K, mg, base⟩ 7 "_law_right" 1 [] (fun vs _ => vs) sp_law_right := ⟨⟨f15, _, _, fun us _ => us, F15, PySem.W.mg_of X G a15, k15, ⟨fun s us ws _ h1 h2 => match us, ws, h1, h2 with | [_], [], _, _ => .of_eq rfl, fun r _ => r⟩⟩⟩
  have D16 : Df ⟨P, w, K, mg, base⟩ "law" "law" s_law fa _ := ⟨⟨_, _, _, _, _, _, _, _, _, _, rfl, l16, c16⟩, k16⟩
  have F16 := ok_law T D16 (c_places_of_1) (c_law_sum_1) (c_shortest_1) (c_law_right_1) (c_law_box_1) (c_law_cell_2) (c_law_row_2) (c_law_take_2)
  exact F16
end Z
open PySem PySem.W PyProof.Rows
set_option maxHeartbeats 0 in
theorem PySem.Challenge.cw_slantworth_k06_rows_told_holds : PySem.Challenge.rw_slantworth_k06_rows_told.Holds := by
  w_on; o_law; k_head; (case hw => w_witness2)
  k_fill
  refine Z.z_walk (l := PySem.Challenge.rw_slantworth_k06_rows_told) (k := 8) (x := "script") rfl rfl ?R (fun w h Y => PySem.W.kIn_of Y) ?F
  case R => exact ⟨⟨by decide, by decide, by decide⟩, rfl⟩
  case F =>
    intro w mg fa h KX G XP hmg
    have y_MOST : ∃ u, mg "MOST" = some u ∧ L2.RelV (L2.V.int (10 ^ 60)) u := by
      obtain ⟨v, hv, rv⟩ := XP.2.val _ (List.Mem.head _)
      obtain ⟨t, e, _⟩ := readsW_int_inv rv
      subst e
      exact ⟨_, hv, t, congrArg (fun z => Value.int z t) (by decide)⟩
    refine' Z.all_mk KX G hmg y_MOST ?a0 ?l0 ?c0 ?k0 ?a1 ?l1 ?c1 ?k1 ?a2 ?l2 ?c2 ?k2 ?a3 ?l3 ?c3 ?k3 ?a4 ?l4 ?c4 ?k4 ?a5 ?l5 ?c5 ?k5 ?a6 ?l6 ?c6 ?k6 ?a7 ?l7 ?c7 ?k7 ?a8 ?l8 ?c8 ?k8 ?a9 ?l9 ?c9 ?k9 ?a10 ?l10 ?c10 ?k10 ?a11 ?l11 ?c11 ?k11 ?a12 ?l12 ?c12 ?k12 ?a13 ?l13 ?c13 ?k13 ?a14 ?l14 ?c14 ?k14 ?a15 ?l15 ?c15 ?k15 ?a16 ?l16 ?c16 ?k16 ?z_all ?z_bool ?z_int ?z_isinstance ?z_len ?z_list ?z_max ?z_min ?z_range ?z_repr ?z_sorted ?z_sum ?z_tuple ?v_MOST_MANY ?v_MOST_PLACE
    (case a0 => k_is); (case l0 => k_is); (case c0 => k_is); (case k0 => k_is); (case a1 => k_is); (case l1 => k_is); (case c1 => k_is); (case k1 => k_is)
    (case a2 => k_is); (case l2 => k_is); (case c2 => k_is); (case k2 => k_is); (case a3 => k_is); (case l3 => k_is); (case c3 => k_is); (case k3 => k_is)
    (case a4 => k_is); (case l4 => k_is); (case c4 => k_is); (case k4 => k_is); (case a5 => k_is); (case l5 => k_is); (case c5 => k_is); (case k5 => k_is)
    (case a6 => k_is); (case l6 => k_is); (case c6 => k_is); (case k6 => k_is); (case a7 => k_is); (case l7 => k_is); (case c7 => k_is); (case k7 => k_is)
    (case a8 => k_is); (case l8 => k_is); (case c8 => k_is); (case k8 => k_is); (case a9 => k_is); (case l9 => k_is); (case c9 => k_is); (case k9 => k_is)
    (case a10 => k_is); (case l10 => k_is); (case c10 => k_is); (case k10 => k_is); (case a11 => k_is); (case l11 => k_is); (case c11 => k_is); (case k11 => k_is)
    (case a12 => k_is); (case l12 => k_is); (case c12 => k_is); (case k12 => k_is); (case a13 => k_is); (case l13 => k_is); (case c13 => k_is); (case k13 => k_is)
    (case a14 => k_is); (case l14 => k_is); (case c14 => k_is); (case k14 => k_is); (case a15 => k_is); (case l15 => k_is); (case c15 => k_is); (case k15 => k_is)
    (case a16 => k_is); (case l16 => k_is); (case c16 => k_is); (case k16 => k_is); (case z_all => k_is); (case z_bool => k_is); (case z_int => k_is); (case z_isinstance => k_is)
    (case z_len => k_is); (case z_list => k_is); (case z_max => k_is); (case z_min => k_is); (case z_range => k_is); (case z_repr => k_is); (case z_sorted => k_is); (case z_sum => k_is)
    (case z_tuple => k_is); (case v_MOST_MANY => k_is); (case v_MOST_PLACE => k_is)

