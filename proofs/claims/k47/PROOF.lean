import PyProof.Rows.All
import Wide.All
import OpenK.AllK
import Wide.FinOn
import HandS.ForMost
import HandS.ForExc
import HandS.IsInst
import HandS.ExcIs
import HandS.Style
import HandS.Conv
import HandS.TryMany
import HandS.More
import HandS.Walk
import KE.LtSeq
import KE.KSuper
import HandS.Evl
import PySem.Challenge.RW_leasehall_k47_whole_boards
set_option Elab.async false
set_option maxRecDepth 100000
set_option maxHeartbeats 4000000
/-! Rules of our own over the hand layer: calls by name, by method and by class in one word each; the order of pairs; errors. -/
namespace LH
open PySem PySem.Spec PyProof.Rows L2

/-! ### what may be called -/
structure Cl (P : Program) (w : World) (K : PySem.W.Frag) (mg : Str → Option Value) (base : Heap) (k : Nat) (x : Str) (sp : Sp) : Prop where
  ex : ∃ (f : Addr) (fd : FuncData) (ps : List Str), FnOk P w K mg base CX0 k f fd ps sp ∧ mg x = some (.ref f) ∧ PySem.W.keepIn K (.ref f) = true ∧ Binds K fd ps []
structure Mt (P : Program) (w : World) (K : PySem.W.Frag) (mg : Str → Option Value) (base : Heap) (k : Nat) (C : Addr) (m : Str) (sp : Sp) : Prop where
  ex : ∃ (f : Addr) (fd : FuncData) (ps : List Str), Cls K C ∧ Meth K C m f ∧ FnOk P w K mg base CX0 k f fd ps sp ∧ Binds K fd ps []
/-- a method that may raise -/
structure MtX (P : Program) (w : World) (K : PySem.W.Frag) (mg : Str → Option Value) (base : Heap) (k : Nat) (C : Addr) (m : Str) (sp : Sp) : Prop where
  ex : ∃ (f : Addr) (fd : FuncData) (ps : List Str), Cls K C ∧ Meth K C m f ∧ FnOk P w K mg base (L2.CX P w) k f fd ps sp ∧ Binds K fd ps []
structure Mk1 (P : Program) (w : World) (K : PySem.W.Frag) (mg : Str → Option Value) (base : Heap) (k : Nat) (x : Str) (C : Addr) (sp : Sp) : Prop where
  ex : ∃ (f : Addr) (fd : FuncData) (ps : List Str), Mk K C f ∧ FnOk P w K mg base CX0 k f fd ps sp ∧ mg x = some (.ref C) ∧ Binds K fd ps []

section
variable {X : Cx} {k j : Nat} {C : Addr} {x m : Str} {sp : Sp} {p pos apos : Pos} {e o : PySem.Expr} {es : List PySem.Expr} {ta : TE} {t : TA}
theorem cl_c (c : Cl X.prog X.w X.K X.mg X.base k x sp) (hr : Room j X.A) (hk : k ≤ j) (hg : Gl X x) (ha : PA X (e :: es) t)
    (hdb : (x == ("__debug__" : Str)) = false := by decide) (he : starEach (e :: es) X.env = (false, eval e X.env) :: starEach es X.env := by rfl) (hpl : (backTo pos (starEach es X.env)).any (·.1) = false := by rfl) :
    PE X (.Call (.Name x p) (e :: es) [] pos) (tCall sp [] E0 t) := by
  obtain ⟨f, fd, ps, F, hm, kp, b⟩ := c.ex
  exact pe_call F (hr.mono hk) hg hm kp b .nil pass0 ha hdb he hpl
theorem cl_k (c : Mk1 X.prog X.w X.K X.mg X.base k x C sp) (hr : Room j X.A) (hk : k + 1 ≤ j) (hg : Gl X x) (ha : PA X (e :: es) t)
    (hdb : (x == ("__debug__" : Str)) = false := by decide) (he : starEach (e :: es) X.env = (false, eval e X.env) :: starEach es X.env := by rfl) (hpl : (backTo pos (starEach es X.env)).any (·.1) = false := by rfl) :
    PE X (.Call (.Name x p) (e :: es) [] pos) (tMake C sp [] E0 t) := by
  obtain ⟨f, fd, ps, M, F, hm, b⟩ := c.ex
  exact pe_make M F (hr.mono hk) hg hm b .nil pass0 ha hdb he hpl
theorem cl_k0 (c : Mk1 X.prog X.w X.K X.mg X.base k x C sp) (hr : Room j X.A) (hk : k + 1 ≤ j) (hg : Gl X x)
    (hdb : (x == ("__debug__" : Str)) = false := by decide) : PE X (.Call (.Name x p) [] [] pos) (tMake C sp [] E0 tNil) := by
  obtain ⟨f, fd, ps, M, F, hm, b⟩ := c.ex
  exact pe_make0 M F (hr.mono hk) hg hm b .nil pass0 hdb
theorem mt_m {pl : Sem Bool} (c : Mt X.prog X.w X.K X.mg X.base k C m sp) (hr : Room j X.A) (hk : k ≤ j) (he : PE X o ta) (ha : PA X (e :: es) t)
    (hst : starEach (e :: es) X.env = (false, eval e X.env) :: starEach es X.env := by rfl) (hpl : (backTo pos (starEach es X.env)).any (·.1) = false := by rfl)
    (ht : eval (.Call (.Attribute o m apos) (e :: es) [] pos) X.env = (do
      let ov ← eval o X.env
      standAt apos.atName
      let (f, first) ← holding [ov] (getMethod ov m pl)
      callWith pos f first (backTo pos (starEach (e :: es) X.env)) (backToKw pos (keywordEach [] X.env))) := by rfl) :
    PE X (.Call (.Attribute o m apos) (e :: es) [] pos) (tMeth C m sp [] E0 ta t) := by
  obtain ⟨f, fd, ps, hc, hm, F, b⟩ := c.ex
  exact pe_meth (pl := pl) he hc hm F (hr.mono hk) b .nil pass0 ha hst hpl ht
theorem mt_m0 {pl : Sem Bool} (c : Mt X.prog X.w X.K X.mg X.base k C m sp) (hr : Room j X.A) (hk : k ≤ j) (he : PE X o ta)
    (ht : eval (.Call (.Attribute o m apos) [] [] pos) X.env = (do
      let ov ← eval o X.env
      standAt apos.atName
      let (f, first) ← holding [ov] (getMethod ov m pl)
      callWith pos f first (backTo pos (starEach [] X.env)) (backToKw pos (keywordEach [] X.env))) := by rfl) :
    PE X (.Call (.Attribute o m apos) [] [] pos) (tMeth C m sp [] E0 ta tNil) := by
  obtain ⟨f, fd, ps, hc, hm, F, b⟩ := c.ex
  exact pe_meth0 (pl := pl) he hc hm F (hr.mono hk) b .nil pass0 ht
/-- .. of a method that may raise, where nothing is let out -/
theorem mt_x {pl : Sem Bool} (c : MtX X.prog X.w X.K X.mg X.base k C m sp) (hr : Room j X.A) (hk : k ≤ j) (he : PE X o ta) (ha : PA X (e :: es) t)
    (hst : starEach (e :: es) X.env = (false, eval e X.env) :: starEach es X.env := by rfl) (hpl : (backTo pos (starEach es X.env)).any (·.1) = false := by rfl)
    (ht : eval (.Call (.Attribute o m apos) (e :: es) [] pos) X.env = (do
      let ov ← eval o X.env
      standAt apos.atName
      let (f, first) ← holding [ov] (getMethod ov m pl)
      callWith pos f first (backTo pos (starEach (e :: es) X.env)) (backToKw pos (keywordEach [] X.env))) := by rfl) :
    PE X (.Call (.Attribute o m apos) (e :: es) [] pos) (tMeth C m sp [] E0 ta t) := by
  obtain ⟨f, fd, ps, hc, hm, F, b⟩ := c.ex
  exact pe_meth (pl := pl) he hc hm F (hr.mono hk) b .nil passL ha hst hpl ht

/-- the same of a receiver whose class is one of a family -/
def tMethF {ι : Type} (cl : ι → Addr) (m : Str) (sp : ι → Sp) (ta : TE) (t : TA) : TE := fun σ H Q => ta σ H fun x H1 => ∃ (a : Addr) (i : ι) (dx : Addr) (fs : List (Str × V)), x = .ref a ∧ H1 a = some (.ins (cl i) dx fs) ∧ fs.lookup m = none ∧
  t σ H1 fun vs H2 => sp i (x :: vs) H2 Q E0
theorem mt_f {ι : Type} {cl : ι → Addr} {spF : ι → Sp} {pl : Sem Bool} (c : ∀ i, Mt X.prog X.w X.K X.mg X.base k (cl i) m (spF i)) (hr : Room j X.A) (hk : k ≤ j) (he : PE X o ta) (ha : PA X (e :: es) t)
    (hst : starEach (e :: es) X.env = (false, eval e X.env) :: starEach es X.env := by rfl) (hpl : (backTo pos (starEach es X.env)).any (·.1) = false := by rfl)
    (ht : eval (.Call (.Attribute o m apos) (e :: es) [] pos) X.env = (do
      let ov ← eval o X.env
      standAt apos.atName
      let (f, first) ← holding [ov] (getMethod ov m pl)
      callWith pos f first (backTo pos (starEach (e :: es) X.env)) (backToKw pos (keywordEach [] X.env))) := by rfl) :
    PE X (.Call (.Attribute o m apos) (e :: es) [] pos) (tMethF cl m spF ta t) := by
  refine ⟨fun pins s σ H Q I h => PySem.W.methodCall_KW (pl := pl) (thn (he.run pins s σ H _ I h) fun u s1 ⟨x, H1, I1, rx, a, i, dx, fs, ex, ea, l, q⟩ => ?_) ht⟩
  subst ex
  obtain ⟨f, fd, ps, hc, hm, F, b⟩ := (c i).ex
  obtain rfl : u = Value.ref a := rx
  refine getmeth_ok I1 ea hc hm l (PySem.W.callWith_K (first := [.ref a]) (h₀ := X.base) I.ok.mod.kin hm.kp (thn (ha.run pos pins s1 σ H1 _ I1 q) fun us s2 ⟨vs, H2, I2, r, q2⟩ => ⟨I2.kIn, ?_⟩) hst hpl)
  exact run_fn (us := .ref a :: us) (vs := .ref a :: vs) (dvs := []) F (hr.mono hk) b .nil pass0 I2 (.cons rfl r) (by rw [List.append_nil]; exact q2)
theorem mt_f0 {ι : Type} {cl : ι → Addr} {spF : ι → Sp} {pl : Sem Bool} (c : ∀ i, Mt X.prog X.w X.K X.mg X.base k (cl i) m (spF i)) (hr : Room j X.A) (hk : k ≤ j) (he : PE X o ta)
    (ht : eval (.Call (.Attribute o m apos) [] [] pos) X.env = (do
      let ov ← eval o X.env
      standAt apos.atName
      let (f, first) ← holding [ov] (getMethod ov m pl)
      callWith pos f first (backTo pos (starEach [] X.env)) (backToKw pos (keywordEach [] X.env))) := by rfl) :
    PE X (.Call (.Attribute o m apos) [] [] pos) (tMethF cl m spF ta tNil) := by
  refine ⟨fun pins s σ H Q I h => PySem.W.methodCall_KW (pl := pl) (thn (he.run pins s σ H _ I h) fun u s1 ⟨x, H1, I1, rx, a, i, dx, fs, ex, ea, l, q⟩ => ?_) ht⟩
  subst ex
  obtain ⟨f, fd, ps, hc, hm, F, b⟩ := (c i).ex
  obtain rfl : u = Value.ref a := rx
  exact getmeth_ok I1 ea hc hm l (PySem.W.callWith_K0 (first := [.ref a]) I1.kIn hm.kp (run_fn (us := [.ref a]) (vs := [.ref a]) (dvs := []) F (hr.mono hk) b .nil pass0 I1 (.cons rfl .nil) q))

/-- the same within a try: what is raised is wished for at the caller's slots -/
def tMethW (C : Addr) (m : Str) (sp : Sp) (W : WX) (ta : TE) (t : TA) : TE := fun σ H Q => ta σ H fun x H1 => ∃ a dx fs, x = .ref a ∧ H1 a = some (.ins C dx fs) ∧ fs.lookup m = none ∧
  t σ H1 fun vs H2 => sp (x :: vs) H2 Q (WE W σ)
theorem mt_w {pl : Sem Bool} {W : WX} (tk : Takes X W) (c : MtX X.prog X.w X.K X.mg X.base k C m sp) (hr : Room j X.A) (hk : k ≤ j) (he : PE X o ta) (ha : PA X (e :: es) t)
    (hst : starEach (e :: es) X.env = (false, eval e X.env) :: starEach es X.env := by rfl) (hpl : (backTo pos (starEach es X.env)).any (·.1) = false := by rfl)
    (ht : eval (.Call (.Attribute o m apos) (e :: es) [] pos) X.env = (do
      let ov ← eval o X.env
      standAt apos.atName
      let (f, first) ← holding [ov] (getMethod ov m pl)
      callWith pos f first (backTo pos (starEach (e :: es) X.env)) (backToKw pos (keywordEach [] X.env))) := by rfl) :
    PE X (.Call (.Attribute o m apos) (e :: es) [] pos) (tMethW C m sp W ta t) := by
  obtain ⟨f, fd, ps, hc, hm, F, b⟩ := c.ex
  refine ⟨fun pins s σ H Q I h => PySem.W.methodCall_KW (pl := pl) (thn (he.run pins s σ H _ I h) fun u s1 ⟨x, H1, I1, rx, a, dx, fs, ex, ea, l, q⟩ => ?_) ht⟩
  subst ex
  obtain rfl : u = Value.ref a := rx
  refine getmeth_ok I1 ea hc hm l (PySem.W.callWith_K (first := [.ref a]) (h₀ := X.base) I.ok.mod.kin hm.kp (thn (ha.run pos pins s1 σ H1 _ I1 q) fun us s2 ⟨vs, H2, I2, r, q2⟩ => ⟨I2.kIn, ?_⟩) hst hpl)
  exact run_fnS (E := WE W) (us := .ref a :: us) (vs := .ref a :: vs) F (hr.mono hk) b (passAt tk σ) I2 (.cons rfl r) q2
end

/-! ### pairs: their order -/
def ltV : V → V → Bool
  | .int i, .int j => decide (i < j)
  | .str a, .str b => decide (a.cps.toList < b.cps.toList)
  | _, _ => false
def cmpV : V → V → Bool
  | .int _, .int _ => true
  | .str _, .str _ => true
  | _, _ => false
def ltP (p q : V × V) : Bool := if p.1 = q.1 then ltV p.2 q.2 else ltV p.1 q.1
def rLtP (K : PySem.W.Frag) : R2 := fun x y H Q => ∃ (a b : Addr) (p q : V × V), x = .ref a ∧ y = .ref b ∧ SqT K H a [p.1, p.2] ∧ SqT K H b [q.1, q.2] ∧ cmpV p.1 q.1 = true ∧ cmpV p.2 q.2 = true ∧ Q (.bl (ltP p q)) H
theorem eqAtV {A : Around} {s : Shared} {x y : V} {u v : Value} (h : cmpV x y = true) (r : RelV x u) (r' : RelV y v) : SeqAt.EqAt A s u v (decide (x = y)) := by
  cases x <;> cases y <;> try cases h
  · rename_i i j
    obtain ⟨t, rfl⟩ := r
    obtain ⟨t', rfl⟩ := r'
    have e : decide (V.int i = V.int j) = (i == j) := by by_cases z : i = j <;> simp [z]
    rw [e]
    exact SeqAt.EqAt.int_int i t j t'
  · rename_i i j
    obtain ⟨t, rfl⟩ := r
    obtain ⟨t', rfl⟩ := r'
    have e : decide (V.str i = V.str j) = (i == j) := by by_cases z : i = j <;> simp [z]
    rw [e]
    exact SeqAt.EqAt.str_str i t j t'
theorem rcLtV {A : Around} {s : Shared} {x y : V} {u v : Value} (h : cmpV x y = true) (r : RelV x u) (r' : RelV y v) : SeqAt.RcLt A s u v (ltV x y) := by
  cases x <;> cases y <;> try cases h
  · rename_i i j
    obtain ⟨t, rfl⟩ := r
    obtain ⟨t', rfl⟩ := r'
    exact fun prog w E Q q => PyProof.Rows.lt_int q
  · rename_i i j
    obtain ⟨t, rfl⟩ := r
    obtain ⟨t', rfl⟩ := r'
    exact fun prog w E Q q => PyProof.Rows.lt_str q
theorem ltV_irr (x : V) : ltV x x = false := by
  cases x <;> simp [ltV]
theorem op_ltP {X : Cx} (hu : X.A.units < cLine) : OpR X (compareOp .Lt) (rLtP X.K) := by
  intro pins s σ H x y v u Q I rx ry h
  obtain ⟨a, b, p, q, rfl, rfl, ha, hb, c1, c2, hQ⟩ := h
  cases rx
  cases ry
  obtain ⟨its, r1, p1, _⟩ := I.tuple ha
  obtain ⟨its2, r2, p2, _⟩ := I.tuple hb
  cases r1 with
  | @cons _ u1 _ _ e1 r1 => cases r1 with
  | @cons _ u2 _ _ e2 r1 => cases r1 with
  | nil => cases r2 with
  | @cons _ w1 _ _ f1 r2 => cases r2 with
  | @cons _ w2 _ _ f2 r2 => cases r2 with
  | nil =>
    have L := SeqAt.RcLt.tuples (A := X.A) (s := s) (e := fun j => if j = 0 then decide (p.1 = q.1) else decide (p.2 = q.2)) (r := fun j => if j = 0 then ltV p.1 q.1 else ltV p.2 q.2) p1 p2 hu
      (fun j h1 h2 => by
        match j, h1, h2 with
        | 0, _, _ => exact eqAtV c1 e1 f1
        | 1, _, _ => exact eqAtV c2 e2 f2)
      (fun j h1 h2 _ => by
        match j, h1, h2 with
        | 0, _, _ => exact rcLtV c1 e1 f1
        | 1, _, _ => exact rcLtV c2 e2 f2)
    have ev : SeqAt.firstLt (fun j => if j = 0 then decide (p.1 = q.1) else decide (p.2 = q.2)) (fun j => if j = 0 then ltV p.1 q.1 else ltV p.2 q.2) (decide (2 < 2)) [0, 1] = ltP p q := by
      simp only [SeqAt.firstLt, ltP]
      by_cases z : p.1 = q.1
      · by_cases z2 : p.2 = q.2
        · simp [z, z2, ltV_irr]
        · simp [z, z2]
      · simp [z]
    have L' : SeqAt.RcLt X.A s (.ref a) (.ref b) (ltP p q) := by
      rw [← ev]; exact L
    exact L' X.prog X.w _ _ ⟨.bl (ltP p q), H, I, rfl, hQ⟩

/-! ### raise C(): an own class without own __init__, no arguments -/
theorem pmk_own0 {X : Cx} {C : Addr} {bmB : List Value} {B newId initId : String} {x : Str} {p pos : Pos} (F : ExcBaseFacts B newId initId bmB) (q : PySem.W.excIn X.K C bmB newId = true) (gC : X.mg x = some (.ref C)) (kC : PySem.W.keepIn X.K (.ref C) = true) (r : Raises X (.ref C)) (hg : Gl X x)
    (hdb : (x == ("__debug__" : Str)) = false := by decide) : PMk X (.Call (.Name x p) [] [] pos) (fun _ H Q => Q (.ref C) none H) := by
  intro pins s σ H Q I h
  refine wpAny_Call_Name_kw (ld_glob I hg gC (PySem.W.callWith_K0 I.kIn kC ?_) hdb)
  obtain ⟨bm, N, nm, qn, bs, hdct, sn, sub, ab, col, dd, k0, k1, k2, k3, k5, mN, hC, hN, hni, T⟩ := exc_obj I.kIn q
  exact wpAny_call_exc_subT F T hC hN hni (fun h' e hm => mk_of I hm r h (I.hok.gone hm.new)) (Nat.zero_le _)
end LH
namespace LH
open PySem PySem.Spec PyProof.Rows L2
/-! ### try: body / except x1 as n: suite1 / except x2 as n: suite2, where one of the two takes whatever the body lets out -/
section
variable {X : Cx} {pins : List (Addr × Obj)} {σ : L2.St} {H : Hp} {sI s : Shared} {a : Addr} {B : Heap} {cls : Value} {d : Option Addr} {D : Ends}
/-- the ends of a suite whose name in slot i goes -/
def endsAs (i : Nat) (D : Ends) : Ends := { nx := fun σ' H' => D.nx (σ'.set i none) H', rt := D.rt, bk := fun σ' H' => D.bk (σ'.set i none) H', ct := fun σ' H' => D.ct (σ'.set i none) H' }
theorem hnd_as {x n : Str} {c : Value} {i : Nat} {suite : List Stmt} {b0 : Stmt} {np pos' : Pos} {hds : List ExceptHandler} {ts : TS} {b : Bool} (hf : X.env.frame = some X.env.locals) (hN : X.N.Nodup) (hi : X.N[i]? = some n) (hln : X.env.kindOf n = some .local) (hc : Names X x c)
    (J : Inv X pins σ H sI) (nb : ∀ b o, sI.heap.get? b = some o → b ∉ frs X.stack → B.get? b = some o) (up : sI.heap.UpToSlots s.heap) (fl : HandSPX.FlyingZ B (X.env :: X.outer) a (Zc cls d) s.heap) (na : H a = none) (os : s.os = sI.os) (ag : AllBare s.gens)
    (hb1 : PySem.W.exmOne X.K cls c = some b)
    (hsu : ∀ (oe : Obj) (pn : List (Addr × Obj)), Zc cls d oe → (∃ vs, oe.data = .fields vs) → PSs (X.suite a ((a, oe) :: pn)) (b0 :: suite) ts)
    (yes : b = true → ts (endsAs i D) (σ.set i (some (.ref a))) H)
    (no : b = false → wpAny (model X.prog X.w) X.A (handleBy (.ref a) X.env hds) (SP X pins D) X.xe s) :
    wpAny (model X.prog X.w) X.A (handleBy (.ref a) X.env (.ExceptHandler (some (.Name x np)) (some n) (b0 :: suite) pos' :: hds)) (SP X pins D) X.xe s := by
  have ok := J.ok
  obtain ⟨oe3, vs3, he3, hz3, hd3⟩ := fl.there
  have out : ∀ {h : Heap} {o : Obj} {vs : Array Value}, h.FunFrames B (X.env :: X.outer) → h.get? a = some o → o.data = .fields vs → a ∉ frs (X.env :: X.outer) := by
    intro h o vs ff e dd hm
    obtain ⟨_, o', e', hnf⟩ := ff.mem hm
    cases e.symm.trans e'
    exact hnf _ dd
  have nfr := out fl.2.2.1 he3 hd3
  have nL : a ≠ X.env.locals := by
    intro z
    exact nfr (List.mem_filterMap.mpr ⟨X.env, List.mem_cons_self, by rw [hf, z]⟩)
  have nF : a ∉ X.fs := by
    intro hm
    obtain ⟨e, he, q⟩ := List.mem_filterMap.mp hm
    exact nfr (List.mem_filterMap.mpr ⟨e, List.mem_cons_of_mem _ he, q⟩)
  have J3 : Inv X pins σ H s := by
    have q := J.landed (s' := s) nb fl.1 up os ag
    exact q
  have S3 := J3.suite he3 hd3 na nL nF
  refine wpAny_handleBy_cons (codeAny_handlers_test ?_) (by intro q; cases q)
  have LT : PySem.W.Looks (model X.prog X.w) s.heap (typeOf (.ref a)) cls := fun A Q E s k q => wpAny_typeOf_ref (k _ _ he3) (by rw [hz3.1]; exact q)
  have LM := PySem.W.exm_one (M := model X.prog X.w) J3.kIn LT hb1
  have named : ∀ {Q : Value → Shared → Prop} {E : Value → Shared → Prop}, Q c s → wpAny (model X.prog X.w) (X.A.mark (some (.ref a))) (eval (.Name x np) X.env) Q E s := by
    intro Q E q
    obtain ⟨hg, hdbg, hm⟩ := hc
    rcases hm with hm | ⟨hm, hv, hnn⟩
    · exact ld_glob (X := X.suite a ((a, oe3) :: (X.pn ++ pins))) S3 hg hm q hdbg
    · exact ld_blt (X := X.suite a ((a, oe3) :: (X.pn ++ pins))) S3 hg hm hv q hnn hdbg
  refine named (LM.here ?_)
  cases b with
  | false => exact no rfl
  | true =>
    refine codeAny_handlers_suite_as (HandSPX.lands_againZ fl fun h4 fl4 up4 => ?_)
    have J4 : Inv X pins σ H { s with heap := h4 } := J.landed (s' := { s with heap := h4 }) nb fl4.1 (up.trans up4) os ag
    obtain ⟨oe4, vs4, he4, hz4, hd4⟩ := fl4.there
    have S4 := J4.suite he4 hd4 na nL nF
    refine store_ok (X := X.suite a ((a, oe4) :: (X.pn ++ pins))) (v := .ref a) S4 hN hi (.inl hln) rfl (fun s5 S5 => ?_) (.inr hln)
    have body := (hsu oe4 (X.pn ++ pins) hz4 ⟨_, hd4⟩).run [] s5 _ H _ S5 (yes rfl)
    refine wpAny_mono body (fun f s6 hsp => ?_) (fun _ _ z => z.elim)
    cases f with
    | next =>
      obtain ⟨σ6, H6, S6, q6⟩ := hsp
      exact gone_ok (S6.unsuite ok) hN hi hln fun s7 J7 => ⟨_, _, J7, q6⟩
    | brk =>
      obtain ⟨σ6, H6, S6, q6⟩ := hsp
      exact gone_ok (S6.unsuite ok) hN hi hln fun s7 J7 => ⟨_, _, J7, q6⟩
    | cont =>
      obtain ⟨σ6, H6, S6, q6⟩ := hsp
      exact gone_ok (S6.unsuite ok) hN hi hln fun s7 J7 => ⟨_, _, J7, q6⟩
    | ret u =>
      obtain ⟨v6, σ6, H6, S6, r6, q6⟩ := hsp
      exact gone_ok (S6.unsuite ok) hN hi hln fun s7 J7 => ⟨_, _, _, J7, r6, q6⟩
end

def wTwo (K : PySem.W.Frag) (c1 c2 : Value) (i : Nat) (ts1 ts2 : Addr → Value → Option Addr → TS) (D : Ends) : WX := fun cls d σ H =>
  ∃ b, PySem.W.exmOne K cls c1 = some b ∧ (b = true → ∀ a, H a = none → ts1 a cls d (endsAs i D) (σ.set i (some (.ref a))) H) ∧
    (b = false → PySem.W.exmOne K cls c2 = some true ∧ ∀ a, H a = none → ts2 a cls d (endsAs i D) (σ.set i (some (.ref a))) H)
theorem ps_try_two {X : Cx} {x1 x2 n : Str} {c1 c2 : Value} {i : Nat} {body su1 su2 : List Stmt} {b1 b2 : Stmt} {np1 np2 pos pos1 pos2 : Pos} {tb : WX → TS} {ts1 ts2 : Addr → Value → Option Addr → TS}
    (hs : X.stack = X.env :: X.outer) (hf : X.env.frame = some X.env.locals) (hN : X.N.Nodup) (hi : X.N[i]? = some n) (hln : X.env.kindOf n = some .local) (hc1 : Names X x1 c1) (hc2 : Names X x2 c2)
    (hb : ∀ (W : WX) (pn : List (Addr × Obj)) (xe : Value → Shared → Prop), Takes (X.tr pn xe) W → PassesOwn (model X.prog X.w) X.A X.env xe → PSs (X.tr pn xe) body (tb W))
    (h1 : ∀ (a : Addr) (oe : Obj) (cls : Value) (d : Option Addr) (pn : List (Addr × Obj)), Zc cls d oe → (∃ vs, oe.data = .fields vs) → PSs (X.suite a ((a, oe) :: pn)) (b1 :: su1) (ts1 a cls d))
    (h2 : ∀ (a : Addr) (oe : Obj) (cls : Value) (d : Option Addr) (pn : List (Addr × Obj)), Zc cls d oe → (∃ vs, oe.data = .fields vs) → PSs (X.suite a ((a, oe) :: pn)) (b2 :: su2) (ts2 a cls d)) :
    PS X (.Try body [.ExceptHandler (some (.Name x1 np1)) (some n) (b1 :: su1) pos1, .ExceptHandler (some (.Name x2 np2)) (some n) (b2 :: su2) pos2] [] [] pos) (fun D σ H => tb (wTwo X.K c1 c2 i ts1 ts2 D) D σ H) := by
  refine ⟨fun pins s σ H D I h => wpAny_Try_except ?_⟩
  have ok := I.ok
  have hfr : X.A.frames = some (X.env :: X.outer) := by rw [ok.frames, hs]
  have run := (hb (wTwo X.K c1 c2 i ts1 ts2 D) (X.pn ++ pins) (fun e s₁ => wpAny (model X.prog X.w) X.A (noteFrame e X.env) (fun _ s₂ => wpAny (model X.prog X.w) X.A (setFlight e none) (fun _ s₃ =>
    wpAny (model X.prog X.w) X.A (handleBy e X.env [.ExceptHandler (some (.Name x1 np1)) (some n) (b1 :: su1) pos1, .ExceptHandler (some (.Name x2 np2)) (some n) (b2 :: su2) pos2]) (SP X pins D) X.xe s₃) X.xe s₂) X.xe s₁)
    (fun u s' xx => ?_) PassesOwn.looking).run [] s σ H D (I.toTry _) h
  · refine wpAny_mono run (fun f s1 hsp => ?_) (fun e s1 he => he)
    cases f with
    | next =>
      obtain ⟨σ', H', J', q⟩ := hsp
      exact wpAny_execs_nil ⟨σ', H', J'.ofTry ok, q⟩
    | brk =>
      obtain ⟨σ', H', J', q⟩ := hsp
      exact ⟨σ', H', J'.ofTry ok, q⟩
    | cont =>
      obtain ⟨σ', H', J', q⟩ := hsp
      exact ⟨σ', H', J'.ofTry ok, q⟩
    | ret u =>
      obtain ⟨v, σ', H', J', r, q⟩ := hsp
      exact ⟨v, σ', H', J'.ofTry ok, r, q⟩
  · obtain ⟨a, B, sI, pins', σ', H', cls, d, rfl, J', nb, up, sky, na, os, ag, b, hb1, hyes, hno⟩ := xx
    have J : Inv X pins σ' H' sI := J'.ofTry ok
    have sky' : Sky B (X.env :: X.outer) a (Zc cls d) X.env.locals s'.heap := by rw [← hs]; exact sky
    show wpAny (model X.prog X.w) X.A (noteFrame (.ref a) X.env) _ _ _
    refine Sky.land Zc.steady hfr hf sky' fun h3 fl3 up3 => ?_
    refine hnd_as (s := { s' with heap := h3 }) (ts := ts1 a cls d) hf hN hi hln hc1 J nb (up.trans up3) fl3 na os ag hb1 (fun oe pn z v => h1 a oe cls d pn z v) (fun e => hyes e a na) (fun e => ?_)
    obtain ⟨m2, r2⟩ := hno e
    exact hnd_as (s := { s' with heap := h3 }) (ts := ts2 a cls d) hf hN hi hln hc2 J nb (up.trans up3) fl3 na os ag m2 (fun oe pn z v => h2 a oe cls d pn z v) (fun _ => r2 a na) (fun z => by cases z)
end LH
namespace LH
open PySem PySem.Spec PyProof.Rows L2
open PySem.W (ksFn ksEnv ks_superIn ks_superObj clsIn mroIn nsIn codeIn typeIn methodObj Looks)

/-- a def that closes over the class it stands in: the context of its body at its entry; nothing is let out -/
def sxOf (P : Program) (w : World) (K : PySem.W.Frag) (mg : Str → Option Value) (base : Heap) (N : List Str) (qual : Str) (scope : Scope) (f : Addr) (cd : Value) (cc : Addr) (A : Around) (outer : List Env) (s : Shared) (H : Hp) : Cx where
  prog := P
  w := w
  K := K
  mg := mg
  base := base
  A := A.deeper (ksEnv qual scope s.heap.objs.size f cd cc)
  N := N
  s_0 := s
  H_0 := H
  env := ksEnv qual scope s.heap.objs.size f cd cc
  outer := outer
  stack := ksEnv qual scope s.heap.objs.size f cd cc :: outer
  ex := []
  calm := true
  fn := fun _ => false
  pn := []
  xe := fun _ _ => False

abbrev psSup : List Str := ["self", "question", "records"]

theorem inv_sup {P : Program} {w : World} {K : PySem.W.Frag} {mg : Str → Option Value} {base : Heap} {qual : Str} {scope : Scope} {f cc D : Addr} {cd cl : Value} {cld : Option Addr} {csl : Array (Option Value)} {A : Around} {outer : List Env} {s : Shared} {H : Hp} {h0 : Heap} {t0 : Nat}
    {v0 v1 v2 : V} {u0 u1 u2 : Value} (hkind : scope.kind = .function) (hl : ∀ x ∈ psSup, scope.names.lookup x = some .local) (hfr : ∀ x, scope.names.lookup x = some .free → x = "__class__") (hnc : ∀ y ∈ scope.names, y.2 ≠ .cell)
    (hcell : K.lookup cc = some ⟨cl, cld, .cell (some (.ref D)), csl⟩) (hd : A.handled = none) (e0 : Env0 P w K mg base A outer s H) (r0 : RelV v0 u0) (r1 : RelV v1 u1) (r2 : RelV v2 u2)
    (hns : h0.Ns s.heap.objs.size (fun x => (psSup.zip [u0, u1, u2]).reverse.lookup x)) (hk : ∀ b o, s.heap.get? b = some o → h0.get? b = some o) :
    Inv (sxOf P w K mg base psSup qual scope f cd cc A outer s H) [] [some v0, some v1, some v2] H { s with heap := h0, toks := t0 } := by
  have noA : ∀ b : Addr, b ∉ (sxOf P w K mg base psSup qual scope f cd cc A outer s H).ex := fun b z => absurd (show b ∈ ([] : List Addr) from z) (by simp)
  have baseK : base.get? cc = some ⟨cl, cld, .cell (some (.ref D)), csl⟩ := e0.mod.kin _ _ hcell
  have one : ∀ x c, List.lookup x [(("__class__" : Str), cc)] = some c → x = "__class__" ∧ c = cc := by
    intro x c e
    by_cases hx : x = "__class__"
    · subst hx
      rw [List.lookup_cons_self] at e
      exact ⟨rfl, (Option.some.inj e).symm⟩
    · have hb : (x == ("__class__" : Str)) = false := by simpa using hx
      simp [List.lookup, hb] at e
  have notCell : ∀ x, scope.names.lookup x ≠ some .cell := fun x e => hnc _ (PySem.mem_of_lookup e) rfl
  refine ⟨⟨e0.mod, hkind, rfl, rfl, Nat.le_refl _, fun x y c h1 h2 => ?_, fun x hx => ?_, fun x c h _ => ?_, fun _ => hd, Around.frames_deeper e0.frames, .inr ⟨rfl, rfl⟩, fun b z => absurd z (noA b), e0.bs, e0.bsz, fun b _ _ => noA b, fun b z => absurd z (noA b), e0.funs, e0.frf⟩,
    rfl, e0.bare, Un.kept hk, ⟨_, hns, fun i y v h1 h2 h3 => ?_⟩, fun x c h => ?_, e0.hok.fresh (Nat.le_refl _), fun x c h => ?_, fun p hp => absurd (show p ∈ ([] : List (Addr × Obj)) from hp) (by simp), e0.hok.kept hk, rfl⟩
  · exact (one x c h1).1.trans (one y c h2).1.symm
  · have hx : scope.names.lookup x = some .cell ∨ scope.names.lookup x = some .free := hx
    rcases hx with hx | hx
    · exact absurd hx (notCell x)
    · have q := hfr x hx
      subst q
      exact ⟨cc, List.lookup_cons_self⟩
  · exact absurd h (by show ¬ (false = true); simp)
  · have look : ∀ (x : Str) (u : Value), x ∈ psSup → (psSup.zip [u0, u1, u2]).reverse.lookup x = some u → RelV v u → ∃ u, RelV v u ∧ Look (ksEnv qual scope s.heap.objs.size f cd cc) h0 (fun x => (psSup.zip [u0, u1, u2]).reverse.lookup x) x u :=
      fun x u hx e r => ⟨u, r, .inl ⟨hl x hx, e⟩⟩
    match i, h1, h2 with
    | 0, h1, h2 =>
      cases h1
      cases h2
      exact look _ u0 (by simp) (by first | rfl | decide | simp) r0
    | 1, h1, h2 =>
      cases h1
      cases h2
      exact look _ u1 (by simp) (by first | rfl | decide | simp) r1
    | 2, h1, h2 =>
      cases h1
      cases h2
      exact look _ u2 (by simp) (by first | rfl | decide | simp) r2
    | i + 3, h1, h2 => exact absurd h2 (by simp)
  · obtain ⟨_, rfl⟩ := one x c h
    exact ⟨_, _, hk _ _ (e0.bs _ _ baseK).1, rfl⟩
  · obtain ⟨_, rfl⟩ := one x c h
    exact (e0.bs _ _ baseK).2

/-- what must be known of the text: the class D that the def closes over, the instance's class C, the def fV that stands behind C's own __init__ -/
structure SupK (P : Program) (K : PySem.W.Frag) (mg : Str → Option Value) (C D f fV cc cda : Addr) (fd : FuncData) : Prop where
  lk : ∃ oc od osl, K.lookup f = some ⟨oc, od, .func fd, osl⟩
  cda : ∃ ccl cdd vs ccs file tf, K.lookup cda = some ⟨ccl, cdd, .fields vs, ccs⟩ ∧ vs[2]? = some (.str file tf) ∧ ((P.main.file : Str) == file) = true
  cell : ∃ cl cld csl, K.lookup cc = some ⟨cl, cld, .cell (some (.ref D)), csl⟩
  cls : ∃ cd, clsIn K D = some cd
  clC : ∃ cd, clsIn K C = some cd
  sub : mroIn K C (.ref D) = some true
  nos : mg "super" = none
  top : (P.main.scope.names.lookup ("super" : Str)).isSome = false
  opq : nsIn K cStatics "thirdparty.any" = some none
  meth : ks_superIn K C D "__init__" = some (some (.ref fV))
  ty : typeIn K (.ref fV) = some (.type "function")
  fn : PySem.W.fnIn K fV = true
theorem boot_super : bootBuiltins "super" = some (.type "super") := by first | rfl | decide +kernel | kernel_rfl

theorem run_super {P : Program} {w : World} {K : PySem.W.Frag} {mg : Str → Option Value} {base : Heap} {qual : Str} {scope : Scope} {C D f fV cc cda : Addr} {A : Around} {outer : List Env} {s0 : Shared} {H0 : Hp} {fd fdV : FuncData} {body : List Stmt} {k : Nat} {spV : Sp}
    {pl : Env → Sem Bool} {x : Addr} {q r : V} {H : Hp} {s : Shared} {Q : Hp → Prop} {dx : Addr} {fs : List (Str × V)} {p0 p1 p2 p3 p4 p5 pa : Pos} {ann : Option PySem.Expr} {rest : List Arg}
    (he : ∀ env : Env, eval (.Call (.Attribute (.Call (.Name "super" p0) [] [] p1) "__init__" p2) [.Name "question" p3, .Name "records" p4] [] p5) env = (do
      let ov ← attributeBase (.Call (.Name "super" p0) [] [] p1) "__init__" env (eval (.Call (.Name "super" p0) [] [] p1) env)
      standAt p2.atName
      let (f, first) ← holding [ov] (getMethod ov "__init__" (pl env))
      callWith p5 f first (backTo p5 (starEach [.Name "question" p3, .Name "records" p4] env)) []))
    (hl : ∀ x ∈ psSup, scope.names.lookup x = some .local) (hks : scope.names.lookup ("super" : Str) = some .globalImplicit) (hkc : scope.names.lookup ("__class__" : Str) = some .free)
    (hkind : scope.kind = .function) (T : SupK P K mg C D f fV cc cda fd) (hpar : fd.params.posonlyargs ++ fd.params.args = { arg := "self", annotation := ann, pos := pa } :: rest)
    (F : FnOk P w K mg base CX0 k fV fdV psSup spV) (bV : Binds K fdV psSup []) (hr : Room k (sxOf P w K mg base psSup qual scope f (.ref cda) cc A outer s0 H0).A)
    (I : Inv (sxOf P w K mg base psSup qual scope f (.ref cda) cc A outer s0 H0) [] [some (.ref x), some q, some r] H s) (hx : H x = some (.ins C dx fs)) (hsp : spV [.ref x, q, r] H (fun _ H2 => Q H2) E0) :
    _root_.PySem.wpAt (model P w) (sxOf P w K mg base psSup qual scope f (.ref cda) cc A outer s0 H0).A (.func body (ksEnv qual scope s0.heap.objs.size f (.ref cda) cc))
      (eval (.Call (.Attribute (.Call (.Name "super" p0) [] [] p1) "__init__" p2) [.Name "question" p3, .Name "records" p4] [] p5) (ksEnv qual scope s0.heap.objs.size f (.ref cda) cc))
      (fun _ s' => ∃ σ' H', Inv (sxOf P w K mg base psSup qual scope f (.ref cda) cc A outer s0 H0) [] σ' H' s' ∧ Q H') (fun _ _ => False) s := by
  obtain ⟨oc, od, osl, lk⟩ := T.lk
  obtain ⟨ccl, cdd, vs, ccs, file, tf, hcda, hvs, hfile⟩ := T.cda
  obtain ⟨cl, cld, csl, hcell⟩ := T.cell
  obtain ⟨cdD, hcD⟩ := T.cls
  obtain ⟨cdC, hcC⟩ := T.clC
  have KX : K.In s.heap := I.kIn
  obtain ⟨m, hns, hlk⟩ := id I.loc
  obtain ⟨mb, b1, b2⟩ := I.mod.blt
  have hself : m "self" = some (.ref x) := by
    obtain ⟨u, ru, q⟩ := hlk 0 "self" (.ref x) rfl rfl (.inl (hl _ (by simp)))
    cases ru
    rcases q with ⟨_, e⟩ | ⟨e, _⟩
    · exact e
    · have z := hl "self" (by simp)
      rcases e with e | e
      · exact absurd (e.symm.trans z) (by simp)
      · exact absurd (e.symm.trans z) (by simp)
  have ix := I.hok x _ hx
  obtain ⟨hdx, _, ndx, hxo, _⟩ := ix
  refine PySem.ks_wpAt_MethodCall (pl := pl (ksEnv qual scope s0.heap.objs.size f (.ref cda) cc)) ?_ (he _)
  refine PySem.ks_wpAt_super_base (env := ksEnv qual scope s0.heap.objs.size f (.ref cda) cc) hks hkc (by decide) rfl (KX _ _ lk) rfl (by rw [hpar]; rfl) rfl (KX _ _ hcda) rfl hvs hfile T.top ?_
  refine PySem.W.ks_loadName_global hkind hks (Calls.loadGlobal_builtin (env := ksEnv qual scope s0.heap.objs.size f (.ref cda) cc) (I.mod.glob.keeps I.bk) T.nos (b1.keeps I.bk) ((b2 _ (by decide)).trans boot_super) ⟨rfl, ?_⟩)
  refine wpAny_loadName_free hkind hkc List.lookup_cons_self ⟨_, KX _ _ hcell, rfl⟩ ?_
  refine wpAny_loadName_local hkind (hl "self" (by simp)) hns hself ?_
  obtain ⟨oD, hD1, hD2⟩ : ∃ oD, s.heap.get? D = some oD ∧ oD.data = .cls cdD := by
    unfold clsIn at hcD
    split at hcD
    · rename_i c d cd' sl ho
      cases hcD
      exact ⟨_, KX _ _ ho, rfl⟩
    · cases hcD
  refine PySem.ks_wpAny_isType_cls hD1 hD2 ⟨rfl, ?_⟩
  have hxC : x ≠ C := by
    rintro rfl
    unfold clsIn at hcC
    split at hcC
    · rename_i c d cd' sl ho
      have e := KX _ _ ho
      rw [hxo] at e
      cases e
    · cases hcC
  have hnc : ∀ c, (W.instObj C dx).data ≠ .cls c := fun c e => by cases e
  refine PySem.ks_wpAny_call_super hD1 hD2 hxo rfl hnc (PySem.W.looks_mroIn KX T.sub) (fun h' hso kp => ?_)
  have I1 : L2.Inv (sxOf P w K mg base psSup qual scope f (.ref cda) cc A outer s0 H0) [] [some (.ref x), some q, some r] H { s with heap := h' } := I.kept (t' := s.toks) kp
  have meth := T.meth
  unfold ks_superIn at meth
  rw [hcC, Option.bind_some] at meth
  obtain ⟨oF, hoF, hoFc⟩ : ∃ oF, h'.get? fV = some oF ∧ oF.cls = .type "function" := by
    have ht' : (K.lookup fV).map (·.cls) = some (.type "function") := T.ty
    cases z : K.lookup fV with
    | none => rw [z] at ht'; cases ht'
    | some oF => rw [z] at ht'; exact ⟨oF, I1.kIn _ _ z, Option.some.inj ht'⟩
  refine PySem.ks_wpAny_getMethod_super (l₀ := cdC.mro) hso (PySem.W.looks_opaque I1.kIn T.opq) (fun A Q E s k q => wpAny_bind ((PySem.W.looks_clsIn I1.kIn hcC) A _ E s k (wpAny_pure q))) rfl I1.kIn meth hoF hoFc hxC (by decide) ?_
  have kp2 : ∀ b u, h'.get? b = some u → (h'.push (methodObj (.ref fV) (.ref x))).get? b = some u := fun b u e => Heap.get?_push_of_some _ e
  have hq0 : h'.objs.size ∉ (sxOf P w K mg base psSup qual scope f (.ref cda) cc A outer s0 H0).fs := I1.nofs (Nat.le_refl _)
  have I2 : L2.Inv (sxOf P w K mg base psSup qual scope f (.ref cda) cc A outer s0 H0) [(h'.objs.size, methodObj (.ref fV) (.ref x))] [some (.ref x), some q, some r] H { s with heap := h'.push (methodObj (.ref fV) (.ref x)), toks := s.toks + 1 } := by
    refine (I1.kept (t' := s.toks + 1) kp2).pins_of fun p hp => ?_
    have e := List.mem_singleton.mp hp
    subst e
    exact ⟨Heap.get?_push_size _ rfl, I1.hok.fresh (Nat.le_refl _), Nat.ne_of_gt I1.lt, hq0, fun v z => by cases z⟩
  have pa : PA (sxOf P w K mg base psSup qual scope f (.ref cda) cc A outer s0 H0) [.Name "question" p3, .Name "records" p4] (tCons (tVar 1) (tCons (tVar 2) tNil)) :=
    pa_cons (pe_var (i := 1) rfl (.inl (hl _ (by simp)))) (pa_cons (pe_var (i := 2) rfl (.inl (hl _ (by simp)))) pa_nil)
  refine PySem.W.callWith_of (P := PySem.W.MethP K h'.objs.size fV (.ref x)) (by rfl) (fun h X => PySem.W.keeps_M T.fn h X) (Calls.evalArgs_plain ?_)
  refine thn (pa.run p5 _ _ _ H (fun vs H1 => vs = [q, r] ∧ H1 = H) I2 ⟨q, rfl, r, rfl, rfl, rfl⟩) fun us s3 ⟨vs, H3, I3, rv, ev, eH⟩ => ?_
  subst ev
  subst eH
  have hq3 := (I3.pin (h'.objs.size, methodObj (.ref fV) (.ref x)) List.mem_cons_self).1
  refine ⟨⟨hq3, I3.kIn⟩, ?_⟩
  show wpAny _ _ (call (.ref h'.objs.size) us) _ _ _
  have e0 := I3.env0
  have r2 : Vals (V.ref x :: [q, r]) (Value.ref x :: us) := .cons rfl rv
  have hb := bV s3 (Value.ref x :: us) I3.kIn (by rw [List.append_nil]; exact r2.length.symm)
  rw [List.append_nil] at hb
  refine wpAny_call (PySem.ks_codeAny_call_bound hq3 (codeAny_mono (F.run _ _ s3 H3 ⟨Value.ref x :: us, []⟩ (Value.ref x :: us) [.ref x, q, r] (fun _ H2 => Q H2) E0 hr e0 hb r2 hsp) fun res s4 hres => ?_))
  cases res with
  | error e => exact hres.elim
  | ok fl =>
    cases fl with
    | ret u =>
      obtain ⟨v4, H4, I4, _, q4⟩ := I3.after hres
      exact ⟨_, H4, I4.pins_of (fun p hp => absurd hp (by simp)), q4⟩
    | next => exact hres.elim
    | brk => exact hres.elim
    | cont => exact hres.elim

/-- the rule: a def __init__(self, question, records) of the form st0; super().__init__(question, records) -/
theorem ok_sup {P : Program} {w : World} {K : PySem.W.Frag} {mg : Str → Option Value} {base : Heap} {name qual : Str} {params : Arguments} {scope : Scope} {dV kV doc pm ct : Value} {an : Option Addr} {C D f fV cc cda : Addr} {fdV : FuncData} {st0 : Stmt} {k : Nat} {sp spV : Sp}
    {pl : Env → Sem Bool} {p0 p1 p2 p3 p4 p5 p6 pa : Pos} {ann : Option PySem.Expr} {rest : List Arg}
    (he : ∀ env : Env, eval (.Call (.Attribute (.Call (.Name "super" p0) [] [] p1) "__init__" p2) [.Name "question" p3, .Name "records" p4] [] p5) env = (do
      let ov ← attributeBase (.Call (.Name "super" p0) [] [] p1) "__init__" env (eval (.Call (.Name "super" p0) [] [] p1) env)
      standAt p2.atName
      let (f, first) ← holding [ov] (getMethod ov "__init__" (pl env))
      callWith p5 f first (backTo p5 (starEach [.Name "question" p3, .Name "records" p4] env)) []))
    (hl : ∀ x ∈ psSup, scope.names.lookup x = some .local) (hks : scope.names.lookup ("super" : Str) = some .globalImplicit) (hkc : scope.names.lookup ("__class__" : Str) = some .free)
    (hkind : scope.kind = .function) (hco : scope.isCoroutine = false) (hgen : scope.isGenerator = false) (hfr : ∀ x, scope.names.lookup x = some .free → x = "__class__") (hnc : ∀ y ∈ scope.names, y.2 ≠ .cell)
    (T : SupK P K mg C D f fV cc cda (ksFn name qual params [st0, .Expr (.Call (.Attribute (.Call (.Name "super" p0) [] [] p1) "__init__" p2) [.Name "question" p3, .Name "records" p4] [] p5) p6] scope dV kV doc pm an (.ref cda) ct cc))
    (hcd : codeIn K (.ref cda) qual = true) (hpar : params.posonlyargs ++ params.args = { arg := "self", annotation := ann, pos := pa } :: rest)
    (F : FnOk P w K mg base CX0 k fV fdV psSup spV) (bV : Binds K fdV psSup [])
    (len : ∀ vs H Q E, sp vs H Q E → vs.length = psSup.length)
    (hbody : ∀ (A : Around) (outer : List Env) (s : Shared) (H : Hp) (vs : List V) (Q : VK) (E : XK), Room k (sxOf P w K mg base psSup qual scope f (.ref cda) cc A outer s H).A → sp vs H Q E →
      ∃ (x : Addr) (q r : V) (t0 : TS), vs = [.ref x, q, r] ∧ PS (sxOf P w K mg base psSup qual scope f (.ref cda) cc A outer s H) st0 t0 ∧
        t0 { nx := fun σ1 H1 => σ1 = [some (.ref x), some q, some r] ∧ (∃ dx fs, H1 x = some (.ins C dx fs)) ∧ spV [.ref x, q, r] H1 (fun _ H2 => Q .non H2) E0, rt := fun _ _ => False } [some (.ref x), some q, some r] H) :
    FnOk P w K mg base CX0 (k + 1) f (ksFn name qual params [st0, .Expr (.Call (.Attribute (.Call (.Name "super" p0) [] [] p1) "__init__" p2) [.Name "question" p3, .Name "records" p4] [] p5) p6] scope dV kV doc pm an (.ref cda) ct cc) psSup sp := by
  refine ⟨len, fun A outer s H args us vs Q E hr e0 hb r hsp => ?_⟩
  have KX : K.In s.heap := e0.mod.kin.keeps fun b o e => (e0.bs b o e).1
  have lim : s.heap.NoLimit := e0.mod.nolimit.keeps fun b o e => (e0.bs b o e).1
  obtain ⟨oc, od, osl, lk⟩ := T.lk
  obtain ⟨cl, cld, csl, hcell⟩ := T.cell
  have hr1 : Room k (sxOf P w K mg base psSup qual scope f (.ref cda) cc A outer s H).A := hr.deeper _
  obtain ⟨x, q, v2, t0, rfl, ps0, ht⟩ := hbody A outer s H vs Q E hr1 hsp
  cases r with
  | @cons _ u0 _ _ r0 r => cases r with
  | @cons _ u1 _ _ r1 r => cases r with
  | @cons _ u2 _ _ r2 r => cases r with
  | nil =>
  refine PySem.ks_codeAny_call_defAt hr.depth (KX _ _ lk) rfl lim (PySem.W.codeRec_of KX hcd) rfl hb hnc (fun y hy => hl _ (List.of_mem_zip hy).1) (fun h0 hns hk => ?_) hco hgen hkind
  have I := inv_sup (P := P) (qual := qual) (f := f) (cd := .ref cda) (A := A) (outer := outer) (t0 := s.toks + (psSup.zip [u0, u1, u2]).length) hkind hl hfr hnc hcell hr.hd e0 r0 r1 r2 hns hk
  have R := ps0.run [] _ _ H _ I ht
  refine PySem.ks_wpAt_mono (E := fun _ _ => False) (PySem.ks_wpAt_execs_cons (PySem.wpAt_of_wpAny (wpAny_mono R (fun fl s1 h1 => ?_) fun _ _ z => z))) (fun a s' h => h) (fun _ _ z => z.elim)
  cases fl with
  | next =>
    obtain ⟨σ1, H1, I1, rfl, ⟨dx, fs, hx⟩, hV⟩ := h1
    refine PySem.ks_wpAt_execs_cons (PySem.ks_wpAt_Expr_any (PySem.ks_wpAt_mono (run_super (Q := fun H2 => Q .non H2) he hl hks hkc hkind T hpar F bV hr1 I1 hx hV) (fun _ s2 h2 => ?_) fun _ _ z => z) ?_ ?_)
    · obtain ⟨σ2, H2, I2, q2⟩ := h2
      refine PySem.wpAt_of_wpAny (wpAny_execs_nil ?_)
      exact ⟨.non, H2, I2.os, I2.bare, I2.base, I2.hok, rfl, q2⟩
    · exact I1.quiet
    · rfl
  | brk =>
    obtain ⟨_, _, _, z⟩ := h1
    exact z.elim
  | cont =>
    obtain ⟨_, _, _, z⟩ := h1
    exact z.elim
  | ret u =>
    obtain ⟨_, _, _, _, _, z⟩ := h1
    exact z.elim
end LH
/-! What stands in the heap: groups, the ledger, records, answers, views, the board; and what a call keeps. -/
namespace LH
open PySem PySem.Spec L2

/-! ### what is kept outside F -/
structure Kp (F : List Addr) (H H' : Hp) : Prop where
  k : ∀ a o, H a = some o → a ∉ F → H' a = some o
  t : ∀ a xs, H a = some (.tup xs) → H' a = some (.tup xs)
  d : ∀ a, H' a = none → H a = none
theorem Kp.refl {F : List Addr} {H : Hp} : Kp F H H := ⟨fun _ _ h _ => h, fun _ _ h => h, fun _ h => h⟩
theorem Kp.trans {F : List Addr} {H H1 H2 : Hp} (a : Kp F H H1) (b : Kp F H1 H2) : Kp F H H2 :=
  ⟨fun c o h n => b.k c o (a.k c o h n) n, fun c xs h => b.t c xs (a.t c xs h), fun c h => a.d c (b.d c h)⟩
theorem Kp.mono {F G : List Addr} {H H' : Hp} (a : Kp F H H') (h : ∀ x ∈ F, x ∈ G) : Kp G H H' := ⟨fun c o e n => a.k c o e fun z => n (h c z), a.t, a.d⟩
theorem Kp.nil {F : List Addr} {H H' : Hp} (a : Kp [] H H') : Kp F H H' := a.mono fun _ h => absurd h (by simp)
theorem Kp.new {F : List Addr} {H H' : Hp} {p : Addr} {o : HO} (a : Kp F H H') (h : H' p = none) : Kp F H (upd H' p o) := by
  refine ⟨fun c u e n => ?_, fun c xs e => ?_, fun c e => ?_⟩
  · rw [upd_ne (ne_of_none (a.k c u e n) h)]; exact a.k c u e n
  · rw [upd_ne (ne_of_none (a.t c xs e) h)]; exact a.t c xs e
  · by_cases hc : c = p
    · subst hc; rw [upd_same] at e; cases e
    · rw [upd_ne hc] at e; exact a.d c e
theorem Kp.mut {F : List Addr} {H H' : Hp} {p : Addr} {o u : HO} (a : Kp F H H') (hp : p ∈ F) (h : H' p = some u) (nt : ∀ xs, u ≠ .tup xs) : Kp F H (upd H' p o) := by
  refine ⟨fun c v e n => ?_, fun c xs e => ?_, fun c e => ?_⟩
  · rw [upd_ne (fun z => n (by rw [z]; exact hp))]; exact a.k c v e n
  · have q := a.t c xs e
    rw [upd_ne (fun z => by rw [z, h] at q; exact nt xs (Option.some.inj q))]; exact q
  · by_cases hc : c = p
    · subst hc; rw [upd_same] at e; cases e
    · rw [upd_ne hc] at e; exact a.d c e
/-- what was made since may be changed -/
theorem Kp.own {F : List Addr} {H H' : Hp} {p : Addr} {o : HO} (a : Kp F H H') (h : H p = none) : Kp F H (upd H' p o) := by
  refine ⟨fun c v e n => ?_, fun c xs e => ?_, fun c e => ?_⟩
  · rw [upd_ne (fun z => by rw [z, h] at e; cases e)]; exact a.k c v e n
  · rw [upd_ne (fun z => by rw [z, h] at e; cases e)]; exact a.t c xs e
  · by_cases hc : c = p
    · subst hc; rw [upd_same] at e; cases e
    · rw [upd_ne hc] at e; exact a.d c e
/-- a call that changed what was made since alone -/
theorem Kp.fresh {F G : List Addr} {H H1 H2 : Hp} (a : Kp F H H1) (b : Kp G H1 H2) (h : ∀ x ∈ G, x ∈ F ∨ H x = none) : Kp F H H2 := by
  refine ⟨fun c o e n => b.k c o (a.k c o e n) fun z => ?_, fun c xs e => b.t c xs (a.t c xs e), fun c e => a.d c (b.d c e)⟩
  rcases h c z with q | q
  · exact n q
  · rw [q] at e; cases e
theorem Kp.same {H H' : Hp} (a : Kp [] H H') : Same H H' := fun b o h => a.k b o h (by simp)
theorem Kp.of_same {H H' : Hp} {F : List Addr} (a : Same H H') : Kp F H H' := ⟨fun c o h _ => a c o h, fun c _ h => a c _ h, fun _ h => a.free h⟩
theorem Kp.seq {F : List Addr} {K : PySem.W.Frag} {H H' : Hp} {a : Addr} {xs : List V} (e : Kp F H H') (hn : a ∉ F) (h : SqL K H a xs) : SqL K H' a xs := by
  rcases h with (h | ⟨o, h⟩) | h
  · exact .inl (.inl (e.k _ _ h hn))
  · exact .inl (.inr ⟨o, e.k _ _ h hn⟩)
  · exact .inr h

/-! ### groups and the ledger -/
def optV : Option Int → V
  | none => .non
  | some i => .int i
abbrev Wr := Str × Option Int
abbrev Gr := List Wr
def GrpAt (H : Hp) (g : Addr) (ws : Gr) : Prop := ∃ ts : List Addr, H g = some (.tup (ts.map V.ref)) ∧ Paired (fun t (w : Wr) => H t = some (.tup [.str w.1, optV w.2])) ts ws
theorem GrpAt.kp {F : List Addr} {H H' : Hp} {g : Addr} {ws : Gr} (k : Kp F H H') (h : GrpAt H g ws) : GrpAt H' g ws := by
  obtain ⟨ts, e, p⟩ := h
  exact ⟨ts, k.t _ _ e, Paired.mapP p fun _ _ q => k.t _ _ q⟩
def LedAt (H : Hp) (lg : Addr) (gs : List Gr) : Prop := ∃ cs : List Addr, H lg = some (.lst (cs.map V.ref)) ∧ Paired (fun c (g : Gr) => ∃ (t : Int) (ga : Addr), H c = some (.tup [.int t, .ref ga]) ∧ GrpAt H ga g) cs gs
theorem LedAt.kp {F : List Addr} {H H' : Hp} {lg : Addr} {gs : List Gr} (k : Kp F H H') (hn : lg ∉ F) (h : LedAt H lg gs) : LedAt H' lg gs := by
  obtain ⟨cs, e, p⟩ := h
  refine ⟨cs, k.k _ _ e hn, Paired.mapP p fun _ _ ⟨t, ga, q, r⟩ => ⟨t, ga, k.t _ _ q, r.kp k⟩⟩

/-! ### texts in order -/
def kle (a b : Str) : Bool := !decide (b.cps.toList < a.cps.toList)
def klt (a b : Str) : Bool := decide (a.cps.toList < b.cps.toList)
/-- the twelve keys that the law draws -/
def keys12 : List Str := ["a", "aa", "az", "b", "ba", "bz", "c", "ca", "cz", "d", "da", "dz"]
def KOk (k : Str) : Prop := k ∈ keys12
abbrev Cov := Str × Str
def inC (c : Cov) (k : Str) : Bool := kle c.1 k && kle k c.2

/-! ### states of the store -/
abbrev Fn := Str → Option Int
def wr (f : Fn) (w : Wr) : Fn := fun x => if x = w.1 then w.2 else f x
def grp (f : Fn) (g : Gr) : Fn := g.foldl wr f
def M (gs : List Gr) (c : Nat) : Fn := (gs.take c).foldl grp fun _ => none

/-! ### dicts of records -/
structure RepO (kvs : List (Key × V)) (f : Fn) : Prop where
  nd : (kvs.map (·.1)).Nodup
  ks : ∀ p ∈ kvs, ∃ k, p.1 = Sum.inr k ∧ KOk k
  val : ∀ k, (valV kvs (Sum.inr k)).getD .non = optV (f k)
structure RepI (kvs : List (Key × V)) (f : Fn) : Prop where
  nd : (kvs.map (·.1)).Nodup
  ks : ∀ p ∈ kvs, ∃ k, p.1 = Sum.inr k ∧ KOk k
  val : ∀ k, valV kvs (Sum.inr k) = (f k).map V.int
theorem RepI.o {kvs : List (Key × V)} {f : Fn} (r : RepI kvs f) : RepO kvs f := ⟨r.nd, r.ks, fun k => by rw [r.val k]; cases f k <;> rfl⟩

/-- the rows of a state within a cover -/
abbrev Row := Str × Int
structure RowsOf (f : Fn) (c : Cov) (rs : List Row) : Prop where
  so : rs.Pairwise fun p q => klt p.1 q.1 = true
  mem : ∀ k v, (k, v) ∈ rs ↔ f k = some v ∧ inC c k = true
def RowsAt (H : Hp) (ts : List Addr) (rs : List Row) : Prop := Paired (fun t (p : Row) => H t = some (.tup [.str p.1, .int p.2])) ts rs
theorem RowsAt.kp {F : List Addr} {H H' : Hp} {ts : List Addr} {rs : List Row} (k : Kp F H H') (h : RowsAt H ts rs) : RowsAt H' ts rs := Paired.mapP h fun _ _ q => k.t _ _ q

/-! ### questions and answers -/
inductive Qu where
  | get (k : Str) | count (a b : Str) | sum (a b : Str) | list (a b : Str) | least (a b : Str) | top (n : Nat) (a b : Str) | whr (lo hi : Int) (a b : Str)
/-- the kind of a question: there is a class for each -/
inductive Kd where
  | get | count | sum | list | least | top | whr
def Qu.kd : Qu → Kd
  | .get _ => .get
  | .count _ _ => .count
  | .sum _ _ => .sum
  | .list _ _ => .list
  | .least _ _ => .least
  | .top _ _ _ => .top
  | .whr _ _ _ _ => .whr
def Qu.vals : Qu → List V
  | .get k => [.str "get", .str k]
  | .count a b => [.str "count", .str a, .str b]
  | .sum a b => [.str "sum", .str a, .str b]
  | .list a b => [.str "list", .str a, .str b]
  | .least a b => [.str "least", .str a, .str b]
  | .top n a b => [.str "top", .int n, .str a, .str b]
  | .whr lo hi a b => [.str "where", .int lo, .int hi, .str a, .str b]
def Qu.cov : Qu → Cov
  | .get k => (k, k)
  | .count a b => (a, b)
  | .sum a b => (a, b)
  | .list a b => (a, b)
  | .least a b => (a, b)
  | .top _ a b => (a, b)
  | .whr _ _ a b => (a, b)
inductive Ans where
  | non | int (i : Int) | pair (p : Row) | rows (rs : List Row)
def AnsAt (H : Hp) : V → Ans → Prop
  | x, .non => x = .non
  | x, .int i => x = .int i
  | x, .pair p => ∃ t, x = .ref t ∧ H t = some (.tup [.str p.1, .int p.2])
  | x, .rows rs => ∃ t ts, x = .ref t ∧ H t = some (.tup (ts.map V.ref)) ∧ RowsAt H ts rs
theorem AnsAt.kp {F : List Addr} {H H' : Hp} {x : V} {a : Ans} (k : Kp F H H') (h : AnsAt H x a) : AnsAt H' x a := by
  cases a with
  | non => exact h
  | int i => exact h
  | pair p => obtain ⟨t, e, q⟩ := h; exact ⟨t, e, k.t _ _ q⟩
  | rows rs => obtain ⟨t, ts, e, q, r⟩ := h; exact ⟨t, ts, e, k.t _ _ q, r.kp k⟩
/-- the law's own reckoning -/
def best1 (b : Option Row) (p : Row) : Option Row := match b with
  | none => some p
  | some q => if p.2 < q.2 then some p else some q
def bestOf (rs : List Row) : Option Row := rs.foldl best1 none
def rank1 (rk : List Row) (p : Row) : List Row := rk.take (rk.filter fun r => decide (p.2 ≤ r.2)).length ++ [p] ++ rk.drop (rk.filter fun r => decide (p.2 ≤ r.2)).length
def rankOf (rs : List Row) : List Row := rs.foldl rank1 []
def ansOf : Qu → List Row → Ans
  | .get _, rs => match rs with
    | [] => .non
    | p :: _ => .int p.2
  | .count _ _, rs => .int rs.length
  | .sum _ _, rs => .int (rs.map (·.2)).sum
  | .list _ _, rs => .rows rs
  | .least _ _, rs => match bestOf rs with
    | none => .non
    | some p => .pair p
  | .top n _ _, rs => .rows ((rankOf rs).take n)
  | .whr lo hi _ _, rs => .rows (rs.filter fun r => decide (lo ≤ r.2) && decide (r.2 ≤ hi))
def IsAns (f : Fn) (q : Qu) (a : Ans) : Prop := ∀ rs, RowsOf f q.cov rs → a = ansOf q rs

/-! ### views -/
structure VS where
  p : Addr
  d : Addr
  c : Addr
  qa : Addr
  l : Addr
def Qu.isL : Qu → Bool
  | .list _ _ => true
  | .least _ _ => true
  | .top _ _ _ => true
  | .whr _ _ _ _ => true
  | _ => false
/-- what a view's own list holds of a record -/
def Qu.enc : Qu → Row → V × V
  | .least _ _, p => (.int p.2, .str p.1)
  | .top _ _ _, p => (.int (-p.2), .str p.1)
  | _, p => (.str p.1, .int p.2)
def Qu.pass : Qu → Int → Bool
  | .whr lo hi _ _, v => decide (lo ≤ v) && decide (v ≤ hi)
  | _, _ => true
def exOf : Qu → Addr → List Row → List (Str × V)
  | .sum _ _, _, ks => [("total", .int (ks.map (·.2)).sum)]
  | .list _ _, l, _ => [("rows", .ref l)]
  | .least _ _, l, _ => [("ranked", .ref l)]
  | .top _ _ _, l, _ => [("ranked", .ref l)]
  | .whr _ _ _ _, l, _ => [("rows", .ref l)]
  | _, _, _ => []
def fldsOf (q : Qu) (S : VS) (ks : List Row) : List (Str × V) := exOf q S.l ks ++ ([("question", V.ref S.qa), ("cover", V.ref S.c), ("known", V.ref S.d)] : List (Str × V))
def dk (ks : List Row) : List (Key × V) := ks.map fun p => (Sum.inr p.1, .int p.2)
/-- the classes by the question's kind -/
abbrev ClsOf := Kd → Addr
/-- the sorted list of a view -/
structure ItemsOk (q : Qu) (ks : List Row) (its : List (V × V)) : Prop where
  so : its.Pairwise fun x y => ltP x y = true
  mem : ∀ x, x ∈ its ↔ ∃ p ∈ ks, q.pass p.2 = true ∧ x = q.enc p
def ItemsAt (H : Hp) (ts : List Addr) (its : List (V × V)) : Prop := Paired (fun t (p : V × V) => H t = some (.tup [p.1, p.2])) ts its
theorem ItemsAt.kp {F : List Addr} {H H' : Hp} {ts : List Addr} {rs : List (V × V)} (k : Kp F H H') (h : ItemsAt H ts rs) : ItemsAt H' ts rs := Paired.mapP h fun _ _ q => k.t _ _ q
def LstOk (H : Hp) (q : Qu) (l : Addr) (ks : List Row) : Prop := q.isL = true → ∃ ts its, H l = some (.lst (ts.map V.ref)) ∧ ItemsAt H ts its ∧ ItemsOk q ks its
/-- a view's object but for its dict -/
structure VObj (cl : ClsOf) (H : Hp) (q : Qu) (S : VS) (ks : List Row) : Prop where
  ob : ∃ dx, H S.p = some (.ins (cl q.kd) dx (fldsOf q S ks))
  qu : H S.qa = some (.tup q.vals)
  li : LstOk H q S.l ks
  nd : (ks.map (·.1)).Nodup
  kk : ∀ p ∈ ks, KOk p.1
/-- what a view's methods put and cancel may change; what take may change -/
def footP (q : Qu) (S : VS) : List Addr := if q.isL = true then [S.p, S.l] else [S.p]
def foot (q : Qu) (S : VS) : List Addr := if q.isL = true then [S.p, S.d, S.l] else [S.p, S.d]
structure KnOf (f : Fn) (c : Cov) (ks : List Row) : Prop where
  nd : (ks.map (·.1)).Nodup
  mem : ∀ k v, (k, v) ∈ ks ↔ f k = some v ∧ inC c k = true
structure VAt (cl : ClsOf) (H : Hp) (q : Qu) (S : VS) (f : Fn) (ks : List Row) : Prop where
  ob : VObj cl H q S ks
  cv : H S.c = some (.tup [.str q.cov.1, .str q.cov.2])
  dc : H S.d = some (.dK (dk ks))
  kn : KnOf f q.cov ks

theorem fl_question (q : Qu) (S : VS) (ks : List Row) : (fldsOf q S ks).lookup ("question" : Str) = some (.ref S.qa) := by cases q <;> rfl
theorem fl_cover (q : Qu) (S : VS) (ks : List Row) : (fldsOf q S ks).lookup ("cover" : Str) = some (.ref S.c) := by cases q <;> rfl
theorem fl_known (q : Qu) (S : VS) (ks : List Row) : (fldsOf q S ks).lookup ("known" : Str) = some (.ref S.d) := by cases q <;> rfl
theorem fl_put (q : Qu) (S : VS) (ks : List Row) : (fldsOf q S ks).lookup ("put" : Str) = none := by cases q <;> rfl
theorem fl_cancel (q : Qu) (S : VS) (ks : List Row) : (fldsOf q S ks).lookup ("cancel" : Str) = none := by cases q <;> rfl
theorem fl_is_met (q : Qu) (S : VS) (ks : List Row) : (fldsOf q S ks).lookup ("is_met" : Str) = none := by cases q <;> rfl
theorem fl_take (q : Qu) (S : VS) (ks : List Row) : (fldsOf q S ks).lookup ("take" : Str) = none := by cases q <;> rfl
theorem fl_answer (q : Qu) (S : VS) (ks : List Row) : (fldsOf q S ks).lookup ("answer" : Str) = none := by cases q <;> rfl
end LH
/-! Plain facts: order of texts and pairs, sorted lists, records. -/
namespace LH
open PySem PySem.Spec L2

/-! ### order of texts -/
theorem klt_irr (a : Str) : klt a a = false := by simp [klt, List.lt_irrefl]
theorem klt_trans {a b c : Str} (h : klt a b = true) (h' : klt b c = true) : klt a c = true := by
  simp only [klt, decide_eq_true_eq] at *
  exact List.lt_trans h h'
theorem klt_asymm {a b : Str} (h : klt a b = true) : klt b a = false := by
  simp only [klt, decide_eq_true_eq, decide_eq_false_iff_not] at *
  exact List.lt_asymm h
theorem str_ext {a b : Str} (h : a.cps.toList = b.cps.toList) : a = b := by
  cases a; cases b
  simp only [PySem.Str.mk.injEq]
  exact Array.ext' h
theorem klt_tri {a b : Str} (h : klt a b = false) (h' : klt b a = false) : a = b := by
  simp only [klt, decide_eq_false_iff_not] at *
  exact str_ext (List.le_antisymm (List.not_lt.mp h') (List.not_lt.mp h))
theorem kle_iff (a b : Str) : kle a b = !klt b a := rfl
theorem kle_refl (a : Str) : kle a a = true := by rw [kle_iff, klt_irr]; rfl
theorem kle_anti {a b : Str} (h : kle a b = true) (h' : kle b a = true) : a = b := by
  rw [kle_iff] at h h'
  exact klt_tri (by simpa using h') (by simpa using h)
theorem kle_of_lt {a b : Str} (h : klt a b = true) : kle a b = true := by rw [kle_iff, klt_asymm h]; rfl
theorem kle_cases {a b : Str} (h : kle a b = true) : klt a b = true ∨ a = b := by
  rw [kle_iff] at h
  cases e : klt a b with
  | true => exact .inl rfl
  | false => exact .inr (klt_tri e (by simpa using h))
theorem kle_trans {a b c : Str} (h : kle a b = true) (h' : kle b c = true) : kle a c = true := by
  rcases kle_cases h with h | rfl
  · rcases kle_cases h' with h' | rfl
    · exact kle_of_lt (klt_trans h h')
    · exact kle_of_lt h
  · exact h'
theorem kle_total (a b : Str) : kle a b = true ∨ kle b a = true := by
  cases e : klt a b with
  | true => exact .inl (kle_of_lt e)
  | false => exact .inr (by rw [kle_iff, e]; rfl)
theorem sortedS_pair : ∀ (l : List Str), PyProof.Rows.sortedS l = true → l.Pairwise fun a b => kle a b = true
  | [], _ => List.Pairwise.nil
  | [x], _ => List.pairwise_singleton _ _
  | x :: y :: r, h => by
    have h' : (!PySem.Spec.ltCps y.cps.toList x.cps.toList && PyProof.Rows.risingS y r) = true := h
    rw [Bool.and_eq_true] at h'
    have ih := sortedS_pair (y :: r) h'.2
    have xy : kle x y = true := by
      have q := h'.1
      rw [PyProof.Rows.ltCps_eq] at q
      exact q
    refine List.Pairwise.cons (fun z hz => ?_) ih
    rcases List.mem_cons.mp hz with rfl | hz
    · exact xy
    · exact kle_trans xy (List.rel_of_pairwise_cons ih hz)
theorem sorted_strict {l : List Str} (h : PyProof.Rows.sortedS l = true) (nd : l.Nodup) : l.Pairwise fun a b => klt a b = true := by
  have q := sortedS_pair l h
  refine (List.pairwise_iff_getElem).mpr fun i j hi hj hij => ?_
  have z := (List.pairwise_iff_getElem).mp q i j hi hj hij
  rcases kle_cases z with z | z
  · exact z
  · exact absurd ((List.getElem_inj nd).mp z) (by omega)

/-! ### pairs -/
theorem ltV_trans {x y z : V} (h : ltV x y = true) (h' : ltV y z = true) : ltV x z = true := by
  cases x <;> cases y <;> try (cases h)
  all_goals (cases z <;> try (cases h'))
  · simp only [ltV, decide_eq_true_eq] at *; omega
  · simp only [ltV, decide_eq_true_eq] at *; exact List.lt_trans h h'
theorem ltV_asymm {x y : V} (h : ltV x y = true) : ltV y x = false := by
  cases x <;> cases y <;> try (cases h)
  · simp only [ltV, decide_eq_true_eq, decide_eq_false_iff_not] at *; omega
  · simp only [ltV, decide_eq_true_eq, decide_eq_false_iff_not] at *; exact List.lt_asymm h
theorem ltV_tri {x y : V} (c : cmpV x y = true) (h : ltV x y = false) (h' : ltV y x = false) : x = y := by
  cases x <;> cases y <;> try (cases c)
  · simp only [ltV, decide_eq_false_iff_not] at *
    rw [V.int.injEq]; omega
  · rename_i a b
    have e : a = b := klt_tri (a := a) (b := b) h h'
    rw [e]
theorem ltP_irr (p : V × V) : ltP p p = false := by simp [ltP, ltV_irr]
theorem ltP_trans {p q r : V × V} (h : ltP p q = true) (h' : ltP q r = true) : ltP p r = true := by
  unfold ltP at *
  by_cases e : p.1 = q.1
  · rw [if_pos e] at h
    by_cases e' : q.1 = r.1
    · rw [if_pos e'] at h'
      rw [if_pos (e.trans e')]; exact ltV_trans h h'
    · rw [if_neg e'] at h'
      rw [if_neg (fun z => e' (e.symm.trans z)), e]; exact h'
  · rw [if_neg e] at h
    by_cases e' : q.1 = r.1
    · rw [if_neg (fun z => e (z.trans e'.symm)), ← e']; exact h
    · rw [if_neg e'] at h'
      have z := ltV_trans h h'
      rw [if_neg (fun w => by rw [w, ltV_irr] at z; cases z)]; exact z
theorem ltP_asymm {p q : V × V} (h : ltP p q = true) : ltP q p = false := by
  cases e : ltP q p with
  | false => rfl
  | true => have z := ltP_trans h e; rw [ltP_irr] at z; cases z
def cmpP (p q : V × V) : Bool := cmpV p.1 q.1 && cmpV p.2 q.2
theorem ltP_tri {p q : V × V} (c : cmpP p q = true) (h : ltP p q = false) (h' : ltP q p = false) : p = q := by
  unfold cmpP at c
  rw [Bool.and_eq_true] at c
  unfold ltP at *
  by_cases e : p.1 = q.1
  · rw [if_pos e] at h
    rw [if_pos e.symm] at h'
    exact Prod.ext e (ltV_tri c.2 h h')
  · rw [if_neg e] at h
    rw [if_neg (fun z => e z.symm)] at h'
    exact absurd (ltV_tri c.1 h h') e
theorem cmp_enc (q : Qu) (a b : Row) : cmpP (q.enc a) (q.enc b) = true := by cases q <;> rfl
theorem enc_inj {q : Qu} {a b : Row} (h : q.enc a = q.enc b) : a = b := by
  obtain ⟨k, v⟩ := a
  obtain ⟨k', v'⟩ := b
  cases q <;> simp only [Qu.enc, Prod.mk.injEq, V.int.injEq, V.str.injEq] at h <;> (obtain ⟨h1, h2⟩ := h; simp only [Prod.mk.injEq]; constructor <;> first | assumption | omega)

/-! ### sorted lists -/
section
variable {α : Type} {r : α → α → Prop}
/-- two rising lists of the same members are one -/
theorem sorted_one (irr : ∀ a, ¬ r a a) (tr : ∀ a b c, r a b → r b c → r a c) : ∀ {l m : List α}, l.Pairwise r → m.Pairwise r → (∀ x, x ∈ l ↔ x ∈ m) → l = m
  | [], [], _, _, _ => rfl
  | [], y :: m, _, _, h => absurd ((h y).mpr List.mem_cons_self) (by simp)
  | x :: l, [], _, _, h => absurd ((h x).mp List.mem_cons_self) (by simp)
  | x :: l, y :: m, hl, hm, h => by
    obtain ⟨l1, l2⟩ := List.pairwise_cons.mp hl
    obtain ⟨m1, m2⟩ := List.pairwise_cons.mp hm
    have e : x = y := by
      rcases List.mem_cons.mp ((h x).mp List.mem_cons_self) with e | e
      · exact e
      · rcases List.mem_cons.mp ((h y).mpr List.mem_cons_self) with e' | e'
        · exact e'.symm
        · exact absurd (tr _ _ _ (l1 _ e') (m1 _ e)) (irr x)
    subst e
    have t : l = m := sorted_one irr tr l2 m2 fun z => by
      constructor
      · intro hz
        rcases List.mem_cons.mp ((h z).mp (List.mem_cons_of_mem _ hz)) with e | e
        · subst e; exact absurd (l1 _ hz) (irr z)
        · exact e
      · intro hz
        rcases List.mem_cons.mp ((h z).mpr (List.mem_cons_of_mem _ hz)) with e | e
        · subst e; exact absurd (m1 _ hz) (irr z)
        · exact e
    rw [t]
theorem sorted_nodup (irr : ∀ a, ¬ r a a) {l : List α} (h : l.Pairwise r) : l.Nodup := List.nodup_iff_pairwise_ne.mpr (h.imp fun {a b} z (e : a = b) => irr a (by rw [← e] at z; exact z))
end
theorem rows_one {f : Fn} {c : Cov} {a b : List Row} (h : RowsOf f c a) (h' : RowsOf f c b) : a = b :=
  sorted_one (r := fun p q : Row => klt p.1 q.1 = true) (fun a z => by rw [klt_irr] at z; cases z) (fun _ _ _ => klt_trans) h.so h'.so fun ⟨k, v⟩ => by rw [h.mem, h'.mem]
theorem rows_nodup {f : Fn} {c : Cov} {a : List Row} (h : RowsOf f c a) : a.Nodup := sorted_nodup (r := fun p q : Row => klt p.1 q.1 = true) (fun a z => by rw [klt_irr] at z; cases z) h.so
theorem its_one {a b : List (V × V)} (h : a.Pairwise fun x y => ltP x y = true) (h' : b.Pairwise fun x y => ltP x y = true) (m : ∀ x, x ∈ a ↔ x ∈ b) : a = b :=
  sorted_one (r := fun x y : V × V => ltP x y = true) (fun a z => by rw [ltP_irr] at z; cases z) (fun _ _ _ => ltP_trans) h h' m
theorem its_nodup {a : List (V × V)} (h : a.Pairwise fun x y => ltP x y = true) : a.Nodup := sorted_nodup (r := fun x y : V × V => ltP x y = true) (fun a z => by rw [ltP_irr] at z; cases z) h

/-- n is the place of x: what stands ahead is less, the rest is not -/
structure PlaceOf (l : List (V × V)) (x : V × V) (n : Nat) : Prop where
  le : n ≤ l.length
  lo : ∀ j y, j < n → l[j]? = some y → ltP y x = true
  hi : ∀ j y, n ≤ j → l[j]? = some y → ltP y x = false
theorem lt_before {l : List (V × V)} {x y : V × V} {m : Nat} (so : l.Pairwise fun a b => ltP a b = true) (h : l[m]? = some y) (hl : ltP y x = true) : ∀ j z, j ≤ m → l[j]? = some z → ltP z x = true := by
  intro j z hj hz
  obtain ⟨m1, m2⟩ := List.getElem?_eq_some_iff.mp h
  obtain ⟨j1, j2⟩ := List.getElem?_eq_some_iff.mp hz
  by_cases e : j = m
  · subst e; rw [h] at hz; cases hz; exact hl
  · have q := (List.pairwise_iff_getElem).mp so j m j1 m1 (by omega)
    rw [m2, j2] at q
    exact ltP_trans q hl
theorem not_before {l : List (V × V)} {x y : V × V} {m : Nat} (so : l.Pairwise fun a b => ltP a b = true) (h : l[m]? = some y) (hl : ltP y x = false) : ∀ j z, m ≤ j → l[j]? = some z → ltP z x = false := by
  intro j z hj hz
  cases e : ltP z x with
  | false => rfl
  | true => rw [lt_before so hz e m y hj h] at hl; cases hl
/-- an item put in its place -/
theorem ins_mem {l : List (V × V)} {x : V × V} {n : Nat} (y : V × V) : y ∈ l.take n ++ [x] ++ l.drop n ↔ y = x ∨ y ∈ l := by
  have e : y ∈ l ↔ y ∈ l.take n ∨ y ∈ l.drop n := by
    conv => lhs; rw [← List.take_append_drop n l]
    exact List.mem_append
  simp only [List.mem_append, List.mem_singleton, e]
  constructor
  · rintro ((h | h) | h)
    · exact .inr (.inl h)
    · exact .inl h
    · exact .inr (.inr h)
  · rintro (h | h | h)
    · exact .inl (.inr h)
    · exact .inl (.inl h)
    · exact .inr h
theorem ins_so {l : List (V × V)} {x : V × V} {n : Nat} (so : l.Pairwise fun a b => ltP a b = true) (h : PlaceOf l x n) (hx : x ∉ l) (hc : ∀ y ∈ l, cmpP x y = true) : (l.take n ++ [x] ++ l.drop n).Pairwise fun a b => ltP a b = true := by
  have so' : (l.take n ++ l.drop n).Pairwise fun a b => ltP a b = true := by rw [List.take_append_drop]; exact so
  obtain ⟨s1, s2, s3⟩ := List.pairwise_append.mp so'
  have lo : ∀ a ∈ l.take n, ltP a x = true := fun a ha => by
    obtain ⟨j, hj⟩ := List.mem_iff_getElem?.mp ha
    rw [List.getElem?_take] at hj
    split at hj
    · exact h.lo j a (by assumption) hj
    · cases hj
  have hi : ∀ a ∈ l.drop n, ltP x a = true := fun a ha => by
    obtain ⟨j, hj⟩ := List.mem_iff_getElem?.mp ha
    rw [List.getElem?_drop] at hj
    have q := h.hi (n + j) a (by omega) hj
    cases e : ltP x a with
    | true => rfl
    | false =>
      have am : a ∈ l := List.mem_iff_getElem?.mpr ⟨_, hj⟩
      have z := ltP_tri (hc a am) e q
      exact absurd (by rw [z]; exact am) hx
  rw [List.append_assoc]
  refine List.pairwise_append.mpr ⟨s1, ?_, fun a ha b hb => ?_⟩
  · exact List.pairwise_append.mpr ⟨List.pairwise_singleton _ _, s2, fun a ha b hb => by rw [List.mem_singleton.mp ha]; exact hi b hb⟩
  · rcases List.mem_append.mp hb with hb | hb
    · rw [List.mem_singleton.mp hb]; exact lo a ha
    · exact s3 a ha b hb
theorem at_place {l : List (V × V)} {x : V × V} {n : Nat} (h : PlaceOf l x n) (hx : x ∈ l) (so : l.Pairwise fun a b => ltP a b = true) : l[n]? = some x := by
  obtain ⟨j, hj⟩ := List.mem_iff_getElem?.mp hx
  by_cases h1 : j < n
  · have q := h.lo j x h1 hj
    rw [ltP_irr] at q; cases q
  · by_cases h2 : j = n
    · rw [← h2]; exact hj
    · obtain ⟨j1, j2⟩ := List.getElem?_eq_some_iff.mp hj
      have hn : n < l.length := by omega
      have q := (List.pairwise_iff_getElem).mp so n j hn j1 (by omega)
      have z := h.hi n l[n] (Nat.le_refl _) (by simp [hn])
      rw [j2] at q
      rw [q] at z; cases z
theorem del_mem {l : List (V × V)} {x : V × V} {n : Nat} (nd : l.Nodup) (hx : l[n]? = some x) (y : V × V) : y ∈ l.eraseIdx n ↔ y ∈ l ∧ y ≠ x := by
  obtain ⟨n1, n2⟩ := List.getElem?_eq_some_iff.mp hx
  rw [List.mem_eraseIdx_iff_getElem]
  constructor
  · rintro ⟨i, hi, ne, rfl⟩
    refine ⟨List.getElem_mem hi, fun e => ne ?_⟩
    rw [← n2] at e
    exact (List.getElem_inj nd).mp e
  · rintro ⟨hy, ne⟩
    obtain ⟨i, hi, rfl⟩ := List.mem_iff_getElem.mp hy
    exact ⟨i, hi, fun e => ne (by subst e; exact n2), rfl⟩
theorem del_so {l : List (V × V)} {n : Nat} (so : l.Pairwise fun a b => ltP a b = true) : (l.eraseIdx n).Pairwise fun a b => ltP a b = true := so.sublist (List.eraseIdx_sublist l n)
end LH
namespace LH
open PySem PySem.Spec L2

/-! ### what a view knows, as a dict -/
theorem dk_keys (ks : List Row) : (dk ks).map (·.1) = (ks.map (·.1)).map Sum.inr := by
  unfold dk
  rw [List.map_map, List.map_map]
  rfl
theorem dk_len (ks : List Row) : (dk ks).length = ks.length := List.length_map _
theorem dk_some : ∀ {ks : List Row} {k : Str} {v : Int}, (ks.map (·.1)).Nodup → (k, v) ∈ ks → valV (dk ks) (Sum.inr k) = some (.int v)
  | [], _, _, _, h => by simp at h
  | p :: ks, k, v, nd, h => by
    have nd' : (p.1 :: ks.map (·.1)).Nodup := nd
    obtain ⟨n1, n2⟩ := List.nodup_cons.mp nd'
    show valV ((Sum.inr p.1, V.int p.2) :: dk ks) (Sum.inr k) = _
    rcases List.mem_cons.mp h with e | e
    · subst e
      exact valV_pos rfl
    · have ne : ¬ (Sum.inr p.1 : Key) = Sum.inr k := fun z => by
        have z' : p.1 = k := Sum.inr.inj z
        exact n1 (List.mem_map.mpr ⟨(k, v), e, z'.symm⟩)
      rw [valV_neg (p := (Sum.inr p.1, V.int p.2)) ne]
      exact dk_some n2 e
theorem dk_none : ∀ {ks : List Row} {k : Str}, k ∉ ks.map (·.1) → valV (dk ks) (Sum.inr k) = none
  | [], _, _ => rfl
  | p :: ks, k, h => by
    have ne : ¬ (Sum.inr p.1 : Key) = Sum.inr k := fun z => h (List.mem_map.mpr ⟨p, List.mem_cons_self, Sum.inr.inj z⟩)
    show valV ((Sum.inr p.1, V.int p.2) :: dk ks) (Sum.inr k) = _
    rw [valV_neg (p := (Sum.inr p.1, V.int p.2)) ne]
    exact dk_none fun z => h (List.mem_cons_of_mem _ z)
theorem dk_put {ks : List Row} {k : Str} (v : Int) (h : k ∉ ks.map (·.1)) : putK (dk ks) (Sum.inr k) (.int v) = dk (ks ++ [(k, v)]) := by
  rw [putK_new _ (dk_none h)]
  unfold dk
  rw [List.map_append]
  rfl
abbrev cutK (ks : List Row) (k : Str) : List Row := ks.filter fun p => decide (p.1 ≠ k)
theorem dk_drop : ∀ (ks : List Row) (k : Str), dropK (dk ks) (Sum.inr k) = dk (cutK ks k)
  | [], _ => rfl
  | p :: ks, k => by
    have ih := dk_drop ks k
    show dropK ((Sum.inr p.1, V.int p.2) :: dk ks) (Sum.inr k) = _
    unfold cutK
    rw [List.filter_cons]
    by_cases e : p.1 = k
    · rw [dropK_pos (p := (Sum.inr p.1, V.int p.2)) (by rw [e]), if_neg (by simp [e]), ih]
    · rw [dropK_neg (p := (Sum.inr p.1, V.int p.2)) (fun z => e (Sum.inr.inj z)), if_pos (by simp [e]), ih]
      rfl
theorem cut_mem {ks : List Row} {k : Str} {p : Row} : p ∈ cutK ks k ↔ p ∈ ks ∧ p.1 ≠ k := by
  unfold cutK
  rw [List.mem_filter]
  simp
theorem cut_nd {ks : List Row} {k : Str} (nd : (ks.map (·.1)).Nodup) : ((cutK ks k).map (·.1)).Nodup := by
  exact nd.sublist ((List.filter_sublist).map _)
theorem cut_out {ks : List Row} {k : Str} : k ∉ (cutK ks k).map (·.1) := by
  intro h
  obtain ⟨p, hp, e⟩ := List.mem_map.mp h
  exact (cut_mem.mp hp).2 e
theorem cut_sum : ∀ {ks : List Row} {k : Str} {v : Int}, (ks.map (·.1)).Nodup → (k, v) ∈ ks → ((cutK ks k).map (·.2)).sum = (ks.map (·.2)).sum - v
  | [], _, _, _, h => by simp at h
  | p :: ks, k, v, nd, h => by
    have nd' : (p.1 :: ks.map (·.1)).Nodup := nd
    obtain ⟨n1, n2⟩ := List.nodup_cons.mp nd'
    unfold cutK
    rw [List.filter_cons]
    rcases List.mem_cons.mp h with e | e
    · subst e
      have no : cutK ks k = ks := by
        unfold cutK
        refine List.filter_eq_self.mpr fun q hq => ?_
        have : q.1 ≠ k := fun z => n1 (List.mem_map.mpr ⟨q, hq, z⟩)
        simp [this]
      unfold cutK at no
      rw [if_neg (by simp), no]
      simp only [List.map_cons, List.sum_cons]
      omega
    · have ne : p.1 ≠ k := fun z => n1 (List.mem_map.mpr ⟨(k, v), e, z.symm⟩)
      have ih := cut_sum n2 e
      unfold cutK at ih
      rw [if_pos (by simp [ne])]
      simp only [List.map_cons, List.sum_cons, ih]
      omega
theorem snoc_nd {ks : List Row} {k : Str} {v : Int} (nd : (ks.map (·.1)).Nodup) (h : k ∉ ks.map (·.1)) : ((ks ++ [(k, v)]).map (·.1)).Nodup := by
  rw [List.map_append]
  exact nd_snoc nd h
theorem snoc_sum (ks : List Row) (k : Str) (v : Int) : ((ks ++ [(k, v)]).map (·.2)).sum = (ks.map (·.2)).sum + v := by
  rw [List.map_append, List.sum_append]
  simp
theorem key_mem {ks : List Row} {k : Str} (h : k ∈ ks.map (·.1)) : ∃ v, (k, v) ∈ ks := by
  obtain ⟨⟨k', v⟩, hp, e⟩ := List.mem_map.mp h
  cases e
  exact ⟨v, hp⟩
theorem mem_key {ks : List Row} {k : Str} {v : Int} (h : (k, v) ∈ ks) : k ∈ ks.map (·.1) := List.mem_map.mpr ⟨(k, v), h, rfl⟩
theorem one_val {ks : List Row} {k : Str} {v v' : Int} (nd : (ks.map (·.1)).Nodup) (h : (k, v) ∈ ks) (h' : (k, v') ∈ ks) : v = v' := by
  have a := dk_some nd h
  rw [dk_some nd h'] at a
  injection a with a
  injection a with a
  exact a.symm
theorem few {ks : List Row} (nd : (ks.map (·.1)).Nodup) (h : ∀ p ∈ ks, KOk p.1) : ks.length ≤ 12 := by
  have q := nd.length_le_of_subset (l₂ := keys12) fun k hk => by
    obtain ⟨p, hp, e⟩ := List.mem_map.mp hk
    rw [← e]; exact h p hp
  rw [List.length_map] at q
  exact q

/-! ### one write -/
theorem wr_out {f : Fn} {c : Cov} {ks : List Row} {w : Wr} (K : KnOf f c ks) (h : inC c w.1 = false) : KnOf (wr f w) c ks := by
  refine ⟨K.nd, fun k v => ?_⟩
  rw [K.mem]
  unfold wr
  by_cases e : k = w.1
  · subst e
    rw [h]; simp
  · rw [if_neg e]
theorem wr_cut {f : Fn} {c : Cov} {ks : List Row} {k : Str} (K : KnOf f c ks) : KnOf (wr f (k, none)) c (cutK ks k) := by
  refine ⟨cut_nd K.nd, fun k' v => ?_⟩
  rw [cut_mem, K.mem]
  unfold wr
  by_cases e : k' = k
  · subst e
    simp
  · simp [e]
theorem wr_none {f : Fn} {c : Cov} {ks : List Row} {k : Str} (K : KnOf f c ks) (hc : inC c k = true) (h : k ∉ ks.map (·.1)) : f k = none := by
  cases e : f k with
  | none => rfl
  | some v => exact absurd (mem_key ((K.mem k v).mpr ⟨e, hc⟩)) h
theorem wr_same {f : Fn} {k : Str} (h : f k = none) : wr f (k, none) = f := by
  funext x
  unfold wr
  by_cases e : x = k
  · subst e; simp [h]
  · simp [e]
theorem wr_wr (f : Fn) (k : Str) (v : Option Int) : wr (wr f (k, none)) (k, v) = wr f (k, v) := by
  funext x
  unfold wr
  by_cases e : x = k
  · simp [e]
  · simp [e]
theorem wr_add {g : Fn} {c : Cov} {ks : List Row} {k : Str} {v : Int} (K : KnOf g c ks) (hc : inC c k = true) (h : k ∉ ks.map (·.1)) : KnOf (wr g (k, some v)) c (ks ++ [(k, v)]) := by
  refine ⟨snoc_nd K.nd h, fun k' v' => ?_⟩
  rw [List.mem_append, List.mem_singleton, K.mem]
  have gk := wr_none K hc h
  unfold wr
  by_cases e : k' = k
  · subst e
    rw [gk]
    simp [hc]
    exact ⟨fun e => e.symm, fun e => e.symm⟩
  · simp [e]

/-! ### the sorted list of a view -/
theorem it_new {q : Qu} {ks : List Row} {its : List (V × V)} {k : Str} {v : Int} (I : ItemsOk q ks its) (h : k ∉ ks.map (·.1)) : q.enc (k, v) ∉ its := by
  intro z
  obtain ⟨p, hp, _, e⟩ := (I.mem _).mp z
  have e' := enc_inj e
  exact h (List.mem_map.mpr ⟨p, hp, by rw [← e']⟩)
theorem it_cmp {q : Qu} {ks : List Row} {its : List (V × V)} (I : ItemsOk q ks its) (p : Row) : ∀ y ∈ its, cmpP (q.enc p) y = true := fun y hy => by
  obtain ⟨p', _, _, e⟩ := (I.mem y).mp hy
  rw [e]; exact cmp_enc q p p'
theorem it_add {q : Qu} {ks : List Row} {its : List (V × V)} {k : Str} {v : Int} {n : Nat} (I : ItemsOk q ks its) (h : k ∉ ks.map (·.1)) (hp : q.pass v = true) (P : PlaceOf its (q.enc (k, v)) n) :
    ItemsOk q (ks ++ [(k, v)]) (its.take n ++ [q.enc (k, v)] ++ its.drop n) := by
  refine ⟨ins_so I.so P (it_new I h) (it_cmp I _), fun x => ?_⟩
  rw [ins_mem, I.mem]
  constructor
  · rintro (e | ⟨p, a, b, c⟩)
    · exact ⟨(k, v), by simp, hp, e⟩
    · exact ⟨p, List.mem_append_left _ a, b, c⟩
  · rintro ⟨p, a, b, c⟩
    rcases List.mem_append.mp a with a | a
    · exact .inr ⟨p, a, b, c⟩
    · rw [List.mem_singleton.mp a] at c; exact .inl c
theorem it_add_no {q : Qu} {ks : List Row} {its : List (V × V)} {k : Str} {v : Int} (I : ItemsOk q ks its) (hp : q.pass v = false) : ItemsOk q (ks ++ [(k, v)]) its := by
  refine ⟨I.so, fun x => ?_⟩
  rw [I.mem]
  constructor
  · rintro ⟨p, a, b, c⟩
    exact ⟨p, List.mem_append_left _ a, b, c⟩
  · rintro ⟨p, a, b, c⟩
    rcases List.mem_append.mp a with a | a
    · exact ⟨p, a, b, c⟩
    · rw [List.mem_singleton.mp a] at b
      rw [hp] at b; cases b
theorem it_at {q : Qu} {ks : List Row} {its : List (V × V)} {k : Str} {v : Int} {n : Nat} (I : ItemsOk q ks its) (h : (k, v) ∈ ks) (hp : q.pass v = true) (P : PlaceOf its (q.enc (k, v)) n) : its[n]? = some (q.enc (k, v)) :=
  at_place P ((I.mem _).mpr ⟨(k, v), h, hp, rfl⟩) I.so
theorem it_del {q : Qu} {ks : List Row} {its : List (V × V)} {k : Str} {v : Int} {n : Nat} (I : ItemsOk q ks its) (nd : (ks.map (·.1)).Nodup) (h : (k, v) ∈ ks) (e : its[n]? = some (q.enc (k, v))) : ItemsOk q (cutK ks k) (its.eraseIdx n) := by
  refine ⟨del_so I.so, fun x => ?_⟩
  rw [del_mem (its_nodup I.so) e, I.mem]
  constructor
  · rintro ⟨⟨p, a, b, c⟩, ne⟩
    refine ⟨p, cut_mem.mpr ⟨a, fun z => ne ?_⟩, b, c⟩
    obtain ⟨k', v'⟩ := p
    cases z
    rw [c, one_val nd a h]
  · rintro ⟨p, a, b, c⟩
    obtain ⟨a1, a2⟩ := cut_mem.mp a
    refine ⟨⟨p, a1, b, c⟩, fun z => a2 ?_⟩
    have := enc_inj (c.symm.trans z)
    rw [this]
theorem it_del_no {q : Qu} {ks : List Row} {its : List (V × V)} {k : Str} {v : Int} (I : ItemsOk q ks its) (nd : (ks.map (·.1)).Nodup) (h : (k, v) ∈ ks) (hp : q.pass v = false) : ItemsOk q (cutK ks k) its := by
  refine ⟨I.so, fun x => ?_⟩
  rw [I.mem]
  constructor
  · rintro ⟨p, a, b, c⟩
    refine ⟨p, cut_mem.mpr ⟨a, fun z => ?_⟩, b, c⟩
    obtain ⟨k', v'⟩ := p
    cases z
    rw [one_val nd a h, hp] at b
    cases b
  · rintro ⟨p, a, b, c⟩
    exact ⟨p, (cut_mem.mp a).1, b, c⟩
theorem it_nil (q : Qu) : ItemsOk q [] [] := ⟨List.Pairwise.nil, fun x => by simp⟩
theorem it_few {q : Qu} {ks : List Row} {its : List (V × V)} (I : ItemsOk q ks its) (nd : (ks.map (·.1)).Nodup) (h : ∀ p ∈ ks, KOk p.1) : its.length ≤ 12 := by
  have q1 := (its_nodup I.so).length_le_of_subset (l₂ := ks.map q.enc) fun x hx => by
    obtain ⟨p, a, _, c⟩ := (I.mem x).mp hx
    exact List.mem_map.mpr ⟨p, a, c.symm⟩
  rw [List.length_map] at q1
  exact Nat.le_trans q1 (few nd h)
end LH
namespace LH
open PySem PySem.Spec L2

/-! ### what a view answers is what the law reckons -/
theorem it_rows {f : Fn} {c : Cov} {ks rs : List Row} {q : Qu} {its : List (V × V)} (K : KnOf f c ks) (R : RowsOf f c rs) (I : ItemsOk q ks its) : ItemsOk q rs its := by
  refine ⟨I.so, fun x => ?_⟩
  rw [I.mem]
  constructor
  · rintro ⟨⟨k, v⟩, a, b⟩
    exact ⟨(k, v), (R.mem k v).mpr ((K.mem k v).mp a), b⟩
  · rintro ⟨⟨k, v⟩, a, b⟩
    exact ⟨(k, v), (K.mem k v).mpr ((R.mem k v).mp a), b⟩
theorem decode {q : Qu} : ∀ {its : List (V × V)}, (∀ x ∈ its, ∃ p, x = q.enc p) → ∃ rk : List Row, its = rk.map q.enc
  | [], _ => ⟨[], rfl⟩
  | x :: r, h => by
    obtain ⟨p, rfl⟩ := h x List.mem_cons_self
    obtain ⟨rk, rfl⟩ := decode (q := q) (its := r) fun y hy => h y (List.mem_cons_of_mem _ hy)
    exact ⟨p :: rk, rfl⟩
theorem it_decode {q : Qu} {ks : List Row} {its : List (V × V)} (I : ItemsOk q ks its) : ∃ rk : List Row, its = rk.map q.enc := decode fun x hx => by
  obtain ⟨p, _, _, e⟩ := (I.mem x).mp hx
  exact ⟨p, e⟩
theorem map_enc_inj {q : Qu} : ∀ {a b : List Row}, a.map q.enc = b.map q.enc → a = b
  | [], [], _ => rfl
  | [], _ :: _, h => by simp at h
  | _ :: _, [], h => by simp at h
  | x :: a, y :: b, h => by
    rw [List.map_cons, List.map_cons] at h
    injection h with h1 h2
    rw [enc_inj h1, map_enc_inj h2]
theorem nd_of_map : ∀ {l : List Row}, (l.map (·.1)).Nodup → l.Nodup
  | [], _ => List.nodup_nil
  | p :: l, h => by
    have h' : (p.1 :: l.map (·.1)).Nodup := h
    obtain ⟨h1, h2⟩ := List.nodup_cons.mp h'
    exact List.nodup_cons.mpr ⟨fun m => h1 (List.mem_map.mpr ⟨p, m, rfl⟩), nd_of_map h2⟩
theorem rows_perm {f : Fn} {c : Cov} {ks rs : List Row} (K : KnOf f c ks) (R : RowsOf f c rs) : ks.Perm rs := by
  have nd : ks.Nodup := nd_of_map K.nd
  exact (List.perm_ext_iff_of_nodup nd (rows_nodup R)).mpr fun ⟨k, v⟩ => by rw [K.mem, R.mem]
theorem perm_sum : ∀ {a b : List Int}, a.Perm b → a.sum = b.sum := by
  intro a b h
  induction h with
  | nil => rfl
  | cons x _ ih => simp only [List.sum_cons, ih]
  | swap x y l => simp only [List.sum_cons]; omega
  | trans _ _ ih1 ih2 => exact ih1.trans ih2
theorem ans_count {f : Fn} {a b : Str} {ks : List Row} (K : KnOf f (a, b) ks) : IsAns f (.count a b) (.int ks.length) := fun rs R => by
  show Ans.int _ = Ans.int _
  rw [(rows_perm K R).length_eq]
theorem ans_sum {f : Fn} {a b : Str} {ks : List Row} (K : KnOf f (a, b) ks) : IsAns f (.sum a b) (.int (ks.map (·.2)).sum) := fun rs R => by
  show Ans.int _ = Ans.int _
  rw [perm_sum ((rows_perm K R).map (·.2))]
theorem ans_get {f : Fn} {k : Str} {ks : List Row} (K : KnOf f (k, k) ks) (H : Hp) : ∃ a, AnsAt H ((valV (dk ks) (Sum.inr k)).getD .non) a ∧ IsAns f (.get k) a := by
  have only : ∀ rs, RowsOf f (k, k) rs → ∀ p ∈ rs, p.1 = k := fun rs R p hp => by
    have q := ((R.mem p.1 p.2).mp hp).2
    unfold inC at q
    rw [Bool.and_eq_true] at q
    exact kle_anti q.2 q.1
  have self : inC (k, k) k = true := by unfold inC; rw [kle_refl]; rfl
  by_cases h : k ∈ ks.map (·.1)
  · obtain ⟨v, hv⟩ := key_mem h
    refine ⟨.int v, by rw [dk_some K.nd hv]; rfl, fun rs R => ?_⟩
    have m := (R.mem k v).mpr ((K.mem k v).mp hv)
    cases rs with
    | nil => simp at m
    | cons p r =>
      show Ans.int v = Ans.int p.2
      have e := only _ R p List.mem_cons_self
      have fp := ((R.mem p.1 p.2).mp List.mem_cons_self).1
      rw [e, ((K.mem k v).mp hv).1] at fp
      rw [Option.some.inj fp]
  · refine ⟨.non, by rw [dk_none h]; rfl, fun rs R => ?_⟩
    cases rs with
    | nil => rfl
    | cons p r =>
      have e := only _ R p List.mem_cons_self
      have q := (R.mem p.1 p.2).mp List.mem_cons_self
      rw [e] at q
      exact absurd (mem_key ((K.mem k p.2).mpr q)) h
theorem ans_list {f : Fn} {a b : Str} {ks : List Row} {its : List (V × V)} (K : KnOf f (a, b) ks) (I : ItemsOk (.list a b) ks its) : ∃ rk : List Row, its = rk.map (Qu.list a b).enc ∧ IsAns f (.list a b) (.rows rk) := by
  obtain ⟨rk, e⟩ := it_decode I
  refine ⟨rk, e, fun rs R => ?_⟩
  show Ans.rows rk = Ans.rows rs
  have I' := it_rows K R I
  have so : (rs.map (Qu.list a b).enc).Pairwise fun x y => ltP x y = true := by
    refine List.pairwise_map.mpr (R.so.imp fun {x y} z => ?_)
    show ltP (.str x.1, .int x.2) (.str y.1, .int y.2) = true
    unfold ltP
    rw [if_neg (fun w => by rw [V.str.inj w, klt_irr] at z; cases z)]
    exact z
  have q := its_one I'.so so fun x => by
    rw [I'.mem, List.mem_map]
    constructor
    · rintro ⟨p, a, _, c⟩; exact ⟨p, a, c.symm⟩
    · rintro ⟨p, a, c⟩; exact ⟨p, a, rfl, c.symm⟩
  rw [e] at q
  rw [map_enc_inj q]
theorem ans_whr {f : Fn} {lo hi : Int} {a b : Str} {ks : List Row} {its : List (V × V)} (K : KnOf f (a, b) ks) (I : ItemsOk (.whr lo hi a b) ks its) : ∃ rk : List Row, its = rk.map (Qu.whr lo hi a b).enc ∧ IsAns f (.whr lo hi a b) (.rows rk) := by
  obtain ⟨rk, e⟩ := it_decode I
  refine ⟨rk, e, fun rs R => ?_⟩
  show Ans.rows rk = Ans.rows (rs.filter fun r => decide (lo ≤ r.2) && decide (r.2 ≤ hi))
  have I' := it_rows K R I
  have so : ((rs.filter fun r => decide (lo ≤ r.2) && decide (r.2 ≤ hi)).map (Qu.whr lo hi a b).enc).Pairwise fun x y => ltP x y = true := by
    refine List.pairwise_map.mpr ((R.so.sublist List.filter_sublist).imp fun {x y} z => ?_)
    show ltP (.str x.1, .int x.2) (.str y.1, .int y.2) = true
    unfold ltP
    rw [if_neg (fun w => by rw [V.str.inj w, klt_irr] at z; cases z)]
    exact z
  have q := its_one I'.so so fun x => by
    rw [I'.mem, List.mem_map]
    constructor
    · rintro ⟨p, a, b, c⟩; exact ⟨p, List.mem_filter.mpr ⟨a, b⟩, c.symm⟩
    · rintro ⟨p, a, c⟩; exact ⟨p, (List.mem_filter.mp a).1, (List.mem_filter.mp a).2, c.symm⟩
  rw [e] at q
  rw [map_enc_inj q]

/-! the least -/
theorem bestOf_snoc (rs : List Row) (p : Row) : bestOf (rs ++ [p]) = best1 (bestOf rs) p := by
  unfold bestOf
  rw [List.foldl_append]
  rfl
abbrev encL (p : Row) : V × V := (.int p.2, .str p.1)
theorem ltL {p q : Row} : ltP (encL p) (encL q) = true ↔ p.2 < q.2 ∨ (p.2 = q.2 ∧ klt p.1 q.1 = true) := by
  unfold ltP
  by_cases e : p.2 = q.2
  · rw [if_pos (show (encL p).1 = (encL q).1 from by show V.int p.2 = V.int q.2; rw [e])]
    show klt p.1 q.1 = true ↔ _
    constructor
    · exact fun h => .inr ⟨e, h⟩
    · rintro (h | h)
      · omega
      · exact h.2
  · rw [if_neg (show ¬ (encL p).1 = (encL q).1 from fun z => e (V.int.inj z))]
    show decide (p.2 < q.2) = true ↔ _
    rw [decide_eq_true_eq]
    constructor
    · exact fun h => .inl h
    · rintro (h | h)
      · exact h
      · exact absurd h.1 e
theorem best_ok : ∀ (n : Nat) (rs : List Row), rs.length = n → rs.Pairwise (fun p q => klt p.1 q.1 = true) → (bestOf rs = none ∧ rs = []) ∨ ∃ p, bestOf rs = some p ∧ p ∈ rs ∧ ∀ p' ∈ rs, p' = p ∨ ltP (encL p) (encL p') = true
  | 0, rs, hn, _ => .inl (by
      have e : rs = [] := List.eq_nil_of_length_eq_zero hn
      subst e
      exact ⟨rfl, rfl⟩)
  | n + 1, rs, hn, so => by
    have ne : rs ≠ [] := fun z => by rw [z] at hn; simp at hn
    obtain ⟨pre, x, rfl⟩ : ∃ pre x, rs = pre ++ [x] := ⟨rs.dropLast, rs.getLast ne, (List.dropLast_concat_getLast ne).symm⟩
    obtain ⟨so1, _, so3⟩ := List.pairwise_append.mp so
    have hl : pre.length = n := by simpa using hn
    right
    rw [bestOf_snoc]
    rcases best_ok n pre hl so1 with ⟨e, rfl⟩ | ⟨p, e, hp, hmin⟩
    · rw [e]
      exact ⟨x, rfl, by simp, fun p' h => .inl (by simpa using h)⟩
    · rw [e]
      show ∃ p_1, (if x.2 < p.2 then some x else some p) = some p_1 ∧ _
      by_cases c : x.2 < p.2
      · rw [if_pos c]
        refine ⟨x, rfl, by simp, fun p' h => ?_⟩
        rcases List.mem_append.mp h with h | h
        · right
          have xp : ltP (encL x) (encL p) = true := ltL.mpr (.inl c)
          rcases hmin p' h with rfl | z
          · exact xp
          · exact ltP_trans xp z
        · exact .inl (List.mem_singleton.mp h)
      · rw [if_neg c]
        refine ⟨p, rfl, List.mem_append_left _ hp, fun p' h => ?_⟩
        rcases List.mem_append.mp h with h | h
        · exact hmin p' h
        · right
          rw [List.mem_singleton.mp h]
          refine ltL.mpr ?_
          by_cases d : p.2 < x.2
          · exact .inl d
          · exact .inr ⟨by omega, so3 p hp x (by simp)⟩
theorem ans_least0 {f : Fn} {a b : Str} {ks : List Row} (K : KnOf f (a, b) ks) (I : ItemsOk (.least a b) ks []) : IsAns f (.least a b) .non := fun rs R => by
  have I' := it_rows K R I
  have e : rs = [] := by
    cases rs with
    | nil => rfl
    | cons p r => exact absurd ((I'.mem _).mpr ⟨p, List.mem_cons_self, rfl, rfl⟩) (by simp)
  subst e
  rfl
theorem ans_least1 {f : Fn} {a b : Str} {ks : List Row} {p : Row} {r : List (V × V)} (K : KnOf f (a, b) ks) (I : ItemsOk (.least a b) ks ((.int p.2, .str p.1) :: r)) : IsAns f (.least a b) (.pair p) := fun rs R => by
  have I' := it_rows K R I
  have pm : p ∈ rs := by
    obtain ⟨p', h, _, e⟩ := (I'.mem _).mp List.mem_cons_self
    have e' : p = p' := enc_inj (q := .least a b) e
    rw [e']; exact h
  rcases best_ok _ rs rfl R.so with ⟨_, rfl⟩ | ⟨m, e, hm, hmin⟩
  · simp at pm
  · show Ans.pair p = (match bestOf rs with | none => .non | some p => .pair p)
    rw [e]
    show Ans.pair p = Ans.pair m
    rcases hmin p pm with z | z
    · rw [z]
    · have hx : encL m ∈ encL p :: r := (I'.mem _).mpr ⟨m, hm, rfl, rfl⟩
      rcases List.mem_cons.mp hx with w | w
      · rw [enc_inj (q := .least a b) w]
      · have y := List.rel_of_pairwise_cons I'.so w
        rw [ltP_asymm y] at z; cases z

/-! the greatest -/
abbrev encT (p : Row) : V × V := (.int (-p.2), .str p.1)
theorem rankOf_snoc (rs : List Row) (p : Row) : rankOf (rs ++ [p]) = rank1 (rankOf rs) p := by
  unfold rankOf
  rw [List.foldl_append]
  rfl
theorem filter_place {α : Type} {b : α → Bool} : ∀ {l : List α}, l.Pairwise (fun x y => b y = true → b x = true) → ∀ (j : Nat) (y : α), l[j]? = some y → (b y = true ↔ j < (l.filter b).length)
  | [], _, _, _, h => by simp at h
  | x :: l, hl, j, y, h => by
    obtain ⟨h1, h2⟩ := List.pairwise_cons.mp hl
    rw [List.filter_cons]
    by_cases bx : b x = true
    · rw [if_pos bx, List.length_cons]
      cases j with
      | zero =>
        have e : x = y := Option.some.inj h
        subst e
        simp [bx]
      | succ j =>
        have q := filter_place h2 j y h
        rw [q]; omega
    · rw [if_neg bx]
      have no : l.filter b = [] := List.filter_eq_nil_iff.mpr fun z hz bz => bx (h1 z hz bz)
      rw [no]
      cases j with
      | zero =>
        have e : x = y := Option.some.inj h
        subst e
        simp [bx]
      | succ j =>
        have hm : y ∈ l := List.mem_iff_getElem?.mpr ⟨j, h⟩
        have : ¬ b y = true := fun z => bx (h1 y hm z)
        simp [this]
theorem ltT {p q : Row} : ltP (encT p) (encT q) = true ↔ q.2 < p.2 ∨ (p.2 = q.2 ∧ klt p.1 q.1 = true) := by
  unfold ltP
  by_cases e : p.2 = q.2
  · rw [if_pos (show (encT p).1 = (encT q).1 from by show V.int (-p.2) = V.int (-q.2); rw [e])]
    show klt p.1 q.1 = true ↔ _
    constructor
    · exact fun h => .inr ⟨e, h⟩
    · rintro (h | h)
      · omega
      · exact h.2
  · rw [if_neg (show ¬ (encT p).1 = (encT q).1 from fun z => e (by have := V.int.inj z; omega))]
    show decide (-p.2 < -q.2) = true ↔ _
    rw [decide_eq_true_eq]
    constructor
    · exact fun h => .inl (by omega)
    · rintro (h | h)
      · omega
      · exact absurd h.1 e
theorem rank_ok : ∀ (n : Nat) (rs : List Row), rs.length = n → rs.Pairwise (fun p q => klt p.1 q.1 = true) → ((rankOf rs).map encT).Pairwise (fun x y => ltP x y = true) ∧ ∀ p, p ∈ rankOf rs ↔ p ∈ rs
  | 0, rs, hn, _ => by
    have e : rs = [] := List.eq_nil_of_length_eq_zero hn
    subst e
    exact ⟨List.Pairwise.nil, fun p => Iff.rfl⟩
  | n + 1, rs, hn, so => by
    have ne : rs ≠ [] := fun z => by rw [z] at hn; simp at hn
    obtain ⟨pre, x, rfl⟩ : ∃ pre x, rs = pre ++ [x] := ⟨rs.dropLast, rs.getLast ne, (List.dropLast_concat_getLast ne).symm⟩
    obtain ⟨so1, _, so3⟩ := List.pairwise_append.mp so
    have hl : pre.length = n := by simpa using hn
    obtain ⟨i1, i2⟩ := rank_ok n pre hl so1
    rw [rankOf_snoc]
    generalize rankOf pre = rk at i1 i2
    have mono : rk.Pairwise fun a b => decide (x.2 ≤ b.2) = true → decide (x.2 ≤ a.2) = true := by
      refine (List.pairwise_map.mp i1).imp fun {a b} z w => ?_
      rw [decide_eq_true_eq] at *
      rcases ltT.mp z with z | z
      · omega
      · omega
    have P : PlaceOf (rk.map encT) (encT x) (rk.filter fun r => decide (x.2 ≤ r.2)).length := by
      have at_ : ∀ j y, (rk.map encT)[j]? = some y → ∃ r, rk[j]? = some r ∧ y = encT r := fun j y hy => by
        rw [List.getElem?_map] at hy
        cases e : rk[j]? with
        | none => rw [e] at hy; cases hy
        | some r => rw [e] at hy; exact ⟨r, e, (Option.some.inj hy).symm⟩
      refine ⟨by rw [List.length_map]; exact List.length_filter_le _ _, fun j y hj hy => ?_, fun j y hj hy => ?_⟩
      · obtain ⟨r, hr, rfl⟩ := at_ j y hy
        have q := (filter_place mono j r hr).mpr hj
        rw [decide_eq_true_eq] at q
        have rm : r ∈ pre := (i2 r).mp (List.mem_iff_getElem?.mpr ⟨j, hr⟩)
        refine ltT.mpr ?_
        by_cases c : x.2 < r.2
        · exact .inl c
        · exact .inr ⟨by omega, so3 r rm x (by simp)⟩
      · obtain ⟨r, hr, rfl⟩ := at_ j y hy
        have q : ¬ decide (x.2 ≤ r.2) = true := fun z => by
          have := (filter_place mono j r hr).mp z
          omega
        rw [decide_eq_true_eq] at q
        cases e : ltP (encT r) (encT x) with
        | false => rfl
        | true =>
          rcases ltT.mp e with z | z
          · omega
          · omega
    have xn : encT x ∉ rk.map encT := fun h => by
      obtain ⟨r, hr, e⟩ := List.mem_map.mp h
      have e' : r = x := enc_inj (q := .top 1 "" "") e
      rw [e'] at hr
      have z := so3 x ((i2 x).mp hr) x (by simp)
      rw [klt_irr] at z; cases z
    have ins := ins_so i1 P xn fun y hy => by
      obtain ⟨r, _, e⟩ := List.mem_map.mp hy
      rw [← e]; rfl
    refine ⟨?_, fun p => ?_⟩
    · unfold rank1
      rw [List.map_append, List.map_append, List.map_take, List.map_drop]
      exact ins
    · unfold rank1
      have e : p ∈ rk ↔ p ∈ rk.take (rk.filter fun r => decide (x.2 ≤ r.2)).length ∨ p ∈ rk.drop (rk.filter fun r => decide (x.2 ≤ r.2)).length := by
        conv => lhs; rw [← List.take_append_drop (rk.filter fun r => decide (x.2 ≤ r.2)).length rk]
        exact List.mem_append
      simp only [List.mem_append, List.mem_singleton]
      rw [← i2 p, e]
      constructor
      · rintro ((h | h) | h)
        · exact .inl (.inl h)
        · exact .inr h
        · exact .inl (.inr h)
      · rintro ((h | h) | h)
        · exact .inl (.inl h)
        · exact .inr h
        · exact .inl (.inr h)
theorem ans_top {f : Fn} {n : Nat} {a b : Str} {ks : List Row} {its : List (V × V)} (K : KnOf f (a, b) ks) (I : ItemsOk (.top n a b) ks its) : ∃ rk : List Row, its = rk.map encT ∧ IsAns f (.top n a b) (.rows (rk.take n)) := by
  obtain ⟨rk, e⟩ := it_decode I
  refine ⟨rk, e, fun rs R => ?_⟩
  show Ans.rows (rk.take n) = Ans.rows ((rankOf rs).take n)
  have I' := it_rows K R I
  obtain ⟨r1, r2⟩ := rank_ok _ rs rfl R.so
  have q := its_one I'.so r1 fun x => by
    rw [I'.mem, List.mem_map]
    constructor
    · rintro ⟨p, a, _, c⟩; exact ⟨p, (r2 p).mpr a, c.symm⟩
    · rintro ⟨p, a, c⟩; exact ⟨p, (r2 p).mp a, rfl, c.symm⟩
  rw [e] at q
  rw [map_enc_inj (q := .top n a b) q]
end LH
/-! The defs of records.py and views.py: covers, places in a sorted list. -/
namespace LH
open PySem PySem.Spec L2
open PyProof.Rows (envOfC)

def top (i : Nat) : Stmt := PySem.Challenge.pw_leasehall_k47_whole_boards.main.body.getD i (.Pass ⟨0, 0, 0, 0⟩)

/-! ### a def of the text behind the top, by its promise -/
structure DefIn (K : PySem.W.Frag) (mg : Str → Option Value) (x : Str) (st : Stmt) (ps : List Str) : Prop where
  ex : ∃ (f : Addr) (fd : FuncData), Fun K x x st f fd ∧ mg x = some (.ref f) ∧ Binds K fd ps []
structure MetIn (K : PySem.W.Frag) (C : Addr) (m qual : Str) (st : Stmt) (ps : List Str) : Prop where
  ex : ∃ (f : Addr) (fd : FuncData), Cls K C ∧ Meth K C m f ∧ Fun K m qual st f fd ∧ Binds K fd ps []
/-- the built-in names that the module leaves as they are -/
structure Bl (mg : Str → Option Value) : Prop where
  len : mg "len" = none
  sorted : mg "sorted" = none
  sum : mg "sum" = none
  int : mg "int" = none
  list : mg "list" = none
  tuple : mg "tuple" = none
  isinstance : mg "isinstance" = none
  str : mg "str" = none
  bool : mg "bool" = none
  range : mg "range" = none
  ValueError : mg "ValueError" = none
section
variable {P : Program} {w : World} {K : PySem.W.Frag} {mg : Str → Option Value} {base : Heap}
theorem cl_of {x : Str} {st : Stmt} {N ps : List Str} {k : Nat} {sp : Sp} (D : DefIn K mg x st ps) (S : FnScope N ps (defScope st)) (len : ∀ vs H Q E, sp vs H Q E → vs.length = ps.length)
    (hbody : ∀ (f : Addr) (cdv : Value) (A : Around) (outer : List Env) (s : Shared) (H : Hp) (vs : List V) (Q : VK) (E : XK), Room k (A.deeper (envOfC x (defScope st) s.heap.objs.size f cdv)) → sp vs H Q E →
      ∃ t, PSs (cxOf CX0 P w K mg base N x (defScope st) f cdv A outer s H E).nox (defBody st) t ∧ t { nx := fun _ H' => Q .non H', rt := Q } (start N vs) H) : Cl P w K mg base (k + 1) x sp := by
  obtain ⟨f, fd, F, hm, b⟩ := D.ex
  exact ⟨f, fd, ps, F.ok S len (hbody f), hm, F.kp, b⟩
theorem mt_of {C : Addr} {x qual : Str} {st : Stmt} {N ps : List Str} {k : Nat} {sp : Sp} (D : MetIn K C x qual st ps) (S : FnScope N ps (defScope st)) (len : ∀ vs H Q E, sp vs H Q E → vs.length = ps.length)
    (hbody : ∀ (f : Addr) (cdv : Value) (A : Around) (outer : List Env) (s : Shared) (H : Hp) (vs : List V) (Q : VK) (E : XK), Room k (A.deeper (envOfC qual (defScope st) s.heap.objs.size f cdv)) → sp vs H Q E →
      ∃ t, PSs (cxOf CX0 P w K mg base N qual (defScope st) f cdv A outer s H E).nox (defBody st) t ∧ t { nx := fun _ H' => Q .non H', rt := Q } (start N vs) H) : Mt P w K mg base (k + 1) C x sp := by
  obtain ⟨f, fd, hc, hm, F, b⟩ := D.ex
  exact ⟨f, fd, ps, hc, hm, F.ok S len (hbody f), b⟩
theorem mtx_of {C : Addr} {x qual : Str} {st : Stmt} {N ps : List Str} {k : Nat} {sp : Sp} (D : MetIn K C x qual st ps) (S : FnScope N ps (defScope st)) (len : ∀ vs H Q E, sp vs H Q E → vs.length = ps.length)
    (hbody : ∀ (f : Addr) (cdv : Value) (A : Around) (outer : List Env) (s : Shared) (H : Hp) (vs : List V) (Q : VK) (E : XK), Room k (A.deeper (envOfC qual (defScope st) s.heap.objs.size f cdv)) → sp vs H Q E →
      ∃ t, PSs (cxOf (L2.CX P w) P w K mg base N qual (defScope st) f cdv A outer s H E) (defBody st) t ∧ t { nx := fun _ H' => Q .non H', rt := Q } (start N vs) H) : MtX P w K mg base (k + 1) C x sp := by
  obtain ⟨f, fd, hc, hm, F, b⟩ := D.ex
  exact ⟨f, fd, ps, hc, hm, F.okX S len (hbody f), b⟩
end
section
variable {P : Program} {w : World} {K : PySem.W.Frag} {mg : Str → Option Value} {base : Heap}
/-! ### contains -/
def spContains : Sp := fun vs H Q _ => ∃ (c : Addr) (a b k : Str), vs = [.ref c, .str k] ∧ H c = some (.tup [.str a, .str b]) ∧ Q (.bl (inC (a, b) k)) H
theorem sc_contains : FnScope ["cover", "key"] ["cover", "key"] (defScope (top 5)) := ⟨rfl, rfl, rfl, by decide +kernel, rfl, by decide +kernel, by decide +kernel⟩
theorem c_contains (D : DefIn K mg "contains" (top 5) ["cover", "key"]) : Cl P w K mg base 1 "contains" spContains := by
  refine cl_of D sc_contains (fun vs H Q E h => ?_) (fun f cdv A outer s H vs Q E hr h => ?_)
  · obtain ⟨c, a, b, k, rfl, _⟩ := h
    rfl
  · obtain ⟨c, a, b, k, rfl, hc, q⟩ := h
    refine ⟨_, (pss_one (ps_ret (pe_chain op_le_str op_le_str (pe_ix ix_tup (pv 0) pe_int (fun _ _ => rfl)) (pv 1) (pe_ix ix_tup (pv 0) pe_int (fun _ _ => rfl))))), ?_⟩
    refine ⟨_, rfl, c, _, _, _, rfl, rfl, .inl (.inl hc), rfl, _, rfl, _, _, rfl, rfl, _, rfl, ?_⟩
    refine ite2 (fun e => ?_) (fun e => ?_)
    · refine ⟨_, rfl, c, _, _, _, rfl, rfl, .inl (.inl hc), rfl, _, _, rfl, rfl, ?_⟩
      have z : inC (a, b) k = kle k b := by unfold inC; rw [show kle a k = true from e]; rfl
      rw [z] at q
      exact q
    · have z : inC (a, b) k = false := by unfold inC; rw [show kle a k = false from Bool.eq_false_iff.mpr e]; rfl
      rw [z] at q
      exact q

/-! ### the cover of a question -/
def Qu.isV : Qu → Bool
  | .top _ _ _ => true
  | .whr _ _ _ _ => true
  | _ => false
def spCover (b : Bool) : Sp := fun vs H Q _ => ∃ (p : Addr) (q : Qu), vs = [.ref p] ∧ H p = some (.tup q.vals) ∧ (b = false → q.isV = false) ∧ ∀ c H', Kp [] H H' → H' c = some (.tup [.str q.cov.1, .str q.cov.2]) → Q (.ref c) H'
theorem sc_cover_of : FnScope ["question"] ["question"] (defScope (top 6)) := ⟨rfl, rfl, rfl, by decide +kernel, rfl, by decide +kernel, by decide +kernel⟩
theorem c_cover_of (D : DefIn K mg "cover_of" (top 6) ["question"]) : Cl P w K mg base 1 "cover_of" (spCover false) := by
  refine cl_of D sc_cover_of (fun vs H Q E h => ?_) (fun f cdv A outer s H vs Q E hr h => ?_)
  · obtain ⟨p, q, rfl, _⟩ := h
    rfl
  · obtain ⟨p, q, rfl, hp, hv, k⟩ := h
    have hv := hv rfl
    refine ⟨_, (pss_cons (ps_if (pt_cmpR op_eq (pe_ix ix_tup (pv 0) pe_int (fun _ _ => rfl)) pe_str (nomark _)) (pss_one (ps_ret (pe_tup (pa_cons (pe_ix ix_tup (pv 0) pe_int (fun _ _ => rfl)) (pa_cons (pe_ix ix_tup (pv 0) pe_int (fun _ _ => rfl)) pa_nil))))) pss_nil)
      (pss_one (ps_ret (pe_tup (pa_cons (pe_ix ix_tup (pv 0) pe_int (fun _ _ => rfl)) (pa_cons (pe_ix ix_tup (pv 0) pe_int (fun _ _ => rfl)) pa_nil)))))), ?_⟩
    have fin : ∀ c, H c = none → Q (.ref c) (upd H c (.tup [.str q.cov.1, .str q.cov.2])) := fun c hc => k c _ (Kp.refl.new hc) upd_same
    cases q with
    | top n a b => cases hv
    | whr lo hi a b => cases hv
    | get a =>
      refine ⟨_, rfl, p, _, _, _, rfl, rfl, .inl (.inl hp), rfl, rfl, true, rfl, iteT ?_⟩
      refine ⟨_, rfl, p, _, _, _, rfl, rfl, .inl (.inl hp), rfl, _, rfl, p, _, _, _, rfl, rfl, .inl (.inl hp), rfl, (by show 2 ≤ sizeLine; decide), fun c hc => fin c hc⟩
    | count a b =>
      refine ⟨_, rfl, p, _, _, _, rfl, rfl, .inl (.inl hp), rfl, rfl, false, (by decide), iteF ?_⟩
      refine ⟨_, rfl, p, _, _, _, rfl, rfl, .inl (.inl hp), rfl, _, rfl, p, _, _, _, rfl, rfl, .inl (.inl hp), rfl, (by show 2 ≤ sizeLine; decide), fun c hc => fin c hc⟩
    | sum a b =>
      refine ⟨_, rfl, p, _, _, _, rfl, rfl, .inl (.inl hp), rfl, rfl, false, (by decide), iteF ?_⟩
      refine ⟨_, rfl, p, _, _, _, rfl, rfl, .inl (.inl hp), rfl, _, rfl, p, _, _, _, rfl, rfl, .inl (.inl hp), rfl, (by show 2 ≤ sizeLine; decide), fun c hc => fin c hc⟩
    | list a b =>
      refine ⟨_, rfl, p, _, _, _, rfl, rfl, .inl (.inl hp), rfl, rfl, false, (by decide), iteF ?_⟩
      refine ⟨_, rfl, p, _, _, _, rfl, rfl, .inl (.inl hp), rfl, _, rfl, p, _, _, _, rfl, rfl, .inl (.inl hp), rfl, (by show 2 ≤ sizeLine; decide), fun c hc => fin c hc⟩
    | least a b =>
      refine ⟨_, rfl, p, _, _, _, rfl, rfl, .inl (.inl hp), rfl, rfl, false, (by decide), iteF ?_⟩
      refine ⟨_, rfl, p, _, _, _, rfl, rfl, .inl (.inl hp), rfl, _, rfl, p, _, _, _, rfl, rfl, .inl (.inl hp), rfl, (by show 2 ≤ sizeLine; decide), fun c hc => fin c hc⟩
theorem sc_view_cover : FnScope ["question"] ["question"] (defScope (top 8)) := ⟨rfl, rfl, rfl, by decide +kernel, rfl, by decide +kernel, by decide +kernel⟩
theorem c_view_cover (D : DefIn K mg "view_cover" (top 8) ["question"]) (c_cover_of : Cl P w K mg base 1 "cover_of" (spCover false)) : Cl P w K mg base 2 "view_cover" (spCover true) := by
  refine cl_of D sc_view_cover (fun vs H Q E h => ?_) (fun f cdv A outer s H vs Q E hr h => ?_)
  · obtain ⟨p, q, rfl, _⟩ := h
    rfl
  · obtain ⟨p, q, rfl, hp, _, k⟩ := h
    refine ⟨_, (pss_cons (ps_if (pt_cmpR op_eq (pe_ix ix_tup (pv 0) pe_int (fun _ _ => rfl)) pe_str (nomark _)) (pss_one (ps_ret (pe_tup (pa_cons (pe_ix ix_tup (pv 0) pe_int (fun _ _ => rfl)) (pa_cons (pe_ix ix_tup (pv 0) pe_int (fun _ _ => rfl)) pa_nil))))) pss_nil)
      (pss_cons (ps_if (pt_cmpR op_eq (pe_ix ix_tup (pv 0) pe_int (fun _ _ => rfl)) pe_str (nomark _)) (pss_one (ps_ret (pe_tup (pa_cons (pe_ix ix_tup (pv 0) pe_int (fun _ _ => rfl)) (pa_cons (pe_ix ix_tup (pv 0) pe_int (fun _ _ => rfl)) pa_nil))))) pss_nil)
      (pss_one (ps_ret (cl_c c_cover_of hr (by decide) (by rfl) (pa_cons (pv 0) pa_nil)))))), ?_⟩
    have fin : ∀ c, H c = none → Q (.ref c) (upd H c (.tup [.str q.cov.1, .str q.cov.2])) := fun c hc => k c _ (Kp.refl.new hc) upd_same
    have other : q.isV = false → tCall (spCover false) [] E0 (tCons (tVar 0) tNil) (start ["question"] [V.ref p]) H Q := fun hv => ⟨_, rfl, p, q, rfl, hp, fun _ => hv, k⟩
    cases q with
    | top n a b =>
      refine ⟨_, rfl, p, _, _, _, rfl, rfl, .inl (.inl hp), rfl, rfl, true, (by decide), iteT ?_⟩
      refine ⟨_, rfl, p, _, _, _, rfl, rfl, .inl (.inl hp), rfl, _, rfl, p, _, _, _, rfl, rfl, .inl (.inl hp), rfl, (by show 2 ≤ sizeLine; decide), fun c hc => fin c hc⟩
    | whr lo hi a b =>
      refine ⟨_, rfl, p, _, _, _, rfl, rfl, .inl (.inl hp), rfl, rfl, false, (by decide), iteF ?_⟩
      refine ⟨_, rfl, p, _, _, _, rfl, rfl, .inl (.inl hp), rfl, rfl, true, (by decide), iteT ?_⟩
      refine ⟨_, rfl, p, _, _, _, rfl, rfl, .inl (.inl hp), rfl, _, rfl, p, _, _, _, rfl, rfl, .inl (.inl hp), rfl, (by show 2 ≤ sizeLine; decide), fun c hc => fin c hc⟩
    | get a =>
      refine ⟨_, rfl, p, _, _, _, rfl, rfl, .inl (.inl hp), rfl, rfl, false, (by decide), iteF ?_⟩
      refine ⟨_, rfl, p, _, _, _, rfl, rfl, .inl (.inl hp), rfl, rfl, false, (by decide), iteF ?_⟩
      exact other rfl
    | count a b =>
      refine ⟨_, rfl, p, _, _, _, rfl, rfl, .inl (.inl hp), rfl, rfl, false, (by decide), iteF ?_⟩
      refine ⟨_, rfl, p, _, _, _, rfl, rfl, .inl (.inl hp), rfl, rfl, false, (by decide), iteF ?_⟩
      exact other rfl
    | sum a b =>
      refine ⟨_, rfl, p, _, _, _, rfl, rfl, .inl (.inl hp), rfl, rfl, false, (by decide), iteF ?_⟩
      refine ⟨_, rfl, p, _, _, _, rfl, rfl, .inl (.inl hp), rfl, rfl, false, (by decide), iteF ?_⟩
      exact other rfl
    | list a b =>
      refine ⟨_, rfl, p, _, _, _, rfl, rfl, .inl (.inl hp), rfl, rfl, false, (by decide), iteF ?_⟩
      refine ⟨_, rfl, p, _, _, _, rfl, rfl, .inl (.inl hp), rfl, rfl, false, (by decide), iteF ?_⟩
      exact other rfl
    | least a b =>
      refine ⟨_, rfl, p, _, _, _, rfl, rfl, .inl (.inl hp), rfl, rfl, false, (by decide), iteF ?_⟩
      refine ⟨_, rfl, p, _, _, _, rfl, rfl, .inl (.inl hp), rfl, rfl, false, (by decide), iteF ?_⟩
      exact other rfl
end
end LH
/-! Places in a sorted list of pairs. -/
namespace LH
open PySem PySem.Spec L2
open PyProof.Rows (envOfC)
theorem small100 {n : Nat} (h : n ≤ 1000) : n ≤ sizeLine := Nat.le_of_lt (small1000 h)
theorem map_erase {α β : Type} (g : α → β) : ∀ (l : List α) (n : Nat), (l.eraseIdx n).map g = (l.map g).eraseIdx n
  | [], n => by simp
  | a :: l, 0 => rfl
  | a :: l, n + 1 => by
    show g a :: (l.eraseIdx n).map g = g a :: (l.map g).eraseIdx n
    rw [map_erase g l n]
theorem items_get {H : Hp} : ∀ {ts : List Addr} {its : List (V × V)}, ItemsAt H ts its → ∀ (j : Nat) (y : V × V), its[j]? = some y → ∃ t, (ts.map V.ref)[j]? = some (.ref t) ∧ H t = some (.tup [y.1, y.2])
  | _, _, .nil, j, y, h => by simp at h
  | t :: ts, p :: its, .cons a r, 0, y, h => by
    cases h
    exact ⟨t, rfl, a⟩
  | t :: ts, p :: its, .cons a r, j + 1, y, h => items_get r j y h
theorem items_len {H : Hp} {ts : List Addr} {its : List (V × V)} (h : ItemsAt H ts its) : (ts.map V.ref).length = its.length := by rw [List.length_map]; exact Paired.length h
section
variable {P : Program} {w : World} {K : PySem.W.Frag} {mg : Str → Option Value} {base : Heap}
/-! ### place_of -/
def spPlace : Sp := fun vs H Q _ => ∃ (l t : Addr) (ts : List Addr) (its : List (V × V)) (x : V × V), vs = [.ref l, .ref t] ∧ H l = some (.lst (ts.map V.ref)) ∧ ItemsAt H ts its ∧ (its.Pairwise fun a b => ltP a b = true) ∧ its.length ≤ 100 ∧
  H t = some (.tup [x.1, x.2]) ∧ (∀ y ∈ its, cmpP y x = true) ∧ ∀ n : Nat, PlaceOf its x n → Q (.int (n : Int)) H
theorem sc_place_of : FnScope ["items", "item", "low", "high", "middle"] ["items", "item"] (defScope (top 9)) := ⟨rfl, rfl, rfl, by decide +kernel, rfl, by decide +kernel, by decide +kernel⟩
theorem c_place_of (T : Bl mg) (D : DefIn K mg "place_of" (top 9) ["items", "item"]) : Cl P w K mg base 1 "place_of" spPlace := by
  refine cl_of D sc_place_of (fun vs H Q E h => ?_) (fun f cdv A outer s H vs Q E hr h => ?_)
  · obtain ⟨l, t, ts, its, x, rfl, _⟩ := h
    rfl
  · obtain ⟨l, t, ts, its, x, rfl, hl, hi, so, hn, ht, hc, q⟩ := h
    have len := items_len hi
    refine ⟨_, (pss_cons (ps_set (i := 2) sc_place_of.nd rfl (Or.inl rfl) pe_int)
      (pss_cons (ps_set (i := 3) sc_place_of.nd rfl (Or.inl rfl) (pe_callB call_len_seq (by rfl) T.len (by decide +kernel) (pa_cons (pv 0) pa_nil)))
      (pss_cons (ps_while PassesOwn.never (pt_cmpR op_lt (pv 2) (pv 3) (nomark _)) (pss_cons (ps_set (i := 4) sc_place_of.nd rfl (Or.inl rfl) (pe_op op_fdiv (pe_op op_add (pv 2) (pv 3)) pe_int))
        (pss_one (ps_if (pt_cmpR (op_ltP hr.units0) (pe_ix ix_list (pv 0) (pv 4) (fun _ _ => rfl)) (pv 1) (nomark _)) (pss_one (ps_set (i := 2) sc_place_of.nd rfl (Or.inl rfl) (pe_op op_add (pv 4) pe_int))) (pss_one (ps_set (i := 3) sc_place_of.nd rfl (Or.inl rfl) (pv 4)))))))
      (pss_one (ps_ret (pv 2)))))), ?_⟩
    refine ⟨_, rfl, l, _, rfl, .inl (SqL.of hl), ?_⟩
    refine ⟨fun m σ H1 => H1 = H ∧ ∃ (lo hi : Nat) (mid : Option V), m = hi - lo ∧ σ = [some (.ref l), some (.ref t), some (.int lo), some (.int hi), mid] ∧ lo ≤ hi ∧ hi ≤ its.length ∧
      (∀ j y, j < lo → its[j]? = some y → ltP y x = true) ∧ (∀ j y, hi ≤ j → its[j]? = some y → ltP y x = false), ⟨its.length, rfl, 0, its.length, none, rfl, by rw [len]; rfl, Nat.zero_le _, Nat.le_refl _, fun j y h => absurd h (Nat.not_lt_zero _), fun j y h e => ?_⟩, fun m σ H1 W => ?_⟩
    · have := (List.getElem?_eq_some_iff.mp e).1
      omega
    · obtain ⟨rfl, lo, hi', mid, rfl, rfl, h1, h2, h3, h4⟩ := W
      refine ⟨_, rfl, _, rfl, _, _, rfl, rfl, _, rfl, ite2 (fun c => ?_) (fun c => ?_)⟩
      · have c' : (lo : Int) < (hi' : Int) := of_decide_eq_true c
        have c2 : lo < hi' := by omega
        refine ⟨fun σ' H' => ∃ m', m' < hi' - lo ∧ H' = H1 ∧ ∃ (lo2 hi2 : Nat) (mid : Option V), m' = hi2 - lo2 ∧ σ' = [some (.ref l), some (.ref t), some (.int lo2), some (.int hi2), mid] ∧ lo2 ≤ hi2 ∧ hi2 ≤ its.length ∧
          (∀ j y, j < lo2 → its[j]? = some y → ltP y x = true) ∧ (∀ j y, hi2 ≤ j → its[j]? = some y → ltP y x = false), fun σ' H' h => h, ?_⟩
        have em : ((lo : Int) + (hi' : Int)) / 2 = (((lo + hi') / 2 : Nat) : Int) := by omega
        have hm : (lo + hi') / 2 < its.length := by omega
        refine ⟨_, rfl, _, rfl, _, _, rfl, rfl, _, _, rfl, rfl, ⟨by decide, by decide⟩, ?_⟩
        obtain ⟨tm, e1, e2⟩ := items_get hi ((lo + hi') / 2) its[(lo + hi') / 2] (by simp [hm])
        have hmem : its[(lo + hi') / 2] ∈ its := List.getElem_mem hm
        have cc := hc _ hmem
        unfold cmpP at cc
        rw [Bool.and_eq_true] at cc
        refine ⟨_, rfl, _, rfl, l, _, _, _, rfl, rfl, SqL.of hl, at_of em e1, _, rfl, tm, t, its[(lo + hi') / 2], x, rfl, rfl, .inl (.inl e2), .inl (.inl ht), cc.1, cc.2, _, rfl, ite2 (fun d => ?_) (fun d => ?_)⟩
        · refine ⟨_, rfl, _, _, rfl, rfl, ?_⟩
          refine ⟨hi' - ((lo + hi') / 2 + 1), by omega, rfl, (lo + hi') / 2 + 1, hi', some (.int (((lo : Int) + (hi' : Int)) / 2)), rfl, ?_, by omega, h2, fun j y hj e => ?_, h4⟩
          · show [some (V.ref l), some (V.ref t), some (V.int (((lo : Int) + (hi' : Int)) / 2 + 1)), some (V.int hi'), some (V.int (((lo : Int) + (hi' : Int)) / 2))] = _
            rw [em]
            rfl
          · exact lt_before (m := (lo + hi') / 2) (y := its[(lo + hi') / 2]) so (by simp [hm]) d j y (by omega) e
        · refine ⟨_, rfl, ?_⟩
          have d' : ltP its[(lo + hi') / 2] x = false := Bool.eq_false_iff.mpr d
          refine ⟨(lo + hi') / 2 - lo, by omega, rfl, lo, (lo + hi') / 2, some (.int (((lo : Int) + (hi' : Int)) / 2)), rfl, ?_, by omega, by omega, h3, fun j y hj e => ?_⟩
          · show [some (V.ref l), some (V.ref t), some (V.int lo), some (V.int (((lo : Int) + (hi' : Int)) / 2)), some (V.int (((lo : Int) + (hi' : Int)) / 2))] = _
            rw [em]
          · exact not_before (m := (lo + hi') / 2) (y := its[(lo + hi') / 2]) so (by simp [hm]) d' j y hj e
      · have c' : ¬ (lo : Int) < (hi' : Int) := fun z => c (decide_eq_true z)
        have e : lo = hi' := by omega
        subst e
        exact ⟨_, rfl, q lo ⟨h2, h3, h4⟩⟩
/-! ### add_item, drop_item -/
def spAdd : Sp := fun vs H Q _ => ∃ (l t : Addr) (ts : List Addr) (its : List (V × V)) (x : V × V), vs = [.ref l, .ref t] ∧ H l = some (.lst (ts.map V.ref)) ∧ ItemsAt H ts its ∧ (its.Pairwise fun a b => ltP a b = true) ∧ its.length ≤ 100 ∧
  H t = some (.tup [x.1, x.2]) ∧ (∀ y ∈ its, cmpP y x = true) ∧ ∀ n : Nat, PlaceOf its x n → Q .non (upd H l (.lst ((ts.take n ++ [t] ++ ts.drop n).map V.ref)))
theorem sc_add_item : FnScope ["items", "item"] ["items", "item"] (defScope (top 10)) := ⟨rfl, rfl, rfl, by decide +kernel, rfl, by decide +kernel, by decide +kernel⟩
theorem c_add_item (D : DefIn K mg "add_item" (top 10) ["items", "item"]) (c_place_of : Cl P w K mg base 1 "place_of" spPlace) : Cl P w K mg base 2 "add_item" spAdd := by
  refine cl_of D sc_add_item (fun vs H Q E h => ?_) (fun f cdv A outer s H vs Q E hr h => ?_)
  · obtain ⟨l, t, ts, its, x, rfl, _⟩ := h
    rfl
  · obtain ⟨l, t, ts, its, x, rfl, hl, hi, so, hn, ht, hc, q⟩ := h
    have len := items_len hi
    refine ⟨_, (pss_one (ps_expr (pe_bm PySem.F.plainAttrs_list PySem.F.slot_list_insert PySem.F.type_list_insert mt_insert (pv 0) (pa_cons (cl_c c_place_of hr (by decide) (by rfl) (pa_cons (pv 0) (pa_cons (pv 1) pa_nil))) (pa_cons (pv 1) pa_nil))))), ?_⟩
    refine ⟨_, rfl, .inl ⟨rfl, _, SqL.of hl⟩, _, rfl, _, rfl, l, t, ts, its, x, rfl, hl, hi, so, hn, ht, hc, fun n hp => ?_⟩
    have hle := hp.le
    refine ⟨_, rfl, l, _, (n : Int), .ref t, rfl, rfl, hl, by rw [len]; exact small1000 (by omega), by omega, by omega, ?_⟩
    have z := q n hp
    rw [List.map_append, List.map_append, List.map_take, List.map_drop] at z
    exact z
def spDrop : Sp := fun vs H Q _ => ∃ (l t : Addr) (ts : List Addr) (its : List (V × V)) (x : V × V), vs = [.ref l, .ref t] ∧ H l = some (.lst (ts.map V.ref)) ∧ ItemsAt H ts its ∧ (its.Pairwise fun a b => ltP a b = true) ∧ its.length ≤ 100 ∧
  H t = some (.tup [x.1, x.2]) ∧ (∀ y ∈ its, cmpP y x = true) ∧ x ∈ its ∧ ∀ n : Nat, its[n]? = some x → ∀ v, Q v (upd H l (.lst ((ts.eraseIdx n).map V.ref)))
theorem sc_drop_item : FnScope ["items", "item"] ["items", "item"] (defScope (top 11)) := ⟨rfl, rfl, rfl, by decide +kernel, rfl, by decide +kernel, by decide +kernel⟩
theorem c_drop_item (D : DefIn K mg "drop_item" (top 11) ["items", "item"]) (c_place_of : Cl P w K mg base 1 "place_of" spPlace) : Cl P w K mg base 2 "drop_item" spDrop := by
  refine cl_of D sc_drop_item (fun vs H Q E h => ?_) (fun f cdv A outer s H vs Q E hr h => ?_)
  · obtain ⟨l, t, ts, its, x, rfl, _⟩ := h
    rfl
  · obtain ⟨l, t, ts, its, x, rfl, hl, hi, so, hn, ht, hc, hx, q⟩ := h
    have len := items_len hi
    refine ⟨_, (pss_one (ps_expr (pe_bm PySem.F.plainAttrs_list PySem.F.slot_list_pop PySem.F.type_list_pop mt_popAt (pv 0) (pa_cons (cl_c c_place_of hr (by decide) (by rfl) (pa_cons (pv 0) (pa_cons (pv 1) pa_nil))) pa_nil)))), ?_⟩
    refine ⟨_, rfl, .inl ⟨rfl, _, SqL.of hl⟩, _, rfl, _, rfl, l, t, ts, its, x, rfl, hl, hi, so, hn, ht, hc, fun n hp => ?_⟩
    have hle := hp.le
    have hat := at_place hp hx so
    obtain ⟨n1, _⟩ := List.getElem?_eq_some_iff.mp hat
    obtain ⟨tn, e1, _⟩ := items_get hi n x hat
    refine ⟨l, _, (n : Int), n, .ref tn, rfl, rfl, hl, by omega, by omega, ?_, e1, ?_⟩
    · rw [len]
      unfold seqIndex?
      have g0 : ¬ (n : Int) < 0 := by omega
      have g1 : (n : Int) < (its.length : Int) := by omega
      simp [g0, g1]
    · have z := q n hat .non
      rw [map_erase] at z
      exact z
end
end LH
/-! The views' methods put and cancel. -/
namespace LH
open PySem PySem.Spec L2
open PyProof.Rows (envOfC)

theorem pr_append {α β : Type} {F : α → β → Prop} : ∀ {a c : List α} {b d : List β}, Paired F a b → Paired F c d → Paired F (a ++ c) (b ++ d)
  | _, _, _, _, .nil, h => h
  | _, _, _, _, .cons r t, h => .cons r (pr_append t h)
theorem pr_take {α β : Type} {F : α → β → Prop} : ∀ {a : List α} {b : List β} (n : Nat), Paired F a b → Paired F (a.take n) (b.take n)
  | _, _, 0, _ => by simp only [List.take_zero]; exact .nil
  | _, _, _ + 1, .nil => by simp only [List.take_nil]; exact .nil
  | _, _, n + 1, .cons r t => by simp only [List.take_succ_cons]; exact .cons r (pr_take n t)
theorem pr_drop {α β : Type} {F : α → β → Prop} : ∀ {a : List α} {b : List β} (n : Nat), Paired F a b → Paired F (a.drop n) (b.drop n)
  | _, _, 0, h => h
  | _, _, _ + 1, .nil => by simp only [List.drop_nil]; exact .nil
  | _, _, n + 1, .cons _ t => by simp only [List.drop_succ_cons]; exact pr_drop n t
theorem pr_erase {α β : Type} {F : α → β → Prop} : ∀ {a : List α} {b : List β} (n : Nat), Paired F a b → Paired F (a.eraseIdx n) (b.eraseIdx n)
  | _, _, _, .nil => by simp only [List.eraseIdx_nil]; exact .nil
  | _, _, 0, .cons _ t => t
  | _, _, n + 1, .cons r t => by simp only [List.eraseIdx_cons_succ]; exact .cons r (pr_erase n t)

/-- what the views' classes must bear -/
structure VT (K : PySem.W.Frag) (cl : ClsOf) : Prop where
  c : ∀ kd, Cls K (cl kd)
  nq : ∀ kd, NoAttr K (cl kd) "question"
  nc : ∀ kd, NoAttr K (cl kd) "cover"
  nk : ∀ kd, NoAttr K (cl kd) "known"
  nt : NoAttr K (cl .sum) "total"
  r1 : NoAttr K (cl .list) "rows"
  r2 : NoAttr K (cl .whr) "rows"
  a1 : NoAttr K (cl .least) "ranked"
  a2 : NoAttr K (cl .top) "ranked"
section
variable {cl : ClsOf} {H : Hp} {q : Qu} {S : VS} {ks : List Row} {k : Str} {v : Int}
theorem vobj_is (O : VObj cl H q S ks) (hq : q.isL = false) {H' : Hp} {ks' : List Row} (ob : ∃ dx, H' S.p = some (.ins (cl q.kd) dx (fldsOf q S ks'))) (qu : H' S.qa = some (.tup q.vals)) (nd : (ks'.map (·.1)).Nodup) (kk : ∀ p ∈ ks', KOk p.1) : VObj cl H' q S ks' :=
  ⟨ob, qu, fun h => (by rw [hq] at h; cases h), nd, kk⟩
theorem snoc_kk (kk : ∀ p ∈ ks, KOk p.1) (h : KOk k) : ∀ p ∈ ks ++ [(k, v)], KOk p.1 := fun p hp => by
  rcases List.mem_append.mp hp with hp | hp
  · exact kk p hp
  · rw [List.mem_singleton.mp hp]; exact h
theorem cut_kk (kk : ∀ p ∈ ks, KOk p.1) : ∀ p ∈ cutK ks k, KOk p.1 := fun p hp => kk p (cut_mem.mp hp).1
theorem lst_ne {l p C dx : Addr} {xs : List V} {fs : List (Str × V)} (h : H l = some (.lst xs)) (h' : H p = some (.ins C dx fs)) : p ≠ l := ne_of h' h (by intro z; cases z)
/-- a new pair t is put in its place -/
theorem vobj_add {t : Addr} (O : VObj cl H q S ks) (hL : q.isL = true) (hk : k ∉ ks.map (·.1)) (ok : KOk k) (hp : q.pass v = true) (ht : H t = none) (ex : ∀ a b : List Row, exOf q S.l a = exOf q S.l b) :
    ∃ (ts : List Addr) (its : List (V × V)), (upd H t (.tup [(q.enc (k, v)).1, (q.enc (k, v)).2])) S.l = some (.lst (ts.map V.ref)) ∧ ItemsAt (upd H t (.tup [(q.enc (k, v)).1, (q.enc (k, v)).2])) ts its ∧ (its.Pairwise fun a b => ltP a b = true) ∧ its.length ≤ 100 ∧
      (∀ y ∈ its, cmpP y (q.enc (k, v)) = true) ∧ ∀ n, PlaceOf its (q.enc (k, v)) n →
        Kp (footP q S) H (upd (upd H t (.tup [(q.enc (k, v)).1, (q.enc (k, v)).2])) S.l (.lst ((ts.take n ++ [t] ++ ts.drop n).map V.ref))) ∧
        VObj cl (upd (upd H t (.tup [(q.enc (k, v)).1, (q.enc (k, v)).2])) S.l (.lst ((ts.take n ++ [t] ++ ts.drop n).map V.ref))) q S (ks ++ [(k, v)]) := by
  obtain ⟨ts, its, hl, hi, I⟩ := O.li hL
  obtain ⟨dx, hob⟩ := O.ob
  have npl := lst_ne hl hob
  have nlt : S.l ≠ t := ne_of_none hl ht
  have npt : S.p ≠ t := ne_of_none hob ht
  have k1 : Kp (footP q S) H (upd H t (.tup [(q.enc (k, v)).1, (q.enc (k, v)).2])) := Kp.refl.new ht
  have hl1 : (upd H t (.tup [(q.enc (k, v)).1, (q.enc (k, v)).2])) S.l = some (.lst (ts.map V.ref)) := by rw [upd_ne nlt]; exact hl
  have k2 : ∀ o, Kp (footP q S) H (upd (upd H t (.tup [(q.enc (k, v)).1, (q.enc (k, v)).2])) S.l o) := fun o => k1.mut (by unfold footP; rw [if_pos hL]; simp) hl1 (by intro xs z; cases z)
  refine ⟨ts, its, hl1, hi.kp k1, I.so, Nat.le_trans (it_few I O.nd O.kk) (by decide), fun y hy => ?_, fun n P => ⟨k2 _, ⟨dx, ?_⟩, (k2 _).t _ _ O.qu, fun _ => ?_, snoc_nd O.nd hk, snoc_kk O.kk ok⟩⟩
  · obtain ⟨p, _, _, e⟩ := (I.mem y).mp hy
    rw [e]; exact cmp_enc q p _
  · rw [upd_ne npl, upd_ne npt, hob]
    unfold fldsOf
    rw [ex ks (ks ++ [(k, v)])]
  · refine ⟨ts.take n ++ [t] ++ ts.drop n, its.take n ++ [q.enc (k, v)] ++ its.drop n, upd_same, ?_, it_add I hk hp P⟩
    have hi2 : ItemsAt (upd (upd H t (.tup [(q.enc (k, v)).1, (q.enc (k, v)).2])) S.l (.lst ((ts.take n ++ [t] ++ ts.drop n).map V.ref))) ts its := hi.kp (k2 _)
    refine pr_append (pr_append (pr_take n hi2) (.cons ?_ .nil)) (pr_drop n hi2)
    rw [upd_ne nlt.symm, upd_same]
/-- the pair of a record leaves -/
theorem vobj_del {t : Addr} (O : VObj cl H q S ks) (hL : q.isL = true) (hk : (k, v) ∈ ks) (hp : q.pass v = true) (ht : H t = none) (ex : ∀ a b : List Row, exOf q S.l a = exOf q S.l b) :
    ∃ (ts : List Addr) (its : List (V × V)), (upd H t (.tup [(q.enc (k, v)).1, (q.enc (k, v)).2])) S.l = some (.lst (ts.map V.ref)) ∧ ItemsAt (upd H t (.tup [(q.enc (k, v)).1, (q.enc (k, v)).2])) ts its ∧ (its.Pairwise fun a b => ltP a b = true) ∧ its.length ≤ 100 ∧
      (∀ y ∈ its, cmpP y (q.enc (k, v)) = true) ∧ q.enc (k, v) ∈ its ∧ ∀ n, its[n]? = some (q.enc (k, v)) →
        Kp (footP q S) H (upd (upd H t (.tup [(q.enc (k, v)).1, (q.enc (k, v)).2])) S.l (.lst ((ts.eraseIdx n).map V.ref))) ∧
        VObj cl (upd (upd H t (.tup [(q.enc (k, v)).1, (q.enc (k, v)).2])) S.l (.lst ((ts.eraseIdx n).map V.ref))) q S (cutK ks k) := by
  obtain ⟨ts, its, hl, hi, I⟩ := O.li hL
  obtain ⟨dx, hob⟩ := O.ob
  have npl := lst_ne hl hob
  have nlt : S.l ≠ t := ne_of_none hl ht
  have npt : S.p ≠ t := ne_of_none hob ht
  have k1 : Kp (footP q S) H (upd H t (.tup [(q.enc (k, v)).1, (q.enc (k, v)).2])) := Kp.refl.new ht
  have hl1 : (upd H t (.tup [(q.enc (k, v)).1, (q.enc (k, v)).2])) S.l = some (.lst (ts.map V.ref)) := by rw [upd_ne nlt]; exact hl
  have k2 : ∀ o, Kp (footP q S) H (upd (upd H t (.tup [(q.enc (k, v)).1, (q.enc (k, v)).2])) S.l o) := fun o => k1.mut (by unfold footP; rw [if_pos hL]; simp) hl1 (by intro xs z; cases z)
  refine ⟨ts, its, hl1, hi.kp k1, I.so, Nat.le_trans (it_few I O.nd O.kk) (by decide), fun y hy => ?_, (I.mem _).mpr ⟨(k, v), hk, hp, rfl⟩, fun n P => ⟨k2 _, ⟨dx, ?_⟩, (k2 _).t _ _ O.qu, fun _ => ?_, cut_nd O.nd, cut_kk O.kk⟩⟩
  · obtain ⟨p, _, _, e⟩ := (I.mem y).mp hy
    rw [e]; exact cmp_enc q p _
  · rw [upd_ne npl, upd_ne npt, hob]
    unfold fldsOf
    rw [ex ks (cutK ks k)]
  · exact ⟨ts.eraseIdx n, its.eraseIdx n, upd_same, pr_erase n (hi.kp (k2 _)), it_del I O.nd hk P⟩
/-- nothing is put, nothing leaves: the value does not pass -/
theorem vobj_add_no (O : VObj cl H q S ks) (hk : k ∉ ks.map (·.1)) (ok : KOk k) (hp : q.pass v = false) (ex : ∀ a b : List Row, exOf q S.l a = exOf q S.l b) : VObj cl H q S (ks ++ [(k, v)]) := by
  obtain ⟨dx, hob⟩ := O.ob
  refine ⟨⟨dx, ?_⟩, O.qu, fun hL => ?_, snoc_nd O.nd hk, snoc_kk O.kk ok⟩
  · rw [hob]
    unfold fldsOf
    rw [ex ks (ks ++ [(k, v)])]
  · obtain ⟨ts, its, hl, hi, I⟩ := O.li hL
    exact ⟨ts, its, hl, hi, it_add_no I hp⟩
theorem vobj_del_no (O : VObj cl H q S ks) (hk : (k, v) ∈ ks) (hp : q.pass v = false) (ex : ∀ a b : List Row, exOf q S.l a = exOf q S.l b) : VObj cl H q S (cutK ks k) := by
  obtain ⟨dx, hob⟩ := O.ob
  refine ⟨⟨dx, ?_⟩, O.qu, fun hL => ?_, cut_nd O.nd, cut_kk O.kk⟩
  · rw [hob]
    unfold fldsOf
    rw [ex ks (cutK ks k)]
  · obtain ⟨ts, its, hl, hi, I⟩ := O.li hL
    exact ⟨ts, its, hl, hi, it_del_no I O.nd hk hp⟩
end

/-! ### the promises -/
def spPut (cl : ClsOf) (kd : Kd) : Sp := fun vs H Q _ => ∃ (q : Qu) (S : VS) (ks : List Row) (k : Str) (v : Int), vs = [.ref S.p, .str k, .int v] ∧ q.kd = kd ∧ VObj cl H q S ks ∧ k ∉ ks.map (·.1) ∧ KOk k ∧
  ∀ H', Kp (footP q S) H H' → VObj cl H' q S (ks ++ [(k, v)]) → Q .non H'
def spCancel (cl : ClsOf) (kd : Kd) : Sp := fun vs H Q _ => ∃ (q : Qu) (S : VS) (ks : List Row) (k : Str) (v : Int), vs = [.ref S.p, .str k, .int v] ∧ q.kd = kd ∧ VObj cl H q S ks ∧ (k, v) ∈ ks ∧
  ∀ H', Kp (footP q S) H H' → VObj cl H' q S (cutK ks k) → Q .non H'
theorem len_put {cl : ClsOf} {kd : Kd} : ∀ vs H Q E, spPut cl kd vs H Q E → vs.length = 3 := by
  rintro vs H Q E ⟨q, S, ks, k, v, rfl, _⟩
  rfl
theorem len_cancel {cl : ClsOf} {kd : Kd} : ∀ vs H Q E, spCancel cl kd vs H Q E → vs.length = 3 := by
  rintro vs H Q E ⟨q, S, ks, k, v, rfl, _⟩
  rfl
section
variable {P : Program} {w : World} {K : PySem.W.Frag} {mg : Str → Option Value} {base : Heap} {cl : ClsOf}
theorem sc_View_put : FnScope ["self", "key", "value"] ["self", "key", "value"] (defScope (inClass (top 12) 1)) := ⟨rfl, rfl, rfl, by decide +kernel, rfl, by decide +kernel, by decide +kernel⟩
theorem sc_View_cancel : FnScope ["self", "key", "value"] ["self", "key", "value"] (defScope (inClass (top 12) 2)) := ⟨rfl, rfl, rfl, by decide +kernel, rfl, by decide +kernel, by decide +kernel⟩
theorem m_View_put {kd : Kd} (hkd : kd = .get ∨ kd = .count) (D : MetIn K (cl kd) "put" "View.put" (inClass (top 12) 1) ["self", "key", "value"]) : Mt P w K mg base 1 (cl kd) "put" (spPut cl kd) := by
  refine mt_of D sc_View_put len_put (fun f cdv A outer s H vs Q E hr h => ?_)
  obtain ⟨q, S, ks, k, v, rfl, e, O, hk, ok, fin⟩ := h
  refine ⟨_, (pss_one ps_pass), ?_⟩
  refine fin H .refl ?_
  obtain ⟨dx, hob⟩ := O.ob
  cases q <;> first
    | exact vobj_is O rfl ⟨dx, hob⟩ O.qu (snoc_nd O.nd hk) (snoc_kk O.kk ok)
    | (exfalso; rcases hkd with z | z <;> (rw [z] at e; cases e))
theorem m_View_cancel {kd : Kd} (hkd : kd = .get ∨ kd = .count) (D : MetIn K (cl kd) "cancel" "View.cancel" (inClass (top 12) 2) ["self", "key", "value"]) : Mt P w K mg base 1 (cl kd) "cancel" (spCancel cl kd) := by
  refine mt_of D sc_View_cancel len_cancel (fun f cdv A outer s H vs Q E hr h => ?_)
  obtain ⟨q, S, ks, k, v, rfl, e, O, hk, fin⟩ := h
  refine ⟨_, (pss_one ps_pass), ?_⟩
  refine fin H .refl ?_
  obtain ⟨dx, hob⟩ := O.ob
  cases q <;> first
    | exact vobj_is O rfl ⟨dx, hob⟩ O.qu (cut_nd O.nd) (cut_kk O.kk)
    | (exfalso; rcases hkd with z | z <;> (rw [z] at e; cases e))
theorem sc_SumView_put : FnScope ["self", "key", "value"] ["self", "key", "value"] (defScope (inClass (top 15) 1)) := ⟨rfl, rfl, rfl, by decide +kernel, rfl, by decide +kernel, by decide +kernel⟩
theorem sc_SumView_cancel : FnScope ["self", "key", "value"] ["self", "key", "value"] (defScope (inClass (top 15) 2)) := ⟨rfl, rfl, rfl, by decide +kernel, rfl, by decide +kernel, by decide +kernel⟩
theorem m_SumView_put (T : VT K cl) (D : MetIn K (cl .sum) "put" "SumView.put" (inClass (top 15) 1) ["self", "key", "value"]) : Mt P w K mg base 1 (cl .sum) "put" (spPut cl .sum) := by
  refine mt_of D sc_SumView_put len_put (fun f cdv A outer s H vs Q E hr h => ?_)
  obtain ⟨q, S, ks, k, v, rfl, e, O, hk, ok, fin⟩ := h
  obtain ⟨dx, hob⟩ := O.ob
  cases q <;> try (cases e)
  rename_i a b
  refine ⟨_, (pss_one (ps_fldaug (pv 0) (pv 2) in_add)), ?_⟩
  refine ⟨_, rfl, S.p, cl .sum, dx, _, _, rfl, hob, T.c _, T.nt, rfl, _, rfl, _, _, rfl, rfl, _, _, hob, (by show 4 < 1000; decide), ?_⟩
  have nq : S.qa ≠ S.p := ne_of O.qu hob (by intro z; cases z)
  refine fin _ (Kp.refl.mut (by simp [footP, Qu.isL]) hob (by intro xs z; cases z)) (vobj_is O rfl ⟨dx, ?_⟩ (by rw [upd_ne nq]; exact O.qu) (snoc_nd O.nd hk) (snoc_kk O.kk ok))
  rw [upd_same]
  show some (HO.ins (cl .sum) dx ([("total", V.int ((ks.map (·.2)).sum + v)), ("question", V.ref S.qa), ("cover", V.ref S.c), ("known", V.ref S.d)] : List (Str × V))) = some (HO.ins (cl .sum) dx ([("total", V.int ((ks ++ [(k, v)]).map (·.2)).sum), ("question", V.ref S.qa), ("cover", V.ref S.c), ("known", V.ref S.d)] : List (Str × V)))
  rw [snoc_sum]
theorem m_SumView_cancel (T : VT K cl) (D : MetIn K (cl .sum) "cancel" "SumView.cancel" (inClass (top 15) 2) ["self", "key", "value"]) : Mt P w K mg base 1 (cl .sum) "cancel" (spCancel cl .sum) := by
  refine mt_of D sc_SumView_cancel len_cancel (fun f cdv A outer s H vs Q E hr h => ?_)
  obtain ⟨q, S, ks, k, v, rfl, e, O, hk, fin⟩ := h
  obtain ⟨dx, hob⟩ := O.ob
  cases q <;> try (cases e)
  rename_i a b
  refine ⟨_, (pss_one (ps_fldaug (pv 0) (pv 2) in_sub)), ?_⟩
  refine ⟨_, rfl, S.p, cl .sum, dx, _, _, rfl, hob, T.c _, T.nt, rfl, _, rfl, _, _, rfl, rfl, _, _, hob, (by show 4 < 1000; decide), ?_⟩
  have nq : S.qa ≠ S.p := ne_of O.qu hob (by intro z; cases z)
  refine fin _ (Kp.refl.mut (by simp [footP, Qu.isL]) hob (by intro xs z; cases z)) (vobj_is O rfl ⟨dx, ?_⟩ (by rw [upd_ne nq]; exact O.qu) (cut_nd O.nd) (cut_kk O.kk))
  rw [upd_same]
  show some (HO.ins (cl .sum) dx ([("total", V.int ((ks.map (·.2)).sum - v)), ("question", V.ref S.qa), ("cover", V.ref S.c), ("known", V.ref S.d)] : List (Str × V))) = some (HO.ins (cl .sum) dx ([("total", V.int ((cutK ks k).map (·.2)).sum), ("question", V.ref S.qa), ("cover", V.ref S.c), ("known", V.ref S.d)] : List (Str × V)))
  rw [cut_sum O.nd hk]
theorem sc_ListView_put : FnScope ["self", "key", "value"] ["self", "key", "value"] (defScope (inClass (top 16) 1)) := ⟨rfl, rfl, rfl, by decide +kernel, rfl, by decide +kernel, by decide +kernel⟩
theorem m_ListView_put (T : VT K cl) (c_add_item : Cl P w K mg base 2 "add_item" spAdd) (D : MetIn K (cl .list) "put" "ListView.put" (inClass (top 16) 1) ["self", "key", "value"]) : Mt P w K mg base 3 (cl .list) "put" (spPut cl .list) := by
  refine mt_of D sc_ListView_put len_put (fun f cdv A outer s H vs Q E hr h => ?_)
  obtain ⟨q, S, ks, k, v, rfl, e, O, hk, ok, fin⟩ := h
  obtain ⟨dx, hob⟩ := O.ob
  cases q <;> try (cases e)
  refine ⟨_, (pss_one (ps_expr (cl_c c_add_item hr (by decide) (by rfl) (pa_cons (pe_fld (pv 0) rfl) (pa_cons (pe_tup (pa_cons (pv 1) (pa_cons (pv 2) pa_nil))) pa_nil))))), ?_⟩
  refine ⟨_, rfl, S.p, cl .list, dx, _, _, rfl, hob, T.c _, T.r1, rfl, ?_⟩
  refine ⟨_, rfl, _, rfl, (by show 2 ≤ sizeLine; decide), fun t ht => ?_⟩
  obtain ⟨ts, its, h1, h2, h3, h4, h5, h6⟩ := vobj_add (v := v) O rfl hk ok rfl ht (fun _ _ => rfl)
  exact ⟨S.l, t, ts, its, _, rfl, h1, h2, h3, h4, upd_same, h5, fun n hn => fin _ (h6 n hn).1 (h6 n hn).2⟩
theorem sc_ListView_cancel : FnScope ["self", "key", "value"] ["self", "key", "value"] (defScope (inClass (top 16) 2)) := ⟨rfl, rfl, rfl, by decide +kernel, rfl, by decide +kernel, by decide +kernel⟩
theorem m_ListView_cancel (T : VT K cl) (c_drop_item : Cl P w K mg base 2 "drop_item" spDrop) (D : MetIn K (cl .list) "cancel" "ListView.cancel" (inClass (top 16) 2) ["self", "key", "value"]) : Mt P w K mg base 3 (cl .list) "cancel" (spCancel cl .list) := by
  refine mt_of D sc_ListView_cancel len_cancel (fun f cdv A outer s H vs Q E hr h => ?_)
  obtain ⟨q, S, ks, k, v, rfl, e, O, hk, fin⟩ := h
  obtain ⟨dx, hob⟩ := O.ob
  cases q <;> try (cases e)
  refine ⟨_, (pss_one (ps_expr (cl_c c_drop_item hr (by decide) (by rfl) (pa_cons (pe_fld (pv 0) rfl) (pa_cons (pe_tup (pa_cons (pv 1) (pa_cons (pv 2) pa_nil))) pa_nil))))), ?_⟩
  refine ⟨_, rfl, S.p, cl .list, dx, _, _, rfl, hob, T.c _, T.r1, rfl, ?_⟩
  refine ⟨_, rfl, _, rfl, (by show 2 ≤ sizeLine; decide), fun t ht => ?_⟩
  obtain ⟨ts, its, h1, h2, h3, h4, h5, h6, h7⟩ := vobj_del (v := v) O rfl hk rfl ht (fun _ _ => rfl)
  exact ⟨S.l, t, ts, its, _, rfl, h1, h2, h3, h4, upd_same, h5, h6, fun n hn _ => fin _ (h7 n hn).1 (h7 n hn).2⟩
theorem sc_LeastView_put : FnScope ["self", "key", "value"] ["self", "key", "value"] (defScope (inClass (top 17) 1)) := ⟨rfl, rfl, rfl, by decide +kernel, rfl, by decide +kernel, by decide +kernel⟩
theorem m_LeastView_put (T : VT K cl) (c_add_item : Cl P w K mg base 2 "add_item" spAdd) (D : MetIn K (cl .least) "put" "LeastView.put" (inClass (top 17) 1) ["self", "key", "value"]) : Mt P w K mg base 3 (cl .least) "put" (spPut cl .least) := by
  refine mt_of D sc_LeastView_put len_put (fun f cdv A outer s H vs Q E hr h => ?_)
  obtain ⟨q, S, ks, k, v, rfl, e, O, hk, ok, fin⟩ := h
  obtain ⟨dx, hob⟩ := O.ob
  cases q <;> try (cases e)
  refine ⟨_, (pss_one (ps_expr (cl_c c_add_item hr (by decide) (by rfl) (pa_cons (pe_fld (pv 0) rfl) (pa_cons (pe_tup (pa_cons (pv 2) (pa_cons (pv 1) pa_nil))) pa_nil))))), ?_⟩
  refine ⟨_, rfl, S.p, cl .least, dx, _, _, rfl, hob, T.c _, T.a1, rfl, ?_⟩
  refine ⟨_, rfl, _, rfl, (by show 2 ≤ sizeLine; decide), fun t ht => ?_⟩
  obtain ⟨ts, its, h1, h2, h3, h4, h5, h6⟩ := vobj_add (v := v) O rfl hk ok rfl ht (fun _ _ => rfl)
  exact ⟨S.l, t, ts, its, _, rfl, h1, h2, h3, h4, upd_same, h5, fun n hn => fin _ (h6 n hn).1 (h6 n hn).2⟩
theorem sc_LeastView_cancel : FnScope ["self", "key", "value"] ["self", "key", "value"] (defScope (inClass (top 17) 2)) := ⟨rfl, rfl, rfl, by decide +kernel, rfl, by decide +kernel, by decide +kernel⟩
theorem m_LeastView_cancel (T : VT K cl) (c_drop_item : Cl P w K mg base 2 "drop_item" spDrop) (D : MetIn K (cl .least) "cancel" "LeastView.cancel" (inClass (top 17) 2) ["self", "key", "value"]) : Mt P w K mg base 3 (cl .least) "cancel" (spCancel cl .least) := by
  refine mt_of D sc_LeastView_cancel len_cancel (fun f cdv A outer s H vs Q E hr h => ?_)
  obtain ⟨q, S, ks, k, v, rfl, e, O, hk, fin⟩ := h
  obtain ⟨dx, hob⟩ := O.ob
  cases q <;> try (cases e)
  refine ⟨_, (pss_one (ps_expr (cl_c c_drop_item hr (by decide) (by rfl) (pa_cons (pe_fld (pv 0) rfl) (pa_cons (pe_tup (pa_cons (pv 2) (pa_cons (pv 1) pa_nil))) pa_nil))))), ?_⟩
  refine ⟨_, rfl, S.p, cl .least, dx, _, _, rfl, hob, T.c _, T.a1, rfl, ?_⟩
  refine ⟨_, rfl, _, rfl, (by show 2 ≤ sizeLine; decide), fun t ht => ?_⟩
  obtain ⟨ts, its, h1, h2, h3, h4, h5, h6, h7⟩ := vobj_del (v := v) O rfl hk rfl ht (fun _ _ => rfl)
  exact ⟨S.l, t, ts, its, _, rfl, h1, h2, h3, h4, upd_same, h5, h6, fun n hn _ => fin _ (h7 n hn).1 (h7 n hn).2⟩
theorem sc_TopView_put : FnScope ["self", "key", "value"] ["self", "key", "value"] (defScope (inClass (top 18) 1)) := ⟨rfl, rfl, rfl, by decide +kernel, rfl, by decide +kernel, by decide +kernel⟩
theorem m_TopView_put (T : VT K cl) (c_add_item : Cl P w K mg base 2 "add_item" spAdd) (D : MetIn K (cl .top) "put" "TopView.put" (inClass (top 18) 1) ["self", "key", "value"]) : Mt P w K mg base 3 (cl .top) "put" (spPut cl .top) := by
  refine mt_of D sc_TopView_put len_put (fun f cdv A outer s H vs Q E hr h => ?_)
  obtain ⟨q, S, ks, k, v, rfl, e, O, hk, ok, fin⟩ := h
  obtain ⟨dx, hob⟩ := O.ob
  cases q <;> try (cases e)
  refine ⟨_, (pss_one (ps_expr (cl_c c_add_item hr (by decide) (by rfl) (pa_cons (pe_fld (pv 0) rfl) (pa_cons (pe_tup (pa_cons (pe_un un_neg (pv 2)) (pa_cons (pv 1) pa_nil))) pa_nil))))), ?_⟩
  refine ⟨_, rfl, S.p, cl .top, dx, _, _, rfl, hob, T.c _, T.a2, rfl, ?_⟩
  refine ⟨_, rfl, _, rfl, _, rfl, (by show 2 ≤ sizeLine; decide), fun t ht => ?_⟩
  obtain ⟨ts, its, h1, h2, h3, h4, h5, h6⟩ := vobj_add (v := v) O rfl hk ok rfl ht (fun _ _ => rfl)
  exact ⟨S.l, t, ts, its, _, rfl, h1, h2, h3, h4, upd_same, h5, fun n hn => fin _ (h6 n hn).1 (h6 n hn).2⟩
theorem sc_TopView_cancel : FnScope ["self", "key", "value"] ["self", "key", "value"] (defScope (inClass (top 18) 2)) := ⟨rfl, rfl, rfl, by decide +kernel, rfl, by decide +kernel, by decide +kernel⟩
theorem m_TopView_cancel (T : VT K cl) (c_drop_item : Cl P w K mg base 2 "drop_item" spDrop) (D : MetIn K (cl .top) "cancel" "TopView.cancel" (inClass (top 18) 2) ["self", "key", "value"]) : Mt P w K mg base 3 (cl .top) "cancel" (spCancel cl .top) := by
  refine mt_of D sc_TopView_cancel len_cancel (fun f cdv A outer s H vs Q E hr h => ?_)
  obtain ⟨q, S, ks, k, v, rfl, e, O, hk, fin⟩ := h
  obtain ⟨dx, hob⟩ := O.ob
  cases q <;> try (cases e)
  refine ⟨_, (pss_one (ps_expr (cl_c c_drop_item hr (by decide) (by rfl) (pa_cons (pe_fld (pv 0) rfl) (pa_cons (pe_tup (pa_cons (pe_un un_neg (pv 2)) (pa_cons (pv 1) pa_nil))) pa_nil))))), ?_⟩
  refine ⟨_, rfl, S.p, cl .top, dx, _, _, rfl, hob, T.c _, T.a2, rfl, ?_⟩
  refine ⟨_, rfl, _, rfl, _, rfl, (by show 2 ≤ sizeLine; decide), fun t ht => ?_⟩
  obtain ⟨ts, its, h1, h2, h3, h4, h5, h6, h7⟩ := vobj_del (v := v) O rfl hk rfl ht (fun _ _ => rfl)
  exact ⟨S.l, t, ts, its, _, rfl, h1, h2, h3, h4, upd_same, h5, h6, fun n hn _ => fin _ (h7 n hn).1 (h7 n hn).2⟩
def spMet : Sp := fun vs H Q _ => ∃ (p C dx qa c d l : Addr) (lo hi v : Int) (a b : Str), vs = [.ref p, .int v] ∧ H p = some (.ins C dx ([("rows", V.ref l), ("question", V.ref qa), ("cover", V.ref c), ("known", V.ref d)] : List (Str × V))) ∧ H qa = some (.tup [.str "where", .int lo, .int hi, .str a, .str b]) ∧
  Cls K C ∧ NoAttr K C "question" ∧ Q (.bl (decide (lo ≤ v) && decide (v ≤ hi))) H
theorem sc_WhereView_is_met : FnScope ["self", "value"] ["self", "value"] (defScope (inClass (top 19) 1)) := ⟨rfl, rfl, rfl, by decide +kernel, rfl, by decide +kernel, by decide +kernel⟩
theorem m_WhereView_is_met (D : MetIn K (cl .whr) "is_met" "WhereView.is_met" (inClass (top 19) 1) ["self", "value"]) : Mt P w K mg base 1 (cl .whr) "is_met" (spMet (K := K)) := by
  refine mt_of D sc_WhereView_is_met (fun vs H Q E h => ?_) (fun f cdv A outer s H vs Q E hr h => ?_)
  · obtain ⟨p, C, dx, qa, c, d, l, lo, hi, v, a, b, rfl, _⟩ := h
    rfl
  obtain ⟨p, C, dx, qa, c, d, l, lo, hi, v, a, b, rfl, hob, hq, hc, hn, fin⟩ := h
  refine ⟨_, (pss_one (ps_ret (pe_chain op_le op_le (pe_ix ix_tup (pe_fld (pv 0) rfl) pe_int (fun _ _ => rfl)) (pv 1) (pe_ix ix_tup (pe_fld (pv 0) rfl) pe_int (fun _ _ => rfl))))), ?_⟩
  refine ⟨_, rfl, p, C, dx, _, _, rfl, hob, hc, hn, rfl, qa, _, _, _, rfl, rfl, .inl (.inl hq), rfl, _, rfl, _, _, rfl, rfl, _, rfl, ?_⟩
  refine ite2 (fun e => ?_) (fun e => ?_)
  · refine ⟨_, rfl, p, C, dx, _, _, rfl, hob, hc, hn, rfl, qa, _, _, _, rfl, rfl, .inl (.inl hq), rfl, _, _, rfl, rfl, ?_⟩
    rw [show decide (lo ≤ v) = true from e] at fin
    exact fin
  · rw [show decide (lo ≤ v) = false from Bool.eq_false_iff.mpr e] at fin
    exact fin
theorem sc_WhereView_put : FnScope ["self", "key", "value"] ["self", "key", "value"] (defScope (inClass (top 19) 2)) := ⟨rfl, rfl, rfl, by decide +kernel, rfl, by decide +kernel, by decide +kernel⟩
theorem m_WhereView_put (T : VT K cl) (c_add_item : Cl P w K mg base 2 "add_item" spAdd) (m_is_met : Mt P w K mg base 1 (cl .whr) "is_met" (spMet (K := K))) (D : MetIn K (cl .whr) "put" "WhereView.put" (inClass (top 19) 2) ["self", "key", "value"]) : Mt P w K mg base 3 (cl .whr) "put" (spPut cl .whr) := by
  refine mt_of D sc_WhereView_put len_put (fun f cdv A outer s H vs Q E hr h => ?_)
  obtain ⟨q, S, ks, k, v, rfl, e, O, hk, ok, fin⟩ := h
  obtain ⟨dx, hob⟩ := O.ob
  cases q <;> try (cases e)
  rename_i lo hi a b
  refine ⟨_, (pss_one (ps_if (pt_val (mt_m m_is_met hr (by decide) (pv 0) (pa_cons (pv 2) pa_nil))) (pss_one (ps_expr (cl_c c_add_item hr (by decide) (by rfl) (pa_cons (pe_fld (pv 0) rfl) (pa_cons (pe_tup (pa_cons (pv 1) (pa_cons (pv 2) pa_nil))) pa_nil))))) pss_nil)), ?_⟩
  refine ⟨_, rfl, S.p, dx, _, rfl, hob, rfl, _, rfl, S.p, cl .whr, dx, S.qa, S.c, S.d, S.l, lo, hi, v, a, b, rfl, hob, O.qu, T.c _, T.nq _, _, rfl, ite2 (fun e => ?_) (fun e => ?_)⟩
  · refine ⟨_, rfl, S.p, cl .whr, dx, _, _, rfl, hob, T.c _, T.r2, rfl, ?_⟩
    refine ⟨_, rfl, _, rfl, (by show 2 ≤ sizeLine; decide), fun t ht => ?_⟩
    obtain ⟨ts, its, h1, h2, h3, h4, h5, h6⟩ := vobj_add (v := v) O rfl hk ok e ht (fun _ _ => rfl)
    exact ⟨S.l, t, ts, its, _, rfl, h1, h2, h3, h4, upd_same, h5, fun n hn => fin _ (h6 n hn).1 (h6 n hn).2⟩
  · exact fin _ .refl (vobj_add_no O hk ok (Bool.eq_false_iff.mpr e) (fun _ _ => rfl))
theorem sc_WhereView_cancel : FnScope ["self", "key", "value"] ["self", "key", "value"] (defScope (inClass (top 19) 3)) := ⟨rfl, rfl, rfl, by decide +kernel, rfl, by decide +kernel, by decide +kernel⟩
theorem m_WhereView_cancel (T : VT K cl) (c_drop_item : Cl P w K mg base 2 "drop_item" spDrop) (m_is_met : Mt P w K mg base 1 (cl .whr) "is_met" (spMet (K := K))) (D : MetIn K (cl .whr) "cancel" "WhereView.cancel" (inClass (top 19) 3) ["self", "key", "value"]) : Mt P w K mg base 3 (cl .whr) "cancel" (spCancel cl .whr) := by
  refine mt_of D sc_WhereView_cancel len_cancel (fun f cdv A outer s H vs Q E hr h => ?_)
  obtain ⟨q, S, ks, k, v, rfl, e, O, hk, fin⟩ := h
  obtain ⟨dx, hob⟩ := O.ob
  cases q <;> try (cases e)
  rename_i lo hi a b
  refine ⟨_, (pss_one (ps_if (pt_val (mt_m m_is_met hr (by decide) (pv 0) (pa_cons (pv 2) pa_nil))) (pss_one (ps_expr (cl_c c_drop_item hr (by decide) (by rfl) (pa_cons (pe_fld (pv 0) rfl) (pa_cons (pe_tup (pa_cons (pv 1) (pa_cons (pv 2) pa_nil))) pa_nil))))) pss_nil)), ?_⟩
  refine ⟨_, rfl, S.p, dx, _, rfl, hob, rfl, _, rfl, S.p, cl .whr, dx, S.qa, S.c, S.d, S.l, lo, hi, v, a, b, rfl, hob, O.qu, T.c _, T.nq _, _, rfl, ite2 (fun e => ?_) (fun e => ?_)⟩
  · refine ⟨_, rfl, S.p, cl .whr, dx, _, _, rfl, hob, T.c _, T.r2, rfl, ?_⟩
    refine ⟨_, rfl, _, rfl, (by show 2 ≤ sizeLine; decide), fun t ht => ?_⟩
    obtain ⟨ts, its, h1, h2, h3, h4, h5, h6, h7⟩ := vobj_del (v := v) O rfl hk e ht (fun _ _ => rfl)
    exact ⟨S.l, t, ts, its, _, rfl, h1, h2, h3, h4, upd_same, h5, h6, fun n hn _ => fin _ (h7 n hn).1 (h7 n hn).2⟩
  · exact fin _ .refl (vobj_del_no O hk (Bool.eq_false_iff.mpr e) (fun _ _ => rfl))
end
end LH
/-! View.take and View.__init__. -/
namespace LH
open PySem PySem.Spec L2
open PyProof.Rows (envOfC)

theorem Mt.mono {P : Program} {w : World} {K : PySem.W.Frag} {mg : Str → Option Value} {base : Heap} {j k : Nat} {C : Addr} {m : Str} {sp : Sp} (c : Mt P w K mg base j C m sp) (h : j ≤ k) : Mt P w K mg base k C m sp := by
  obtain ⟨f, fd, ps, a, b, F, d⟩ := c.ex
  exact ⟨f, fd, ps, a, b, F.mono h, d⟩
theorem foot_nd {cl : ClsOf} {H : Hp} {q : Qu} {S : VS} {f : Fn} {ks : List Row} (A : VAt cl H q S f ks) : (foot q S).Nodup := by
  obtain ⟨dx, hob⟩ := A.ob.ob
  have n1 : S.p ≠ S.d := ne_of hob A.dc (by intro z; cases z)
  unfold foot
  by_cases e : q.isL = true
  · obtain ⟨ts, its, hl, _⟩ := A.ob.li e
    have n2 : S.p ≠ S.l := ne_of hob hl (by intro z; cases z)
    have n3 : S.d ≠ S.l := ne_of A.dc hl (by intro z; cases z)
    rw [if_pos e]
    simp [n1, n2, n3]
  · rw [if_neg e]
    simp [n1]
theorem footP_sub (q : Qu) (S : VS) : ∀ a ∈ footP q S, a ∈ foot q S := by
  intro a h
  unfold footP at h
  unfold foot
  by_cases e : q.isL = true
  · rw [if_pos e] at h ⊢
    simp at h ⊢
    rcases h with h | h
    · exact .inl h
    · exact .inr (.inr h)
  · rw [if_neg e] at h ⊢
    simp at h ⊢
    exact .inl h
theorem d_foot (q : Qu) (S : VS) : S.d ∈ foot q S := by
  unfold foot
  split <;> simp
theorem d_footP {cl : ClsOf} {H : Hp} {q : Qu} {S : VS} {f : Fn} {ks : List Row} (A : VAt cl H q S f ks) : S.d ∉ footP q S := by
  obtain ⟨dx, hob⟩ := A.ob.ob
  have n1 : S.p ≠ S.d := ne_of hob A.dc (by intro z; cases z)
  unfold footP
  by_cases e : q.isL = true
  · obtain ⟨ts, its, hl, _⟩ := A.ob.li e
    have n3 : S.d ≠ S.l := ne_of A.dc hl (by intro z; cases z)
    rw [if_pos e]
    simp [n1.symm, n3]
  · rw [if_neg e]
    simp [n1.symm]
section
variable {cl : ClsOf} {H H' : Hp} {q : Qu} {S : VS} {f : Fn} {ks : List Row} {k : Str} {v : Int}
theorem vobj_kp {F : List Addr} (O : VObj cl H q S ks) (kp : Kp F H H') (h1 : S.p ∉ F) (h2 : q.isL = true → S.l ∉ F) : VObj cl H' q S ks := by
  obtain ⟨dx, hob⟩ := O.ob
  refine ⟨⟨dx, kp.k _ _ hob h1⟩, kp.t _ _ O.qu, fun e => ?_, O.nd, O.kk⟩
  obtain ⟨ts, its, hl, hi, I⟩ := O.li e
  exact ⟨ts, its, kp.k _ _ hl (h2 e), hi.kp kp, I⟩
theorem vat_kp {F : List Addr} (A : VAt cl H q S f ks) (kp : Kp F H H') (h : ∀ a ∈ foot q S, a ∉ F) : VAt cl H' q S f ks := by
  refine ⟨vobj_kp A.ob kp (h _ ?_) (fun e => h _ ?_), kp.t _ _ A.cv, kp.k _ _ A.dc (h _ (d_foot q S)), A.kn⟩
  · unfold foot; split <;> simp
  · unfold foot; rw [if_pos e]; simp
theorem vobj_d {kvs : List (Key × V)} {o : HO} (O : VObj cl H q S ks) (hd : H S.d = some (.dK kvs)) : VObj cl (upd H S.d o) q S ks := by
  obtain ⟨dx, hob⟩ := O.ob
  refine vobj_kp O (Kp.mut (F := [S.d]) .refl (by simp) hd (by intro xs z; cases z)) ?_ (fun e => ?_)
  · have n1 : S.p ≠ S.d := ne_of hob hd (by intro z; cases z)
    simp [n1]
  · obtain ⟨ts, its, hl, _⟩ := O.li e
    have n3 : S.l ≠ S.d := ne_of hl hd (by intro z; cases z)
    simp [n3]
theorem vat_pop (A : VAt cl H q S f ks) : VObj cl (upd H S.d (.dK (dropK (dk ks) (Sum.inr k)))) q S ks ∧
    ∀ H2, Kp (footP q S) (upd H S.d (.dK (dropK (dk ks) (Sum.inr k)))) H2 → VObj cl H2 q S (cutK ks k) → VAt cl H2 q S (wr f (k, none)) (cutK ks k) ∧ Kp (foot q S) H H2 := by
  refine ⟨vobj_d A.ob A.dc, fun H2 kp O => ?_⟩
  have k1 : Kp (foot q S) H (upd H S.d (.dK (dropK (dk ks) (Sum.inr k)))) := Kp.refl.mut (d_foot q S) A.dc (by intro xs z; cases z)
  have k2 : Kp (foot q S) H H2 := k1.trans (kp.mono (footP_sub q S))
  refine ⟨⟨O, k2.t _ _ A.cv, ?_, wr_cut A.kn⟩, k2⟩
  rw [kp.k _ _ upd_same (d_footP A), dk_drop]
theorem vat_put (A : VAt cl H q S f ks) (hc : inC q.cov k = true) (hk : k ∉ ks.map (·.1)) : VObj cl (upd H S.d (.dK (putK (dk ks) (Sum.inr k) (.int v)))) q S ks ∧
    ∀ H2, Kp (footP q S) (upd H S.d (.dK (putK (dk ks) (Sum.inr k) (.int v)))) H2 → VObj cl H2 q S (ks ++ [(k, v)]) → VAt cl H2 q S (wr f (k, some v)) (ks ++ [(k, v)]) ∧ Kp (foot q S) H H2 := by
  refine ⟨vobj_d A.ob A.dc, fun H2 kp O => ?_⟩
  have k1 : Kp (foot q S) H (upd H S.d (.dK (putK (dk ks) (Sum.inr k) (.int v)))) := Kp.refl.mut (d_foot q S) A.dc (by intro xs z; cases z)
  have k2 : Kp (foot q S) H H2 := k1.trans (kp.mono (footP_sub q S))
  refine ⟨⟨O, k2.t _ _ A.cv, ?_, wr_add A.kn hc hk⟩, k2⟩
  rw [kp.k _ _ upd_same (d_footP A), dk_put v hk]
theorem vat_len (A : VAt cl H q S f ks) : (dk ks).length < sizeLine := by
  have := few A.ob.nd A.ob.kk
  rw [dk_len]
  exact Nat.lt_of_lt_of_le (show ks.length < 1000 by omega) (by decide)
end
theorem grp_snoc (f : Fn) (ws : Gr) (w : Wr) : grp f (ws ++ [w]) = wr (grp f ws) w := by unfold grp; rw [List.foldl_append]; rfl
theorem grp_take {ws : Gr} {i : Nat} {w : Wr} (f : Fn) (h : ws[i]? = some w) : grp f (ws.take (i + 1)) = wr (grp f (ws.take i)) w := by
  rw [List.take_succ, h]
  exact grp_snoc _ _ _
theorem grp_map (f : Fn) : ∀ (ys : List Str) (g : Fn) (x : Str), grp g (ys.map fun k => (k, f k)) x = if x ∈ ys then f x else g x
  | [], g, x => by simp [grp]
  | y :: ys, g, x => by
    show grp (wr g (y, f y)) (ys.map fun k => (k, f k)) x = _
    rw [grp_map f ys]
    by_cases h : x ∈ ys
    · simp [h]
    · by_cases e : x = y
      · subst e; simp [h, wr]
      · simp [h, e, wr]
theorem paired_at {α β : Type} {F : α → β → Prop} : ∀ {a : List α} {b : List β} (i : Nat) (x : α), Paired F a b → a[i]? = some x → ∃ y, b[i]? = some y ∧ F x y
  | _, _, _, _, .nil, h => by simp at h
  | _, _, 0, x, .cons r _, h => by cases h; exact ⟨_, rfl, r⟩
  | _, _, i + 1, x, .cons _ t, h => paired_at i x t h
theorem paired_at2 {α β : Type} {F : α → β → Prop} : ∀ {a : List α} {b : List β} (i : Nat) (y : β), Paired F a b → b[i]? = some y → ∃ x, a[i]? = some x ∧ F x y
  | _, _, _, _, .nil, h => by simp at h
  | _, _, 0, x, .cons r _, h => by cases h; exact ⟨_, rfl, r⟩
  | _, _, i + 1, x, .cons _ t, h => paired_at2 i x t h

section
variable {P : Program} {w : World} {K : PySem.W.Frag} {mg : Str → Option Value} {base : Heap} {cl : ClsOf}
/-! ### take -/
def spTake (cl : ClsOf) (kd : Kd) : Sp := fun vs H Q _ => ∃ (q : Qu) (S : VS) (f : Fn) (ks : List Row) (g : Addr) (ws : Gr), vs = [.ref S.p, .ref g] ∧ q.kd = kd ∧ VAt cl H q S f ks ∧ GrpAt H g ws ∧ (∀ w ∈ ws, KOk w.1) ∧
  ∀ H' ks', Kp (foot q S) H H' → VAt cl H' q S (grp f ws) ks' → Q .non H'
theorem sc_View_take : FnScope ["self", "group", "key", "value"] ["self", "group"] (defScope (inClass (top 12) 3)) := ⟨rfl, rfl, rfl, by decide +kernel, rfl, by decide +kernel, by decide +kernel⟩
theorem m_View_take {kd : Kd} (T : VT K cl) (c_contains : Cl P w K mg base 1 "contains" spContains) (m_put : Mt P w K mg base 3 (cl kd) "put" (spPut cl kd)) (m_cancel : Mt P w K mg base 3 (cl kd) "cancel" (spCancel cl kd))
    (D : MetIn K (cl kd) "take" "View.take" (inClass (top 12) 3) ["self", "group"]) : Mt P w K mg base 4 (cl kd) "take" (spTake cl kd) := by
  refine mt_of D sc_View_take (fun vs H Q E h => ?_) (fun f cdv A outer s H vs Q E hr h => ?_)
  · obtain ⟨q, S, f, ks, g, ws, rfl, _⟩ := h
    rfl
  obtain ⟨q, S, f, ks, g, ws, rfl, e, V0, ⟨ts, hg, hts⟩, hk, fin⟩ := h
  have hu := hu_of hr
  have tn := T.c kd
  have nc := T.nc kd
  have nk := T.nk kd
  rw [← e] at m_put m_cancel tn nc nk
  refine ⟨_, (pss_one (ps_for PassesOwn.never rfl (pi_tup (pv 1)) (pg_tup (by rfl) (pgs_cons (pg_name (i := 2) sc_View_take.nd rfl (Or.inl rfl)) (pgs_cons (pg_name (i := 3) sc_View_take.nd rfl (Or.inl rfl)) pgs_nil)))
        (pss_one (ps_if (pt_val (cl_c c_contains hr (by decide) (by rfl) (pa_cons (pe_fld (pv 0) rfl) (pa_cons (pv 2) pa_nil)))) (Evl.pss_cut (ps_if (pt_cmp (pc_din hu (pv 2) (pe_fld (pv 0) rfl))) (pss_one (ps_expr (mt_m m_cancel hr (by decide) (pv 0) (pa_cons (pv 2) (pa_cons (pe_dpop1 (pe_fld (pv 0) rfl) (pv 2) ⟨rfl, rfl, rfl, rfl⟩) pa_nil))))) pss_nil)
          (pss_one (ps_if (pt_cmpR op_notN (pv 3) pe_non (nomark _)) (pss_cons (ps_dput hu (pe_fld (pv 0) rfl) (pv 2) (pv 3) rfl)
            (pss_one (ps_expr (mt_m m_put hr (by decide) (pv 0) (pa_cons (pv 2) (pa_cons (pv 3) pa_nil)))))) pss_nil))) pss_nil)))), ?_⟩
  refine ⟨_, rfl, g, rfl, ⟨_, .inl (.inl hg)⟩, ?_⟩
  have len := Paired.length hts
  refine for_tup (xs := ts.map V.ref) (fun i σ' H' => (∃ a b, σ' = [some (.ref S.p), some (.ref g), a, b]) ∧ Kp (foot q S) H H' ∧ ∃ ks', VAt cl H' q S (grp f (ws.take i)) ks') ⟨⟨none, none, rfl⟩, .refl, ks, V0⟩ (fun i σ' H' _ h => .inl (.inl (h.2.1.t _ _ hg))) (fun i x σ' H' hx h => ?_) (fun σ' H' h => ?_)
  · obtain ⟨⟨a, b, rfl⟩, kp, ks', V1⟩ := h
    rw [List.getElem?_map, Option.map_eq_some_iff] at hx
    obtain ⟨t, ht, rfl⟩ := hx
    obtain ⟨⟨k, vo⟩, hw, ht2⟩ := paired_at i t hts ht
    have hmem : (k, vo) ∈ ws := List.mem_of_getElem? hw
    have kok : KOk k := hk _ hmem
    have ht3 := kp.t _ _ ht2
    obtain ⟨dx, hob⟩ := V1.ob.ob
    rw [grp_take f hw]
    refine ⟨t, _, rfl, .inl (.inl ht3), rfl, _, _, rfl, _, _, rfl, rfl, ?_⟩
    refine ⟨_, rfl, S.p, _, dx, _, _, rfl, hob, tn, nc, fl_cover q S ks', _, rfl, S.c, q.cov.1, q.cov.2, k, rfl, V1.cv, _, rfl, ite2 (fun ec => ?_) (fun ec => ?_)⟩
    · have ec : inC q.cov k = true := ec
      refine ⟨fun σ2 H2 => σ2 = [some (.ref S.p), some (.ref g), some (.str k), some (optV vo)] ∧ ∃ ks2 f2, Kp (foot q S) H H2 ∧ VAt cl H2 q S f2 ks2 ∧ k ∉ ks2.map (·.1) ∧ wr f2 (k, none) = f2 ∧ wr f2 (k, vo) = wr (grp f (ws.take i)) (k, vo), ?_, fun σ2 H2 h2 => ?_⟩
      · refine ⟨_, rfl, _, rfl, S.p, _, dx, _, _, rfl, hob, tn, nk, fl_known q S ks', S.d, _, rfl, DGet.k (k := Sum.inr k) V1.dc, _, rfl, ite2 (fun ek => ?_) (fun ek => ?_)⟩
        · by_cases hin : k ∈ ks'.map (·.1)
          · obtain ⟨v, hv⟩ := key_mem hin
            obtain ⟨O, O2⟩ := vat_pop (k := k) V1
            obtain ⟨dx2, hob2⟩ := O.ob
            refine ⟨_, rfl, S.p, dx, _, rfl, hob, fl_cancel q S ks', _, rfl, _, rfl, S.p, _, dx, _, _, rfl, hob, tn, nk, fl_known q S ks', S.d, rfl, .inl ⟨_, .inl V1.dc⟩, _, rfl, _, Sum.inr k, _, V1.dc, rfl, dk_some V1.ob.nd hv, ?_⟩
            refine ⟨q, S, ks', k, v, rfl, rfl, O, hv, fun H2 kp2 O3 => ?_⟩
            obtain ⟨V2, kp3⟩ := O2 H2 kp2 O3
            exact ⟨rfl, _, _, kp.trans kp3, V2, cut_out, by rw [wr_wr], by rw [wr_wr]⟩
          · rw [dk_none hin] at ek
            cases ek
        · have hin : k ∉ ks'.map (·.1) := fun z => by
            obtain ⟨v, hv⟩ := key_mem z
            rw [dk_some V1.ob.nd hv] at ek
            exact ek rfl
          exact ⟨rfl, ks', _, kp, V1, hin, wr_same (wr_none V1.kn ec hin), rfl⟩
      · obtain ⟨rfl, ks2, f2, kp2, V2, hout, w0, w1⟩ := h2
        obtain ⟨dx2, hob2⟩ := V2.ob.ob
        rw [← w1]
        cases vo with
        | none =>
          refine ⟨_, rfl, rfl, _, rfl, iteF ⟨⟨_, _, rfl⟩, kp2, ks2, ?_⟩⟩
          rw [w0]
          exact V2
        | some v =>
          obtain ⟨O, O2⟩ := vat_put (k := k) (v := v) V2 ec hout
          obtain ⟨dx3, hob3⟩ := O.ob
          refine ⟨_, rfl, rfl, _, rfl, iteT ?_⟩
          refine ⟨_, rfl, _, rfl, S.p, _, dx2, _, _, rfl, hob2, tn, nk, fl_known q S ks2, _, rfl, S.d, _, rfl, .inl ⟨_, Sum.inr k, V2.dc, rfl, vat_len V2, rfl⟩, ?_⟩
          refine ⟨_, rfl, S.p, dx3, _, rfl, hob3, fl_put q S ks2, _, rfl, _, rfl, q, S, ks2, k, v, rfl, rfl, O, hout, kok, fun H3 kp3 O3 => ?_⟩
          obtain ⟨V3, kp4⟩ := O2 H3 kp3 O3
          exact ⟨⟨_, _, rfl⟩, kp2.trans kp4, _, V3⟩
    · exact ⟨⟨_, _, rfl⟩, kp, ks', wr_out V1.kn (Bool.eq_false_iff.mpr ec) |> fun K => ⟨V1.ob, V1.cv, V1.dc, K⟩⟩
  · obtain ⟨_, kp, ks', V1⟩ := h
    rw [List.length_map, len, List.take_length] at V1
    exact fin H' ks' kp V1
end
end LH
/-! View.__init__. -/
namespace LH
open PySem PySem.Spec L2
open PyProof.Rows (envOfC)

theorem val_none {kvs : List (Key × V)} {k : Key} (h : k ∉ kvs.map (·.1)) : valV kvs k = none := by
  induction kvs with
  | nil => rfl
  | cons p r ih =>
    rw [List.map_cons, List.mem_cons] at h
    rw [valV_neg (fun e => h (.inl e.symm))]
    exact ih fun z => h (.inr z)
theorem val_some {kvs : List (Key × V)} {k : Key} (h : k ∈ kvs.map (·.1)) : ∃ v, valV kvs k = some v := by
  induction kvs with
  | nil => cases h
  | cons p r ih =>
    by_cases e : p.1 = k
    · exact ⟨p.2, valV_pos e⟩
    · rw [List.map_cons, List.mem_cons] at h
      rw [valV_neg e]
      exact ih (h.resolve_left fun z => e z.symm)
/-- the keys of a dict of records as texts -/
theorem keys_txt : ∀ {kvs : List (Key × V)}, (∀ p ∈ kvs, ∃ k, p.1 = Sum.inr k ∧ KOk k) → ∃ l : List Str, kvs.map (·.1) = l.map Sum.inr ∧ ∀ x ∈ l, KOk x
  | [], _ => ⟨[], rfl, fun _ h => by cases h⟩
  | p :: r, h => by
    obtain ⟨k, e, ok⟩ := h p (by simp)
    obtain ⟨l, e2, h2⟩ := keys_txt (kvs := r) fun q hq => h q (by simp [hq])
    exact ⟨k :: l, by rw [List.map_cons, List.map_cons, e, e2], fun x hx => by
      rcases List.mem_cons.mp hx with z | z
      · rw [z]; exact ok
      · exact h2 x z⟩
theorem nd_txt {kvs : List (Key × V)} {l : List Str} (nd : (kvs.map (·.1)).Nodup) (e : kvs.map (·.1) = l.map Sum.inr) : l.Nodup := by
  rw [e] at nd
  exact List.Pairwise.of_map (S := fun a b => a ≠ b) Sum.inr (fun a b h z => h (by rw [z])) nd
theorem few_txt {l : List Str} (nd : l.Nodup) (h : ∀ x ∈ l, KOk x) : l.length ≤ 12 := by
  have e : (l.map fun x => ((x, 0) : Row)).map (·.1) = l := by rw [List.map_map]; exact List.map_id l
  have := few (ks := l.map fun x => ((x, 0) : Row)) (by rw [e]; exact nd) fun p hp => by
    obtain ⟨x, hx, rfl⟩ := List.mem_map.mp hp
    exact h x hx
  rw [List.length_map] at this
  exact this
theorem rep_keys {kvs : List (Key × V)} {f : Fn} (R : RepI kvs f) : ∃ l : List Str, kvs.map (·.1) = l.map Sum.inr ∧ l.Nodup ∧ (∀ x ∈ l, KOk x) ∧ l.length ≤ 12 ∧ (∀ x ∈ l, ∃ v, f x = some v) ∧ ∀ x, x ∉ l → f x = none := by
  obtain ⟨l, e, h⟩ := keys_txt R.ks
  have nd := nd_txt R.nd e
  refine ⟨l, e, nd, h, few_txt nd h, fun x hx => ?_, fun x hx => ?_⟩
  · obtain ⟨v, hv⟩ := val_some (kvs := kvs) (k := Sum.inr x) (by rw [e]; exact List.mem_map.mpr ⟨x, hx, rfl⟩)
    rw [R.val] at hv
    cases z : f x with
    | none => rw [z] at hv; cases hv
    | some i => exact ⟨i, rfl⟩
  · have hv := val_none (kvs := kvs) (k := Sum.inr x) (by
      rw [e]
      intro z
      obtain ⟨y, hy, ey⟩ := List.mem_map.mp z
      cases ey
      exact hx hy)
    rw [R.val] at hv
    cases z : f x with
    | none => rfl
    | some i => rw [z] at hv; cases hv
section
variable {P : Program} {w : World} {K : PySem.W.Frag} {mg : Str → Option Value} {base : Heap} {cl : ClsOf}
def spInit (cl : ClsOf) (kd : Kd) : Sp := fun vs H Q _ => ∃ (q : Qu) (p qa rd l dx : Addr) (kvs : List (Key × V)) (f : Fn), vs = [.ref p, .ref qa, .ref rd] ∧ q.kd = kd ∧ H p = some (.ins (cl kd) dx (exOf q l [])) ∧ H qa = some (.tup q.vals) ∧
  (q.isL = true → H l = some (.lst [])) ∧ H rd = some (.dK kvs) ∧ RepI kvs f ∧ ∀ S ks H', S.p = p → S.l = l → S.qa = qa → Kp (footP q S) H H' → VAt cl H' q S f ks → H S.d = none → Q .non H'
theorem len_init {cl : ClsOf} {kd : Kd} : ∀ vs H Q E, spInit cl kd vs H Q E → vs.length = 3 := by
  rintro vs H Q E ⟨q, p, qa, rd, l, dx, kvs, f, rfl, _⟩
  rfl
theorem sc_View___init__ : FnScope ["self", "question", "records", "key"] ["self", "question", "records"] (defScope (inClass (top 12) 0)) := ⟨rfl, rfl, rfl, by decide +kernel, rfl, by decide +kernel, by decide +kernel⟩
theorem ok_View_init {kd : Kd} (T : Bl mg) (TV : VT K cl) (c_contains : Cl P w K mg base 1 "contains" spContains) (c_view_cover : Cl P w K mg base 2 "view_cover" (spCover true)) (m_put : Mt P w K mg base 3 (cl kd) "put" (spPut cl kd))
    {fa : Addr} {fd : FuncData} (D : Fun K "__init__" "View.__init__" (inClass (top 12) 0) fa fd) : FnOk P w K mg base CX0 4 fa fd ["self", "question", "records"] (spInit cl kd) := by
  refine D.ok sc_View___init__ len_init (fun cdv A outer s H vs Q E hr h => ?_)
  obtain ⟨q, p, qa, rd, l, dx, kvs, f, rfl, e, hp, hq, hl, hrd, R, fin⟩ := h
  have hu := hu_of hr
  have tn := TV.c kd
  have nq := TV.nq kd
  have nc := TV.nc kd
  have nk := TV.nk kd
  subst e
  obtain ⟨lk, elk, ndk, okk, fewk, somek, nonek⟩ := rep_keys R
  refine ⟨_, (pss_cons (ps_fld (pv 0) (pv 1) rfl)
      (pss_cons (ps_fld (pv 0) (cl_c c_view_cover hr (by decide) (by rfl) (pa_cons (pv 1) pa_nil)) rfl)
      (pss_cons (ps_fld (pv 0) pe_dnewK rfl)
      (pss_one (ps_for PassesOwn.never rfl (pi_list (pe_callB (call_sortedD rfl) (by rfl) T.sorted (by decide +kernel) (pa_cons (pv 2) pa_nil))) (pg_name (i := 3) sc_View___init__.nd rfl (Or.inl rfl))
        (pss_one (ps_if (pt_val (cl_c c_contains hr (by decide) (by rfl) (pa_cons (pe_fld (pv 0) rfl) (pa_cons (pv 3) pa_nil)))) (pss_cons (ps_dput hu (pe_fld (pv 0) rfl) (pv 3) (pe_dget hu (pv 2) (pv 3) (fun _ _ => rfl)) rfl)
          (pss_one (ps_expr (mt_m m_put hr (by decide) (pv 0) (pa_cons (pv 3) (pa_cons (pe_dget hu (pv 2) (pv 3) (fun _ _ => rfl)) pa_nil)))))) pss_nil))))))), ?_⟩
  have f1 : putF "question" (V.ref qa) (exOf q l []) = exOf q l [] ++ ([("question", V.ref qa)] : List (Str × V)) := by cases q <;> rfl
  have f2 : ∀ c, putF "cover" (V.ref c) (putF "question" (V.ref qa) (exOf q l [])) = exOf q l [] ++ ([("question", V.ref qa), ("cover", V.ref c)] : List (Str × V)) := fun c => by cases q <;> rfl
  have f3 : ∀ c d, putF "known" (V.ref d) (putF "cover" (V.ref c) (putF "question" (V.ref qa) (exOf q l []))) = fldsOf q ⟨p, d, c, qa, l⟩ [] := fun c d => by cases q <;> rfl
  have exl : (exOf q l []).length ≤ 1 := by cases q <;> first | exact Nat.le_refl 1 | exact Nat.zero_le 1
  have npq : qa ≠ p := ne_of hq hp (by intro z; cases z)
  have k1 : Kp [p] H (upd H p (.ins (cl q.kd) dx (putF "question" (V.ref qa) (exOf q l [])))) := Kp.refl.mut (by simp) hp (by intro xs z; cases z)
  refine ⟨_, rfl, _, rfl, p, _, dx, _, rfl, hp, tn, nq, (by omega), ?_⟩
  refine ⟨_, rfl, qa, q, rfl, k1.t _ _ hq, (by intro z; cases z), fun c H1 kc hc => ?_⟩
  have k2 : Kp [p] H H1 := k1.trans kc.nil
  have hp1 := kc.k _ _ upd_same (by simp)
  have k3 : Kp [p] H (upd H1 p (.ins (cl q.kd) dx (putF "cover" (V.ref c) (putF "question" (V.ref qa) (exOf q l []))))) := k2.mut (by simp) hp1 (by intro xs z; cases z)
  refine ⟨_, rfl, p, _, dx, _, rfl, hp1, tn, nc, (by rw [f1, List.length_append]; show _ + 1 < 1000; omega), ?_⟩
  intro d hd
  have hp2 : (upd (upd H1 p (.ins (cl q.kd) dx (putF "cover" (V.ref c) (putF "question" (V.ref qa) (exOf q l []))))) d (.dK [])) p = some (.ins (cl q.kd) dx (putF "cover" (V.ref c) (putF "question" (V.ref qa) (exOf q l [])))) := by
    rw [upd_ne (ne_of_none upd_same hd), upd_same]
  have k4 : Kp [p] H (upd (upd H1 p (.ins (cl q.kd) dx (putF "cover" (V.ref c) (putF "question" (V.ref qa) (exOf q l []))))) d (.dK [])) := k3.new hd
  have npd : p ≠ d := ne_of_none upd_same hd
  have hd0 : H d = none := k3.d _ hd
  refine ⟨_, rfl, p, _, dx, _, rfl, hp2, tn, nk, (by rw [f2, List.length_append]; show _ + 2 < 1000; omega), ?_⟩
  have k5 : Kp [p] H (upd (upd (upd H1 p (.ins (cl q.kd) dx (putF "cover" (V.ref c) (putF "question" (V.ref qa) (exOf q l []))))) d (.dK [])) p (.ins (cl q.kd) dx (putF "known" (V.ref d) (putF "cover" (V.ref c) (putF "question" (V.ref qa) (exOf q l [])))))) := k4.mut (by simp) hp2 (by intro xs z; cases z)
  rw [f3 c d] at k5 ⊢
  generalize eH : upd (upd (upd H1 p (.ins (cl q.kd) dx (putF "cover" (V.ref c) (putF "question" (V.ref qa) (exOf q l []))))) d (.dK [])) p (.ins (cl q.kd) dx (fldsOf q ⟨p, d, c, qa, l⟩ [])) = H5 at k5 ⊢
  have V5 : VAt cl H5 q ⟨p, d, c, qa, l⟩ (fun _ => none) [] := by
    refine ⟨⟨⟨dx, by rw [← eH]; exact upd_same⟩, k5.t _ _ hq, fun z => ⟨[], [], ?_, .nil, it_nil q⟩, List.nodup_nil, fun _ z => by cases z⟩, ?_, ?_, ⟨List.nodup_nil, fun k v => by simp⟩⟩
    · have n := ne_of (hl z) hp (by intro z; cases z)
      exact k5.k _ _ (hl z) (by simpa using n)
    · have : Kp [p] H1 H5 := by
        rw [← eH]
        have a := (Kp.refl (F := [p]) (H := H1)).mut (p := p) (o := .ins (cl q.kd) dx (putF "cover" (V.ref c) (putF "question" (V.ref qa) (exOf q l [])))) (by simp) hp1 (by intro xs z; cases z)
        exact (a.new hd).mut (by simp) hp2 (by intro xs z; cases z)
      exact this.t _ _ hc
    · rw [← eH, upd_ne npd.symm]; exact upd_same
  have nrp : rd ≠ p := ne_of hrd hp (by intro z; cases z)
  have hrd5 : H5 rd = some (.dK kvs) := k5.k _ _ hrd (by simpa using nrp)
  have nrd : rd ≠ d := ne_of_none hrd hd0
  have nrf : rd ∉ foot q ⟨p, d, c, qa, l⟩ := by
    unfold foot
    by_cases z : q.isL = true
    · have n := ne_of hrd (hl z) (by intro z; cases z)
      rw [if_pos z]; simp [nrp, nrd, n]
    · rw [if_neg z]; simp [nrp, nrd]
  refine ⟨_, rfl, rd, kvs, lk, rfl, .inl hrd5, elk, (by omega), fun ys r hperm hso hr0 => ⟨r, rfl, ⟨_, .inl (.inl upd_same)⟩, ?_⟩⟩
  have ky : ∀ y, y ∈ ys ↔ y ∈ lk := fun y => hperm.mem_iff
  have ndy : ys.Nodup := hperm.nodup_iff.mpr ndk
  have k6 : Kp (foot q ⟨p, d, c, qa, l⟩) H5 (upd H5 r (.lst (ys.map V.str))) := Kp.refl.new hr0
  have nrl : r ∉ foot q ⟨p, d, c, qa, l⟩ := by
    obtain ⟨dx', hob⟩ := V5.ob.ob
    unfold foot
    by_cases z : q.isL = true
    · obtain ⟨_, _, hll, _⟩ := V5.ob.li z
      rw [if_pos z]; simp [(ne_of_none hob hr0).symm, (ne_of_none V5.dc hr0).symm, (ne_of_none hll hr0).symm]
    · rw [if_neg z]; simp [(ne_of_none hob hr0).symm, (ne_of_none V5.dc hr0).symm]
  refine for_list (xs := ys.map V.str) (fun i σ' H' => (∃ a, σ' = [some (.ref p), some (.ref qa), some (.ref rd), a]) ∧ Kp (foot q ⟨p, d, c, qa, l⟩) H5 H' ∧ H' r = some (.lst (ys.map V.str)) ∧ ∃ ks', VAt cl H' q ⟨p, d, c, qa, l⟩ (grp (fun _ => none) ((ys.take i).map fun k => (k, f k))) ks')
    ⟨⟨none, rfl⟩, k6, upd_same, [], vat_kp V5 (Kp.refl.new (F := []) hr0) (by simp)⟩ (fun i σ' H' _ h => .inl (.inl h.2.2.1)) (fun i x σ' H' hx h => ?_) (fun σ' H' h => ?_)
  · obtain ⟨⟨a, rfl⟩, kp, hlr, ks', V1⟩ := h
    rw [List.getElem?_map, Option.map_eq_some_iff] at hx
    obtain ⟨k, hk, rfl⟩ := hx
    have hmem : k ∈ ys := List.mem_of_getElem? hk
    obtain ⟨v, hv⟩ := somek k ((ky k).mp hmem)
    have kok := okk k ((ky k).mp hmem)
    obtain ⟨dx1, hob⟩ := V1.ob.ob
    have step : grp (fun _ => none) ((ys.take (i + 1)).map fun k => (k, f k)) = wr (grp (fun _ => none) ((ys.take i).map fun k => (k, f k))) (k, some v) := by
      rw [List.take_add_one, hk, List.map_append]
      show grp _ (_ ++ [(k, f k)]) = _
      rw [grp_snoc, hv]
    have old : k ∉ ys.take i := fun z => by
      obtain ⟨j, hj, ej⟩ := List.mem_iff_getElem.mp z
      rw [List.getElem_take] at ej
      rw [List.length_take] at hj
      obtain ⟨hi, ei⟩ := List.getElem?_eq_some_iff.mp hk
      exact (List.pairwise_iff_getElem.mp ndy) j i (by omega) hi (by omega) (ej.trans ei.symm)
    have out : k ∉ ks'.map (·.1) := fun z => by
      obtain ⟨v', hv'⟩ := key_mem z
      have := ((V1.kn.mem k v').mp hv').1
      rw [grp_map, if_neg old] at this
      cases this
    have hrd1 : H' rd = some (.dK kvs) := kp.k _ _ hrd5 nrf
    have vget : valV kvs (Sum.inr k) = some (.int v) := by rw [R.val, hv]; rfl
    rw [step]
    refine ⟨_, rfl, p, _, dx1, _, _, rfl, hob, tn, nc, fl_cover q ⟨p, d, c, qa, l⟩ ks', _, rfl, c, q.cov.1, q.cov.2, k, rfl, V1.cv, _, rfl, ite2 (fun ec => ?_) (fun ec => ?_)⟩
    · have ec : inC q.cov k = true := ec
      obtain ⟨O, O2⟩ := vat_put (k := k) (v := v) V1 ec out
      obtain ⟨dx3, hob3⟩ := O.ob
      refine ⟨_, rfl, _, rfl, rd, .int v, rfl, (by rw [← vget]; exact DGet.k (k := Sum.inr k) hrd1), ?_⟩
      refine ⟨_, rfl, p, _, dx1, _, _, rfl, hob, tn, nk, fl_known q ⟨p, d, c, qa, l⟩ ks', _, rfl, d, _, rfl, .inl ⟨_, Sum.inr k, V1.dc, rfl, vat_len V1, rfl⟩, ?_⟩
      have hrd2 : (upd H' d (.dK (putK (dk ks') (Sum.inr k) (.int v)))) rd = some (.dK kvs) := by rw [upd_ne nrd]; exact hrd1
      refine ⟨_, rfl, p, dx3, _, rfl, hob3, fl_put q ⟨p, d, c, qa, l⟩ ks', _, rfl, _, rfl, _, rfl, rd, .int v, rfl, (by rw [← vget]; exact DGet.k (k := Sum.inr k) hrd2), ?_⟩
      refine ⟨q, ⟨p, d, c, qa, l⟩, ks', k, v, rfl, rfl, O, out, kok, fun H3 kp3 O3 => ?_⟩
      obtain ⟨V3, kp4⟩ := O2 H3 kp3 O3
      exact ⟨⟨_, rfl⟩, kp.trans kp4, kp4.k _ _ hlr nrl, _, V3⟩
    · exact ⟨⟨_, rfl⟩, kp, hlr, ks', V1.ob, V1.cv, V1.dc, wr_out V1.kn (Bool.eq_false_iff.mpr ec)⟩
  · obtain ⟨_, kp, _, ks', V1⟩ := h
    have ef : grp (fun _ => none) (((ys.take (ys.map V.str).length)).map fun k => (k, f k)) = f := by
      rw [List.length_map, List.take_length]
      funext x
      rw [grp_map]
      split
      · rfl
      · rename_i n
        exact (nonek x fun z => n ((ky x).mpr z)).symm
    rw [ef] at V1
    refine fin ⟨p, d, c, qa, l⟩ ks' H' rfl rfl rfl ?_ V1 hd0
    refine Kp.fresh (k5.mono fun x hx => ?_) kp fun x hx => ?_
    · rw [List.mem_singleton.mp hx]; unfold footP; split <;> simp
    · unfold foot at hx
      unfold footP
      split at hx <;> rename_i z
      · rw [if_pos z]
        simp at hx ⊢
        rcases hx with h | h | h
        · exact .inl (.inl h)
        · exact .inr (by rw [h]; exact hd0)
        · exact .inl (.inr h)
      · rw [if_neg z]
        simp at hx ⊢
        rcases hx with h | h
        · exact .inl h
        · exact .inr (by rw [h]; exact hd0)
end
end LH
/-! The views' own __init__; make_view. -/
namespace LH
open PySem PySem.Spec L2
open PyProof.Rows (envOfC)

/-- an own class whose __init__ calls the View's -/
structure SupIn (P : Program) (K : PySem.W.Frag) (mg : Str → Option Value) (C : Addr) (qual : Str) (st stV : Stmt) : Prop where
  ex : ∃ (D f fV cc cda : Addr) (kV doc pm : Value) (an : Option Addr) (ct : Value) (fdV : FuncData), Mk K C f ∧
    SupK P K mg C D f fV cc cda (PySem.W.ksFn "__init__" qual (defArgs st) (defBody st) (defScope st) .none kV doc pm an (.ref cda) ct cc) ∧ PySem.W.codeIn K (.ref cda) qual = true ∧
    Binds K (PySem.W.ksFn "__init__" qual (defArgs st) (defBody st) (defScope st) .none kV doc pm an (.ref cda) ct cc) psSup [] ∧ Fun K "__init__" "View.__init__" stV fV fdV ∧ Binds K fdV psSup []
/-- an own class that takes the View's __init__ -/
structure OwnIn (K : PySem.W.Frag) (C : Addr) (stV : Stmt) : Prop where
  ex : ∃ (f : Addr) (fd : FuncData), Mk K C f ∧ Fun K "__init__" "View.__init__" stV f fd ∧ Binds K fd psSup []
section
variable {P : Program} {w : World} {K : PySem.W.Frag} {mg : Str → Option Value} {base : Heap} {cl : ClsOf}
/-- the promise of a class of views -/
def spCls (cl : ClsOf) (kd : Kd) : Sp := fun vs H Q _ => ∃ (q : Qu) (p qa rd dx : Addr) (kvs : List (Key × V)) (f : Fn), vs = [.ref p, .ref qa, .ref rd] ∧ q.kd = kd ∧ H p = some (.ins (cl kd) dx []) ∧ H qa = some (.tup q.vals) ∧
  H rd = some (.dK kvs) ∧ RepI kvs f ∧ ∀ S ks H', S.p = p → Kp [p] H H' → VAt cl H' q S f ks → (∀ a ∈ foot q S, a = p ∨ H a = none) → Q .non H'
theorem len_cls {cl : ClsOf} {kd : Kd} : ∀ vs H Q E, spCls cl kd vs H Q E → vs.length = 3 := by
  rintro vs H Q E ⟨q, p, qa, rd, dx, kvs, f, rfl, _⟩
  rfl
theorem foot_d {q : Qu} {S : VS} (h : q.isL = false) : foot q S = [S.p, S.d] := by unfold foot; rw [h]; rfl
theorem footP_d {q : Qu} {S : VS} (h : q.isL = false) : footP q S = [S.p] := by unfold footP; rw [h]; rfl
theorem foot_l {q : Qu} {S : VS} (h : q.isL = true) : foot q S = [S.p, S.d, S.l] := by unfold foot; rw [h]; rfl
theorem footP_l {q : Qu} {S : VS} (h : q.isL = true) : footP q S = [S.p, S.l] := by unfold footP; rw [h]; rfl
/-- from what stands behind the first line to what is promised: a class without a list -/
theorem cls_flat {q : Qu} {p qa rd dx : Addr} {kvs : List (Key × V)} {f : Fn} {H : Hp} {Q : VK} (hq : q.isL = false) (hp : H p = some (.ins (cl q.kd) dx [])) (hqa : H qa = some (.tup q.vals)) (hrd : H rd = some (.dK kvs)) (R : RepI kvs f)
    (fin : ∀ S ks H', S.p = p → Kp [p] H H' → VAt cl H' q S f ks → (∀ a ∈ foot q S, a = p ∨ H a = none) → Q .non H') : spInit cl q.kd [.ref p, .ref qa, .ref rd] (upd H p (.ins (cl q.kd) dx (exOf q p []))) (fun _ H2 => Q .non H2) E0 := by
  have k1 : Kp [p] H (upd H p (.ins (cl q.kd) dx (exOf q p []))) := Kp.refl.mut (by simp) hp (by intro xs z; cases z)
  have n1 : rd ≠ p := ne_of hrd hp (by intro z; cases z)
  refine ⟨q, p, qa, rd, p, dx, kvs, f, rfl, rfl, upd_same, k1.t _ _ hqa, fun z => (by rw [hq] at z; cases z), k1.k _ _ hrd (by simpa using n1), R, fun S ks H' e1 _ _ kp V hd => ?_⟩
  rw [footP_d hq, e1] at kp
  refine fin S ks H' e1 (k1.trans kp) V fun a ha => ?_
  rw [foot_d hq] at ha
  simp at ha
  rcases ha with h | h
  · exact .inl (h.trans e1)
  · exact .inr (by rw [h]; exact k1.d _ hd)
/-- .. with one -/
theorem cls_list {q : Qu} {p qa rd dx l : Addr} {kvs : List (Key × V)} {f : Fn} {H : Hp} {Q : VK} (hq : q.isL = true) (hp : H p = some (.ins (cl q.kd) dx [])) (hqa : H qa = some (.tup q.vals)) (hrd : H rd = some (.dK kvs)) (R : RepI kvs f) (hl : H l = none)
    (fin : ∀ S ks H', S.p = p → Kp [p] H H' → VAt cl H' q S f ks → (∀ a ∈ foot q S, a = p ∨ H a = none) → Q .non H') : spInit cl q.kd [.ref p, .ref qa, .ref rd] (upd (upd H l (.lst [])) p (.ins (cl q.kd) dx (exOf q l []))) (fun _ H2 => Q .non H2) E0 := by
  have n0 : p ≠ l := ne_of_none hp hl
  have hp1 : (upd H l (.lst [])) p = some (.ins (cl q.kd) dx []) := by rw [upd_ne n0]; exact hp
  have k1 : Kp [p] H (upd (upd H l (.lst [])) p (.ins (cl q.kd) dx (exOf q l []))) := (Kp.refl.new hl).mut (by simp) hp1 (by intro xs z; cases z)
  have n1 : rd ≠ p := ne_of hrd hp (by intro z; cases z)
  refine ⟨q, p, qa, rd, l, dx, kvs, f, rfl, rfl, upd_same, k1.t _ _ hqa, fun _ => (by rw [upd_ne n0.symm]; exact upd_same), k1.k _ _ hrd (by simpa using n1), R, fun S ks H' e1 e2 _ kp V hd => ?_⟩
  rw [footP_l hq, e1, e2] at kp
  refine fin S ks H' e1 (Kp.fresh k1 kp fun x hx => ?_) V fun a ha => ?_
  · simp at hx
    rcases hx with h | h
    · exact .inl (by simp [h])
    · exact .inr (by rw [h]; exact hl)
  rw [foot_l hq] at ha
  simp at ha
  rcases ha with h | h | h
  · exact .inl (h.trans e1)
  · exact .inr (by rw [h]; exact k1.d _ hd)
  · exact .inr (by rw [h, e2]; exact hl)
theorem upd_upd {H : Hp} {a : Addr} {o o' : HO} : upd (upd H a o) a o' = upd H a o' := by
  funext x
  by_cases e : x = a
  · subst e; rw [upd_same, upd_same]
  · rw [upd_ne e, upd_ne e, upd_ne e]
theorem upd_id {H : Hp} {a : Addr} {o : HO} (h : H a = some o) : upd H a o = H := by
  funext x
  by_cases e : x = a
  · subst e; rw [upd_same, h]
  · rw [upd_ne e]
theorem only_cls {l : List (Str × NameKind)} {x : Str} (h : ∀ p ∈ l, p.2 = .free → p.1 = "__class__") (e : l.lookup x = some .free) : x = "__class__" := by
  exact h _ (PySem.mem_of_lookup e) rfl
theorem k_own {kd : Kd} {x : Str} (hkd : kd = .get ∨ kd = .count) (T : Bl mg) (TV : VT K cl) (c_contains : Cl P w K mg base 1 "contains" spContains) (c_view_cover : Cl P w K mg base 2 "view_cover" (spCover true)) (m_put : Mt P w K mg base 3 (cl kd) "put" (spPut cl kd))
    (D : OwnIn K (cl kd) (inClass (top 12) 0)) (gx : mg x = some (.ref (cl kd))) : Mk1 P w K mg base 5 x (cl kd) (spCls cl kd) := by
  obtain ⟨f, fd, M, F, b⟩ := D.ex
  refine ⟨f, fd, psSup, M, ((ok_View_init T TV c_contains c_view_cover m_put F).mono (by decide)).imp fun vs H Q E h => ?_, gx, b⟩
  obtain ⟨q, p, qa, rd, dx, kvs, f, rfl, e, hp, hqa, hrd, R, fin⟩ := h
  have hq : q.isL = false := by cases q <;> first | rfl | (exfalso; rcases hkd with z | z <;> (rw [z] at e; cases e))
  subst e
  have z := cls_flat (Q := Q) hq hp hqa hrd R fin
  have e0 : exOf q p [] = [] := by cases q <;> first | rfl | (exfalso; rcases hkd with z | z <;> cases z)
  rw [e0, upd_id hp] at z
  obtain ⟨q', p', qa', rd', l', dx', kvs', f', a1, a2, a3, a4, a5, a6, a7, a8⟩ := z
  exact ⟨q', p', qa', rd', l', dx', kvs', f', a1, a2, a3, a4, a5, a6, a7, a8⟩
theorem k_SumView (T : Bl mg) (TV : VT K cl) (c_contains : Cl P w K mg base 1 "contains" spContains) (c_view_cover : Cl P w K mg base 2 "view_cover" (spCover true)) (m_put : Mt P w K mg base 3 (cl .sum) "put" (spPut cl .sum))
    (D : SupIn P K mg (cl .sum) "SumView.__init__" (inClass (top 15) 0) (inClass (top 12) 0)) (gx : mg "SumView" = some (.ref (cl .sum))) : Mk1 P w K mg base 5 "SumView" (cl .sum) (spCls cl .sum) := by
  obtain ⟨Dc, f, fV, cc, cda, kV, doc, pm, an, ct, fdV, M, SK, hcd, b, FV, bV⟩ := D.ex
  have FV := ok_View_init (kd := .sum) T TV c_contains c_view_cover m_put FV
  refine ⟨f, _, psSup, M, ok_sup (fun _ => rfl) (by decide +kernel) (by decide +kernel) (by decide +kernel) rfl rfl rfl (fun x h => only_cls (by decide +kernel) h) (by decide +kernel) SK hcd rfl FV bV len_cls (fun A outer s H vs Q E hr h => ?_), gx, b⟩
  obtain ⟨q, p, qa, rd, dx, kvs, f, rfl, e, hp, hqa, hrd, R, fin⟩ := h
  cases q <;> try (cases e)
  refine ⟨p, _, _, _, rfl, (ps_fld (pv 0) pe_int rfl), ?_⟩
  refine ⟨_, rfl, p, _, dx, _, rfl, hp, TV.c _, TV.nt, (by show 0 < 1000; decide), rfl, ⟨dx, _, upd_same⟩, ?_⟩
  exact cls_flat (Q := Q) rfl hp hqa hrd R fin
theorem k_ListView (T : Bl mg) (TV : VT K cl) (c_contains : Cl P w K mg base 1 "contains" spContains) (c_view_cover : Cl P w K mg base 2 "view_cover" (spCover true)) (m_put : Mt P w K mg base 3 (cl .list) "put" (spPut cl .list))
    (D : SupIn P K mg (cl .list) "ListView.__init__" (inClass (top 16) 0) (inClass (top 12) 0)) (gx : mg "ListView" = some (.ref (cl .list))) : Mk1 P w K mg base 5 "ListView" (cl .list) (spCls cl .list) := by
  obtain ⟨Dc, f, fV, cc, cda, kV, doc, pm, an, ct, fdV, M, SK, hcd, b, FV, bV⟩ := D.ex
  have FV := ok_View_init (kd := .list) T TV c_contains c_view_cover m_put FV
  refine ⟨f, _, psSup, M, ok_sup (fun _ => rfl) (by decide +kernel) (by decide +kernel) (by decide +kernel) rfl rfl rfl (fun x h => only_cls (by decide +kernel) h) (by decide +kernel) SK hcd rfl FV bV len_cls (fun A outer s H vs Q E hr h => ?_), gx, b⟩
  obtain ⟨q, p, qa, rd, dx, kvs, f, rfl, e, hp, hqa, hrd, R, fin⟩ := h
  cases q <;> try (cases e)
  refine ⟨p, _, _, _, rfl, (ps_fld (pv 0) (pe_lst pa_nil) rfl), ?_⟩
  refine ⟨Nat.zero_le _, fun l hl => ?_⟩
  refine ⟨_, rfl, p, _, dx, _, rfl, by rw [upd_ne (ne_of_none hp hl)]; exact hp, TV.c _, TV.r1, (by show 0 < 1000; decide), rfl, ⟨dx, _, upd_same⟩, ?_⟩
  exact cls_list (Q := Q) rfl hp hqa hrd R hl fin
theorem k_LeastView (T : Bl mg) (TV : VT K cl) (c_contains : Cl P w K mg base 1 "contains" spContains) (c_view_cover : Cl P w K mg base 2 "view_cover" (spCover true)) (m_put : Mt P w K mg base 3 (cl .least) "put" (spPut cl .least))
    (D : SupIn P K mg (cl .least) "LeastView.__init__" (inClass (top 17) 0) (inClass (top 12) 0)) (gx : mg "LeastView" = some (.ref (cl .least))) : Mk1 P w K mg base 5 "LeastView" (cl .least) (spCls cl .least) := by
  obtain ⟨Dc, f, fV, cc, cda, kV, doc, pm, an, ct, fdV, M, SK, hcd, b, FV, bV⟩ := D.ex
  have FV := ok_View_init (kd := .least) T TV c_contains c_view_cover m_put FV
  refine ⟨f, _, psSup, M, ok_sup (fun _ => rfl) (by decide +kernel) (by decide +kernel) (by decide +kernel) rfl rfl rfl (fun x h => only_cls (by decide +kernel) h) (by decide +kernel) SK hcd rfl FV bV len_cls (fun A outer s H vs Q E hr h => ?_), gx, b⟩
  obtain ⟨q, p, qa, rd, dx, kvs, f, rfl, e, hp, hqa, hrd, R, fin⟩ := h
  cases q <;> try (cases e)
  refine ⟨p, _, _, _, rfl, (ps_fld (pv 0) (pe_lst pa_nil) rfl), ?_⟩
  refine ⟨Nat.zero_le _, fun l hl => ?_⟩
  refine ⟨_, rfl, p, _, dx, _, rfl, by rw [upd_ne (ne_of_none hp hl)]; exact hp, TV.c _, TV.a1, (by show 0 < 1000; decide), rfl, ⟨dx, _, upd_same⟩, ?_⟩
  exact cls_list (Q := Q) rfl hp hqa hrd R hl fin
theorem k_TopView (T : Bl mg) (TV : VT K cl) (c_contains : Cl P w K mg base 1 "contains" spContains) (c_view_cover : Cl P w K mg base 2 "view_cover" (spCover true)) (m_put : Mt P w K mg base 3 (cl .top) "put" (spPut cl .top))
    (D : SupIn P K mg (cl .top) "TopView.__init__" (inClass (top 18) 0) (inClass (top 12) 0)) (gx : mg "TopView" = some (.ref (cl .top))) : Mk1 P w K mg base 5 "TopView" (cl .top) (spCls cl .top) := by
  obtain ⟨Dc, f, fV, cc, cda, kV, doc, pm, an, ct, fdV, M, SK, hcd, b, FV, bV⟩ := D.ex
  have FV := ok_View_init (kd := .top) T TV c_contains c_view_cover m_put FV
  refine ⟨f, _, psSup, M, ok_sup (fun _ => rfl) (by decide +kernel) (by decide +kernel) (by decide +kernel) rfl rfl rfl (fun x h => only_cls (by decide +kernel) h) (by decide +kernel) SK hcd rfl FV bV len_cls (fun A outer s H vs Q E hr h => ?_), gx, b⟩
  obtain ⟨q, p, qa, rd, dx, kvs, f, rfl, e, hp, hqa, hrd, R, fin⟩ := h
  cases q <;> try (cases e)
  refine ⟨p, _, _, _, rfl, (ps_fld (pv 0) (pe_lst pa_nil) rfl), ?_⟩
  refine ⟨Nat.zero_le _, fun l hl => ?_⟩
  refine ⟨_, rfl, p, _, dx, _, rfl, by rw [upd_ne (ne_of_none hp hl)]; exact hp, TV.c _, TV.a2, (by show 0 < 1000; decide), rfl, ⟨dx, _, upd_same⟩, ?_⟩
  exact cls_list (Q := Q) rfl hp hqa hrd R hl fin
theorem k_WhereView (T : Bl mg) (TV : VT K cl) (c_contains : Cl P w K mg base 1 "contains" spContains) (c_view_cover : Cl P w K mg base 2 "view_cover" (spCover true)) (m_put : Mt P w K mg base 3 (cl .whr) "put" (spPut cl .whr))
    (D : SupIn P K mg (cl .whr) "WhereView.__init__" (inClass (top 19) 0) (inClass (top 12) 0)) (gx : mg "WhereView" = some (.ref (cl .whr))) : Mk1 P w K mg base 5 "WhereView" (cl .whr) (spCls cl .whr) := by
  obtain ⟨Dc, f, fV, cc, cda, kV, doc, pm, an, ct, fdV, M, SK, hcd, b, FV, bV⟩ := D.ex
  have FV := ok_View_init (kd := .whr) T TV c_contains c_view_cover m_put FV
  refine ⟨f, _, psSup, M, ok_sup (fun _ => rfl) (by decide +kernel) (by decide +kernel) (by decide +kernel) rfl rfl rfl (fun x h => only_cls (by decide +kernel) h) (by decide +kernel) SK hcd rfl FV bV len_cls (fun A outer s H vs Q E hr h => ?_), gx, b⟩
  obtain ⟨q, p, qa, rd, dx, kvs, f, rfl, e, hp, hqa, hrd, R, fin⟩ := h
  cases q <;> try (cases e)
  refine ⟨p, _, _, _, rfl, (ps_fld (pv 0) (pe_lst pa_nil) rfl), ?_⟩
  refine ⟨Nat.zero_le _, fun l hl => ?_⟩
  refine ⟨_, rfl, p, _, dx, _, rfl, by rw [upd_ne (ne_of_none hp hl)]; exact hp, TV.c _, TV.r2, (by show 0 < 1000; decide), rfl, ⟨dx, _, upd_same⟩, ?_⟩
  exact cls_list (Q := Q) rfl hp hqa hrd R hl fin
end
end LH
/-! make_view and the answers. -/
namespace LH
open PySem PySem.Spec L2
open PyProof.Rows (envOfC)
section
variable {P : Program} {w : World} {K : PySem.W.Frag} {mg : Str → Option Value} {base : Heap} {cl : ClsOf}
def spMake (cl : ClsOf) : Sp := fun vs H Q _ => ∃ (q : Qu) (qa rd : Addr) (kvs : List (Key × V)) (f : Fn), vs = [.ref qa, .ref rd] ∧ H qa = some (.tup q.vals) ∧ H rd = some (.dK kvs) ∧ RepI kvs f ∧
  ∀ S ks H', Kp [] H H' → VAt cl H' q S f ks → (∀ a ∈ foot q S, H a = none) → Q (.ref S.p) H'
theorem make_one {q : Qu} {qa rd : Addr} {kvs : List (Key × V)} {f : Fn} {H : Hp} {Q : VK} {σ : L2.St} {i j : Nat} (hi : σ[i]? = some (some (.ref qa))) (hj : σ[j]? = some (some (.ref rd))) (hqa : H qa = some (.tup q.vals)) (hrd : H rd = some (.dK kvs)) (R : RepI kvs f)
    (fin : ∀ S ks H', Kp [] H H' → VAt cl H' q S f ks → (∀ a ∈ foot q S, H a = none) → Q (.ref S.p) H') : tMake (cl q.kd) (spCls cl q.kd) [] E0 (tCons (tVar i) (tCons (tVar j) tNil)) σ H Q := by
  refine ⟨_, hi, _, hj, fun x dx hx hdx hne => ?_⟩
  have kn : Kp [] H (upd (upd H dx (.own x)) x (.ins (cl q.kd) dx [])) := (Kp.refl.new hdx).new (by rw [upd_ne hne.symm]; exact hx)
  refine ⟨q, x, qa, rd, dx, kvs, f, rfl, rfl, upd_same, kn.t _ _ hqa, kn.k _ _ hrd (by simp), R, fun S ks H' e1 kp V fr => ⟨rfl, ?_⟩⟩
  rw [← e1]
  refine fin S ks H' (Kp.fresh kn kp fun a ha => .inr ?_) V fun a ha => ?_
  · rw [List.mem_singleton.mp ha]; exact hx
  · rcases fr a ha with h | h
    · rw [h]; exact hx
    · exact kn.d _ h
theorem sc_make_view : FnScope ["question", "records", "kind"] ["question", "records"] (defScope (top 20)) := ⟨rfl, rfl, rfl, by decide +kernel, rfl, by decide +kernel, by decide +kernel⟩
theorem c_make_view (k_GetView : Mk1 P w K mg base 5 "GetView" (cl .get) (spCls cl .get)) (k_CountView : Mk1 P w K mg base 5 "CountView" (cl .count) (spCls cl .count)) (k_SumView : Mk1 P w K mg base 5 "SumView" (cl .sum) (spCls cl .sum))
    (k_ListView : Mk1 P w K mg base 5 "ListView" (cl .list) (spCls cl .list)) (k_LeastView : Mk1 P w K mg base 5 "LeastView" (cl .least) (spCls cl .least)) (k_TopView : Mk1 P w K mg base 5 "TopView" (cl .top) (spCls cl .top)) (k_WhereView : Mk1 P w K mg base 5 "WhereView" (cl .whr) (spCls cl .whr))
    (D : DefIn K mg "make_view" (top 20) ["question", "records"]) : Cl P w K mg base 7 "make_view" (spMake cl) := by
  refine cl_of D sc_make_view (fun vs H Q E h => ?_) (fun f cdv A outer s H vs Q E hr h => ?_)
  · obtain ⟨q, qa, rd, kvs, f, rfl, _⟩ := h
    rfl
  obtain ⟨q, qa, rd, kvs, f, rfl, hqa, hrd, R, fin⟩ := h
  refine ⟨_, (pss_cons (ps_set (i := 2) sc_make_view.nd rfl (Or.inl rfl) (pe_ix ix_tup (pv 0) pe_int (fun _ _ => rfl)))
      (pss_cons (ps_if (pt_cmpR op_eq (pv 2) pe_str (nomark _)) (pss_one (ps_ret (cl_k k_GetView hr (by decide) (by rfl) (pa_cons (pv 0) (pa_cons (pv 1) pa_nil))))) pss_nil)
      (pss_cons (ps_if (pt_cmpR op_eq (pv 2) pe_str (nomark _)) (pss_one (ps_ret (cl_k k_CountView hr (by decide) (by rfl) (pa_cons (pv 0) (pa_cons (pv 1) pa_nil))))) pss_nil)
      (pss_cons (ps_if (pt_cmpR op_eq (pv 2) pe_str (nomark _)) (pss_one (ps_ret (cl_k k_SumView hr (by decide) (by rfl) (pa_cons (pv 0) (pa_cons (pv 1) pa_nil))))) pss_nil)
      (pss_cons (ps_if (pt_cmpR op_eq (pv 2) pe_str (nomark _)) (pss_one (ps_ret (cl_k k_ListView hr (by decide) (by rfl) (pa_cons (pv 0) (pa_cons (pv 1) pa_nil))))) pss_nil)
      (pss_cons (ps_if (pt_cmpR op_eq (pv 2) pe_str (nomark _)) (pss_one (ps_ret (cl_k k_LeastView hr (by decide) (by rfl) (pa_cons (pv 0) (pa_cons (pv 1) pa_nil))))) pss_nil)
      (pss_cons (ps_if (pt_cmpR op_eq (pv 2) pe_str (nomark _)) (pss_one (ps_ret (cl_k k_TopView hr (by decide) (by rfl) (pa_cons (pv 0) (pa_cons (pv 1) pa_nil))))) pss_nil)
      (pss_one (ps_ret (cl_k k_WhereView hr (by decide) (by rfl) (pa_cons (pv 0) (pa_cons (pv 1) pa_nil)))))))))))), ?_⟩
  cases q
  case get =>
    refine ⟨_, rfl, qa, _, 0, .str "get", rfl, rfl, .inl (.inl hqa), rfl, ?_⟩
    refine ⟨_, rfl, rfl, true, (by decide), iteT ?_⟩
    exact make_one (Q := Q) (i := 0) (j := 1) rfl rfl hqa hrd R fin
  case count =>
    refine ⟨_, rfl, qa, _, 0, .str "count", rfl, rfl, .inl (.inl hqa), rfl, ?_⟩
    refine ⟨_, rfl, rfl, false, (by decide), iteF ?_⟩
    refine ⟨_, rfl, rfl, true, (by decide), iteT ?_⟩
    exact make_one (Q := Q) (i := 0) (j := 1) rfl rfl hqa hrd R fin
  case sum =>
    refine ⟨_, rfl, qa, _, 0, .str "sum", rfl, rfl, .inl (.inl hqa), rfl, ?_⟩
    refine ⟨_, rfl, rfl, false, (by decide), iteF ?_⟩
    refine ⟨_, rfl, rfl, false, (by decide), iteF ?_⟩
    refine ⟨_, rfl, rfl, true, (by decide), iteT ?_⟩
    exact make_one (Q := Q) (i := 0) (j := 1) rfl rfl hqa hrd R fin
  case list =>
    refine ⟨_, rfl, qa, _, 0, .str "list", rfl, rfl, .inl (.inl hqa), rfl, ?_⟩
    refine ⟨_, rfl, rfl, false, (by decide), iteF ?_⟩
    refine ⟨_, rfl, rfl, false, (by decide), iteF ?_⟩
    refine ⟨_, rfl, rfl, false, (by decide), iteF ?_⟩
    refine ⟨_, rfl, rfl, true, (by decide), iteT ?_⟩
    exact make_one (Q := Q) (i := 0) (j := 1) rfl rfl hqa hrd R fin
  case least =>
    refine ⟨_, rfl, qa, _, 0, .str "least", rfl, rfl, .inl (.inl hqa), rfl, ?_⟩
    refine ⟨_, rfl, rfl, false, (by decide), iteF ?_⟩
    refine ⟨_, rfl, rfl, false, (by decide), iteF ?_⟩
    refine ⟨_, rfl, rfl, false, (by decide), iteF ?_⟩
    refine ⟨_, rfl, rfl, false, (by decide), iteF ?_⟩
    refine ⟨_, rfl, rfl, true, (by decide), iteT ?_⟩
    exact make_one (Q := Q) (i := 0) (j := 1) rfl rfl hqa hrd R fin
  case top =>
    refine ⟨_, rfl, qa, _, 0, .str "top", rfl, rfl, .inl (.inl hqa), rfl, ?_⟩
    refine ⟨_, rfl, rfl, false, (by decide), iteF ?_⟩
    refine ⟨_, rfl, rfl, false, (by decide), iteF ?_⟩
    refine ⟨_, rfl, rfl, false, (by decide), iteF ?_⟩
    refine ⟨_, rfl, rfl, false, (by decide), iteF ?_⟩
    refine ⟨_, rfl, rfl, false, (by decide), iteF ?_⟩
    refine ⟨_, rfl, rfl, true, (by decide), iteT ?_⟩
    exact make_one (Q := Q) (i := 0) (j := 1) rfl rfl hqa hrd R fin
  case whr =>
    refine ⟨_, rfl, qa, _, 0, .str "where", rfl, rfl, .inl (.inl hqa), rfl, ?_⟩
    refine ⟨_, rfl, rfl, false, (by decide), iteF ?_⟩
    refine ⟨_, rfl, rfl, false, (by decide), iteF ?_⟩
    refine ⟨_, rfl, rfl, false, (by decide), iteF ?_⟩
    refine ⟨_, rfl, rfl, false, (by decide), iteF ?_⟩
    refine ⟨_, rfl, rfl, false, (by decide), iteF ?_⟩
    refine ⟨_, rfl, rfl, false, (by decide), iteF ?_⟩
    exact make_one (Q := Q) (i := 0) (j := 1) rfl rfl hqa hrd R fin

/-! ### answer -/
def spAns (cl : ClsOf) (kd : Kd) : Sp := fun vs H Q _ => ∃ (q : Qu) (S : VS) (f : Fn) (ks : List Row), vs = [.ref S.p] ∧ q.kd = kd ∧ VAt cl H q S f ks ∧ ∀ x H' a, Kp [] H H' → AnsAt H' x a → IsAns f q a → Q x H'
theorem len_ans {cl : ClsOf} {kd : Kd} : ∀ vs H Q E, spAns cl kd vs H Q E → vs.length = 1 := by
  rintro vs H Q E ⟨q, S, f, ks, rfl, _⟩
  rfl
theorem pr_map {α β γ : Type} {F : α → β → Prop} {G : α → γ → Prop} {g : γ → β} (h : ∀ a c, F a (g c) → G a c) : ∀ {ts : List α} {cs : List γ}, Paired F ts (cs.map g) → Paired G ts cs
  | [], [], _ => .nil
  | _ :: _, _ :: _, .cons r t => .cons (h _ _ r) (pr_map h t)
  | [], _ :: _, h => by cases h
  | _ :: _, [], h => by cases h
theorem sc_GetView_answer : FnScope ["self"] ["self"] (defScope (inClass (top 13) 0)) := ⟨rfl, rfl, rfl, by decide +kernel, rfl, by decide +kernel, by decide +kernel⟩
theorem m_GetView_answer (TV : VT K cl) (D : MetIn K (cl .get) "answer" "GetView.answer" (inClass (top 13) 0) ["self"]) : Mt P w K mg base 1 (cl .get) "answer" (spAns cl .get) := by
  refine mt_of D sc_GetView_answer len_ans (fun f cdv A outer s H vs Q E hr h => ?_)
  obtain ⟨q, S, f, ks, rfl, e, V, fin⟩ := h
  have hu := hu_of hr
  cases q <;> try (cases e)
  rename_i k
  obtain ⟨dx, hob⟩ := V.ob.ob
  refine ⟨_, (pss_one (ps_ret (pe_dget1 hu (pe_fld (pv 0) rfl) (pe_ix ix_tup (pe_fld (pv 0) rfl) pe_int (fun _ _ => rfl)) ⟨rfl, rfl, rfl, rfl⟩))), ?_⟩
  refine ⟨_, rfl, S.p, _, dx, _, _, rfl, hob, TV.c _, TV.nk _, rfl, S.d, rfl, .inl ⟨_, .inl V.dc⟩, ?_⟩
  refine ⟨_, rfl, S.p, _, dx, _, _, rfl, hob, TV.c _, TV.nq _, rfl, S.qa, _, 1, .str k, rfl, rfl, .inl (.inl V.ob.qu), rfl, _, DGet.k (k := Sum.inr k) V.dc, ?_⟩
  obtain ⟨a, h1, h2⟩ := ans_get V.kn H
  exact fin _ H a .refl h1 h2
theorem sc_CountView_answer : FnScope ["self"] ["self"] (defScope (inClass (top 14) 0)) := ⟨rfl, rfl, rfl, by decide +kernel, rfl, by decide +kernel, by decide +kernel⟩
theorem m_CountView_answer (T : Bl mg) (TV : VT K cl) (D : MetIn K (cl .count) "answer" "CountView.answer" (inClass (top 14) 0) ["self"]) : Mt P w K mg base 1 (cl .count) "answer" (spAns cl .count) := by
  refine mt_of D sc_CountView_answer len_ans (fun f cdv A outer s H vs Q E hr h => ?_)
  obtain ⟨q, S, f, ks, rfl, e, V, fin⟩ := h
  cases q <;> try (cases e)
  obtain ⟨dx, hob⟩ := V.ob.ob
  refine ⟨_, (pss_one (ps_ret (pe_callB call_lenD (by rfl) T.len (by decide +kernel) (pa_cons (pe_fld (pv 0) rfl) pa_nil)))), ?_⟩
  refine ⟨_, rfl, S.p, _, dx, _, _, rfl, hob, TV.c _, TV.nk _, rfl, S.d, _, rfl, V.dc, ?_⟩
  rw [dk_len]
  exact fin _ H (.int ks.length) .refl rfl (ans_count V.kn)
theorem sc_SumView_answer : FnScope ["self"] ["self"] (defScope (inClass (top 15) 3)) := ⟨rfl, rfl, rfl, by decide +kernel, rfl, by decide +kernel, by decide +kernel⟩
theorem m_SumView_answer (TV : VT K cl) (D : MetIn K (cl .sum) "answer" "SumView.answer" (inClass (top 15) 3) ["self"]) : Mt P w K mg base 1 (cl .sum) "answer" (spAns cl .sum) := by
  refine mt_of D sc_SumView_answer len_ans (fun f cdv A outer s H vs Q E hr h => ?_)
  obtain ⟨q, S, f, ks, rfl, e, V, fin⟩ := h
  cases q <;> try (cases e)
  obtain ⟨dx, hob⟩ := V.ob.ob
  refine ⟨_, (pss_one (ps_ret (pe_fld (pv 0) rfl))), ?_⟩
  refine ⟨_, rfl, S.p, _, dx, _, _, rfl, hob, TV.c _, TV.nt, rfl, ?_⟩
  exact fin _ H (.int (ks.map fun p : Row => p.2).sum) .refl rfl (ans_sum V.kn)
theorem sc_ListView_answer : FnScope ["self"] ["self"] (defScope (inClass (top 16) 3)) := ⟨rfl, rfl, rfl, by decide +kernel, rfl, by decide +kernel, by decide +kernel⟩
theorem m_ListView_answer (T : Bl mg) (TV : VT K cl) (D : MetIn K (cl .list) "answer" "ListView.answer" (inClass (top 16) 3) ["self"]) : Mt P w K mg base 1 (cl .list) "answer" (spAns cl .list) := by
  refine mt_of D sc_ListView_answer len_ans (fun f cdv A outer s H vs Q E hr h => ?_)
  obtain ⟨q, S, f, ks, rfl, e, V, fin⟩ := h
  cases q <;> try (cases e)
  obtain ⟨dx, hob⟩ := V.ob.ob
  refine ⟨_, (pss_one (ps_ret (pe_callTy call_tuple_of (by rfl) T.tuple (by decide +kernel) (pa_cons (pe_fld (pv 0) rfl) pa_nil)))), ?_⟩
  obtain ⟨ts, its, hl, hi, I⟩ := V.ob.li rfl
  obtain ⟨rk, e1, h2⟩ := ans_list V.kn I
  subst e1
  refine ⟨_, rfl, S.p, _, dx, _, _, rfl, hob, TV.c _, TV.r1, rfl, S.l, _, rfl, .inl ⟨.inl (.inl hl), fun r hr0 => ?_⟩⟩
  exact fin _ _ (.rows rk) (Kp.refl.new hr0) ⟨r, ts, rfl, upd_same, RowsAt.kp (Kp.refl.new (F := []) hr0) (pr_map (F := fun t (p : L2.V × L2.V) => H t = some (.tup [p.1, p.2])) (G := fun t (p : Row) => H t = some (.tup [.str p.1, .int p.2])) (fun _ _ z => z) hi)⟩ h2
theorem sc_WhereView_answer : FnScope ["self"] ["self"] (defScope (inClass (top 19) 4)) := ⟨rfl, rfl, rfl, by decide +kernel, rfl, by decide +kernel, by decide +kernel⟩
theorem m_WhereView_answer (T : Bl mg) (TV : VT K cl) (D : MetIn K (cl .whr) "answer" "WhereView.answer" (inClass (top 19) 4) ["self"]) : Mt P w K mg base 1 (cl .whr) "answer" (spAns cl .whr) := by
  refine mt_of D sc_WhereView_answer len_ans (fun f cdv A outer s H vs Q E hr h => ?_)
  obtain ⟨q, S, f, ks, rfl, e, V, fin⟩ := h
  cases q <;> try (cases e)
  obtain ⟨dx, hob⟩ := V.ob.ob
  refine ⟨_, (pss_one (ps_ret (pe_callTy call_tuple_of (by rfl) T.tuple (by decide +kernel) (pa_cons (pe_fld (pv 0) rfl) pa_nil)))), ?_⟩
  obtain ⟨ts, its, hl, hi, I⟩ := V.ob.li rfl
  obtain ⟨rk, e1, h2⟩ := ans_whr V.kn I
  subst e1
  refine ⟨_, rfl, S.p, _, dx, _, _, rfl, hob, TV.c _, TV.r2, rfl, S.l, _, rfl, .inl ⟨.inl (.inl hl), fun r hr0 => ?_⟩⟩
  exact fin _ _ (.rows rk) (Kp.refl.new hr0) ⟨r, ts, rfl, upd_same, RowsAt.kp (Kp.refl.new (F := []) hr0) (pr_map (F := fun t (p : L2.V × L2.V) => H t = some (.tup [p.1, p.2])) (G := fun t (p : Row) => H t = some (.tup [.str p.1, .int p.2])) (fun _ _ z => z) hi)⟩ h2
theorem sc_LeastView_answer : FnScope ["self", "value", "key"] ["self"] (defScope (inClass (top 17) 3)) := ⟨rfl, rfl, rfl, by decide +kernel, rfl, by decide +kernel, by decide +kernel⟩
theorem m_LeastView_answer (T : Bl mg) (TV : VT K cl) (D : MetIn K (cl .least) "answer" "LeastView.answer" (inClass (top 17) 3) ["self"]) : Mt P w K mg base 1 (cl .least) "answer" (spAns cl .least) := by
  refine mt_of D sc_LeastView_answer len_ans (fun f cdv A outer s H vs Q E hr h => ?_)
  obtain ⟨q, S, f, ks, rfl, e, V, fin⟩ := h
  cases q <;> try (cases e)
  obtain ⟨dx, hob⟩ := V.ob.ob
  refine ⟨_, (pss_cons (ps_if (pt_cmpR op_eq (pe_callB call_len_seq (by rfl) T.len (by decide +kernel) (pa_cons (pe_fld (pv 0) rfl) pa_nil)) pe_int (nomark _)) (pss_one (ps_ret pe_non)) pss_nil)
      (pss_cons (ps_asg (pe_ix ix_list (pe_fld (pv 0) rfl) pe_int (fun _ _ => rfl)) (pg_tup (by rfl) (pgs_cons (pg_name (i := 1) sc_LeastView_answer.nd rfl (Or.inl rfl)) (pgs_cons (pg_name (i := 2) sc_LeastView_answer.nd rfl (Or.inl rfl)) pgs_nil))))
      (pss_one (ps_ret (pe_tup (pa_cons (pv 2) (pa_cons (pv 1) pa_nil))))))), ?_⟩
  obtain ⟨ts, its, hl, hi, I⟩ := V.ob.li rfl
  refine ⟨_, rfl, S.p, _, dx, _, _, rfl, hob, TV.c _, TV.a1, rfl, S.l, _, rfl, .inl (SqL.of hl), rfl, ?_⟩
  cases hi with
  | nil =>
    refine ⟨true, rfl, iteT ?_⟩
    exact fin _ _ .non .refl rfl (ans_least0 V.kn I)
  | @cons t it ts its ht hr2 =>
    refine ⟨false, (by congr 1), iteF ?_⟩
    obtain ⟨p, hp, _, ep⟩ := (I.mem it).mp (by simp)
    subst ep
    refine ⟨_, rfl, S.p, _, dx, _, _, rfl, hob, TV.c _, TV.a1, rfl, S.l, _, 0, .ref t, rfl, rfl, SqL.of hl, at_of (rfl : (0 : Int) = ((0 : Nat) : Int)) rfl, ?_⟩
    refine ⟨t, _, rfl, .inl (.inl ht), rfl, _, _, rfl, _, _, rfl, rfl, ?_⟩
    refine ⟨_, rfl, _, rfl, (by show 2 ≤ sizeLine; decide), fun r hr0 => ?_⟩
    exact fin _ _ (.pair p) (Kp.refl.new hr0) ⟨r, rfl, upd_same⟩ (ans_least1 (p := p) V.kn I)
theorem yes_of {σ : L2.St} {H : Hp} {A B : Hp → Prop} (h : A H) : tYes σ H fun b H3 => if b = true then A H3 else B H3 := by
  show if true = true then A H else B H
  rw [if_pos rfl]
  exact h
theorem cut_head {xs : List V} {n : Nat} : cutV xs none (some (n : Int)) = xs.take n := by
  unfold cutV
  rw [HT.sIx_none, HT.sIx_nat, List.drop_zero, Nat.sub_zero]
  by_cases h : n ≤ xs.length
  · rw [Nat.min_eq_left h]
  · rw [Nat.min_eq_right (by omega), List.take_length, List.take_of_length_le (by omega)]
theorem sc_TopView_answer : FnScope ["self", "value", "key"] ["self"] (defScope (inClass (top 18) 3)) := ⟨rfl, rfl, rfl, by decide +kernel, rfl, by decide +kernel, by decide +kernel⟩
theorem m_TopView_answer (T : Bl mg) (TV : VT K cl) (D : MetIn K (cl .top) "answer" "TopView.answer" (inClass (top 18) 3) ["self"]) : Mt P w K mg base 1 (cl .top) "answer" (spAns cl .top) := by
  refine mt_of D sc_TopView_answer len_ans (fun f cdv A outer s H vs Q E hr h => ?_)
  obtain ⟨q, S, f, ks, rfl, e, Vw, fin⟩ := h
  cases q <;> try (cases e)
  rename_i n a b
  obtain ⟨dx, hob⟩ := Vw.ob.ob
  refine ⟨_, (pss_one (ps_ret (pe_callTy call_tuple_of (by rfl) T.tuple (by decide +kernel) (pa_cons (pe_lc (own := [("value", 1), ("key", 2)]) (g := (gTup K 2 (gCons (gName 1) (gCons (gName 2) gNil)))) (tt := tYes) (by rfl) sc_TopView_answer.nd (pi_list (pe_slice sl_list (pe_fld (pv 0) rfl) po_none (po_some (pe_ix ix_tup (pe_fld (pv 0) rfl) pe_int (fun _ _ => rfl))))) (blkOk_by (own := [("value", 1), ("key", 2)]) (N := ["self", "value", "key"]) (sc := defScope (inClass (top 18) 3)) (by decide +kernel)) (fun _ _ _ _ _ => (pg_tup (by rfl) (pgs_cons (pg_name (i := 1) sc_TopView_answer.nd rfl (Or.inl rfl)) (pgs_cons (pg_name (i := 2) sc_TopView_answer.nd rfl (Or.inl rfl)) pgs_nil)))) (fun _ _ _ _ _ => pts_nil) (fun _ _ _ _ _ => (pe_tup (pa_cons (pv 2) (pa_cons (pe_un un_neg (pv 1)) pa_nil))))) pa_nil)))), ?_⟩
  obtain ⟨ts, its, hl, hi, I⟩ := Vw.ob.li rfl
  have few := it_few I Vw.ob.nd Vw.ob.kk
  obtain ⟨rk, e1, h2⟩ := ans_top Vw.kn I
  subst e1
  rw [List.length_map] at few
  refine ⟨_, rfl, S.p, _, dx, _, _, rfl, hob, TV.c _, TV.a2, rfl, _, rfl, S.p, _, dx, _, _, rfl, hob, TV.c _, TV.nq _, rfl, S.qa, _, 1, .int n, rfl, rfl, .inl (.inl Vw.ob.qu), rfl, n, rfl, S.l, _, rfl, SqL.of hl, fun r hr0 => ?_⟩
  rw [cut_head, ← List.map_take]
  have hi2 : ItemsAt H (ts.take n) ((rk.take n).map encT) := by rw [List.map_take]; exact pr_take n hi
  have len := items_len hi2
  refine ⟨r, rfl, ⟨_, SqL.of upd_same⟩, fun Dl hD => ?_⟩
  have kr : Kp [] H (upd H r (.lst ((ts.take n).map V.ref))) := Kp.refl.new hr0
  have nDr : r ≠ Dl := ne_of_none upd_same hD
  refine ⟨fun i m H' => m = (rk.take n).length - i ∧ i ≤ (rk.take n).length ∧ Kp [] (upd H r (.lst ((ts.take n).map V.ref))) H' ∧ ∃ us : List Addr, H' Dl = some (.lst (us.map V.ref)) ∧ RowsAt H' us ((rk.take n).take i), ⟨_, rfl, Nat.zero_le _, Kp.refl.new hD, [], upd_same, .nil⟩, fun i m H' W => ?_⟩
  obtain ⟨rfl, hin, kp, us, hus, hrw⟩ := W
  have hlr := kp.k _ _ upd_same (by simp)
  by_cases hlt : i < (rk.take n).length
  · obtain ⟨t, ht1, ht2⟩ := items_get hi2 i (encT (rk.take n)[i]) (by rw [List.getElem?_map, List.getElem?_eq_getElem hlt]; rfl)
    have ht3 := (kr.trans kp).t _ _ ht2
    refine .inr ⟨⟨_, _, SqL.of hlr, ht1⟩, fun H2 => Kp [] (upd H r (.lst ((ts.take n).map V.ref))) H2 ∧ ∃ us : List Addr, H2 Dl = some (.lst (us.map V.ref)) ∧ RowsAt H2 us ((rk.take n).take (i + 1)), fun H2 h => ⟨(rk.take n).length - (i + 1), by omega, rfl, hlt, h⟩, fun x H2 y => ?_⟩
    obtain ⟨rfl, y⟩ := y
    have ex := Option.some.inj ((y _ (SqL.of hlr)).symm.trans ht1)
    subst ex
    refine ⟨t, _, rfl, .inl (.inl ht3), rfl, _, _, rfl, _, _, rfl, rfl, rfl, ?_⟩
    refine yes_of ?_
    refine ⟨_, rfl, _, rfl, _, rfl, (by show 2 ≤ sizeLine; decide), fun c hc => ?_⟩
    have ncD : Dl ≠ c := ne_of_none hus hc
    have lus := Paired.length hrw
    have kc : Kp [] (upd H r (.lst ((ts.take n).map V.ref))) (upd H2 c (.tup [.str (rk.take n)[i].1, .int (- -(rk.take n)[i].2)])) := kp.new hc
    refine ⟨us.map V.ref, by rw [upd_ne ncD]; exact hus, ?_, ?_⟩
    · rw [List.length_map, lus, List.length_take, List.length_take]
      exact Nat.lt_of_lt_of_le (show _ < 1000 by omega) (by decide)
    · refine ⟨kc.own hD, us ++ [c], by rw [upd_same, List.map_append]; rfl, ?_⟩
      have k3 : Kp [Dl] H2 (upd (upd H2 c (.tup [.str (rk.take n)[i].1, .int (- -(rk.take n)[i].2)])) Dl (.lst (us.map V.ref ++ [V.ref c]))) := (Kp.refl.new hc).mut (by simp) (by rw [upd_ne ncD]; exact hus) (by intro xs z; cases z)
      rw [List.take_add_one, List.getElem?_eq_getElem hlt]
      refine pr_append (RowsAt.kp k3 hrw) (.cons ?_ .nil)
      rw [upd_ne ncD.symm, upd_same]
      show some (HO.tup [.str (rk.take n)[i].1, .int (- -(rk.take n)[i].2)]) = _
      rw [Int.neg_neg]
  · have ei : i = (rk.take n).length := by omega
    subst ei
    refine .inl ⟨⟨_, SqL.of hlr, by rw [len, List.length_map]; exact Nat.le_refl _⟩, ?_⟩
    rw [List.take_length] at hrw
    refine ⟨Dl, _, rfl, .inl ⟨.inl (.inl hus), fun c hc => ?_⟩⟩
    exact fin _ _ (.rows (rk.take n)) ((kr.trans kp).new hc) ⟨c, us, rfl, upd_same, RowsAt.kp (Kp.refl.new (F := []) hc) hrw⟩ h2
end
end LH
/-! The board: what stands, and what a step of it leaves. -/
namespace LH
open PySem PySem.Spec L2

structure Ent where
  num : Int
  mom : Nat
  q : Qu
  S : VS
structure BS where
  dE : Addr
  dV : Addr
  dM : Addr
  n : Nat
  ek : List (Key × V)
  vs : List Ent
def vkv (vs : List Ent) : List (Key × V) := vs.map fun e => (Sum.inl e.num, V.ref e.S.p)
def mkv (vs : List Ent) : List (Key × V) := vs.map fun e => (Sum.inl e.num, V.int e.mom)
def feet : List Ent → List Addr
  | [] => []
  | e :: r => foot e.q e.S ++ feet r
def bfoot (b : Addr) (B : BS) : List Addr := [b, B.dE, B.dV, B.dM] ++ feet B.vs
def bflds (B : BS) : List (Str × V) := [("_mark", .int B.n), ("_early", .ref B.dE), ("_views", .ref B.dV), ("_moments", .ref B.dM)]
structure EkOk (H : Hp) (gs : List Gr) (n : Nat) (ek : List (Key × V)) : Prop where
  nd : (ek.map (·.1)).Nodup
  at_ : ∀ p ∈ ek, ∃ (c : Nat) (g : Gr) (ga : Addr), p.1 = Sum.inl ((c : Int) + 1) ∧ n ≤ c ∧ gs[c]? = some g ∧ p.2 = .ref ga ∧ GrpAt H ga g
structure GsOk (gs : List Gr) : Prop where
  few : gs.length ≤ 12
  ok : ∀ g ∈ gs, ∀ w ∈ g, KOk w.1
structure BoardAt (cl : ClsOf) (Cb : Addr) (gs : List Gr) (H : Hp) (b : Addr) (B : BS) : Prop where
  ob : ∃ dx, H b = some (.ins Cb dx (bflds B))
  de : H B.dE = some (.dK B.ek)
  dv : H B.dV = some (.dK (vkv B.vs))
  dm : H B.dM = some (.dK (mkv B.vs))
  ek : EkOk H gs B.n B.ek
  vw : ∀ e ∈ B.vs, (∃ ks, VAt cl H e.q e.S (M gs e.mom) ks) ∧ B.n ≤ e.mom ∧ e.mom ≤ gs.length
  nd : (B.vs.map (·.num)).Nodup
  nf : (bfoot b B).Nodup
  le : B.n ≤ gs.length
  few : B.vs.length < 64
  gk : GsOk gs

theorem EkOk.kp {F : List Addr} {H H' : Hp} {gs : List Gr} {n : Nat} {ek : List (Key × V)} (k : Kp F H H') (h : EkOk H gs n ek) : EkOk H' gs n ek :=
  ⟨h.nd, fun p hp => by
    obtain ⟨c, g, ga, a1, a2, a3, a4, a5⟩ := h.at_ p hp
    exact ⟨c, g, ga, a1, a2, a3, a4, a5.kp k⟩⟩
theorem feet_mem : ∀ {vs : List Ent} {e : Ent} {a : Addr}, e ∈ vs → a ∈ foot e.q e.S → a ∈ feet vs
  | _ :: r, e, a, h, ha => by
    rcases List.mem_cons.mp h with h | h
    · subst h; exact List.mem_append_left _ ha
    · exact List.mem_append_right _ (feet_mem h ha)
theorem mem_feet : ∀ {vs : List Ent} {a : Addr}, a ∈ feet vs → ∃ e ∈ vs, a ∈ foot e.q e.S
  | e :: r, a, h => by
    rcases List.mem_append.mp h with h | h
    · exact ⟨e, by simp, h⟩
    · obtain ⟨e', h1, h2⟩ := mem_feet h
      exact ⟨e', by simp [h1], h2⟩
theorem feet_app (a b : List Ent) : feet (a ++ b) = feet a ++ feet b := by
  induction a with
  | nil => rfl
  | cons e r ih => show foot e.q e.S ++ feet (r ++ b) = foot e.q e.S ++ feet r ++ feet b; rw [ih, List.append_assoc]
theorem feet_tag : ∀ {a b : List Ent}, (a.map fun e => (e.q, e.S)) = (b.map fun e => (e.q, e.S)) → feet a = feet b
  | [], [], _ => rfl
  | e :: a, e' :: b, h => by
    rw [List.map_cons, List.map_cons, List.cons.injEq] at h
    show foot e.q e.S ++ feet a = foot e'.q e'.S ++ feet b
    rw [feet_tag h.2]
    have h1 := h.1
    rw [Prod.mk.injEq] at h1
    rw [h1.1, h1.2]
  | [], _ :: _, h => by simp at h
  | _ :: _, [], h => by simp at h
theorem feet_dis : ∀ {vs : List Ent} {e e' : Ent} {a : Addr}, (feet vs).Nodup → e ∈ vs → e' ∈ vs → e.num ≠ e'.num → a ∈ foot e.q e.S → a ∉ foot e'.q e'.S
  | x :: r, e, e', a, nd, h, h', ne, ha, ha' => by
    obtain ⟨n1, n2, n3⟩ := List.nodup_append.mp nd
    rcases List.mem_cons.mp h with u | u <;> rcases List.mem_cons.mp h' with u' | u'
    · exact ne (by rw [u, u'])
    · exact n3 a (by rw [← u]; exact ha) a (feet_mem u' ha') rfl
    · exact n3 a (by rw [← u']; exact ha') a (feet_mem u ha) rfl
    · exact feet_dis n2 u u' ne ha ha'
theorem one_ent : ∀ {vs : List Ent} {e e' : Ent}, (vs.map (·.num)).Nodup → e ∈ vs → e' ∈ vs → e.num = e'.num → e = e'
  | x :: r, e, e', nd, h, h', eq => by
    rw [List.map_cons, List.nodup_cons] at nd
    rcases List.mem_cons.mp h with u | u <;> rcases List.mem_cons.mp h' with u' | u'
    · rw [u, u']
    · exact absurd (List.mem_map.mpr ⟨e', u', by rw [← u]; exact eq.symm⟩) nd.1
    · exact absurd (List.mem_map.mpr ⟨e, u, by rw [← u']; exact eq⟩) nd.1
    · exact one_ent nd.2 u u' eq
theorem vkv_keys (vs : List Ent) : (vkv vs).map (·.1) = (vs.map (·.num)).map Sum.inl := by unfold vkv; rw [List.map_map, List.map_map]; rfl
theorem mkv_keys (vs : List Ent) : (mkv vs).map (·.1) = (vs.map (·.num)).map Sum.inl := by unfold mkv; rw [List.map_map, List.map_map]; rfl
theorem vkv_get : ∀ {vs : List Ent} {e : Ent}, (vs.map (·.num)).Nodup → e ∈ vs → valV (vkv vs) (Sum.inl e.num) = some (.ref e.S.p)
  | x :: r, e, nd, h => by
    rw [List.map_cons, List.nodup_cons] at nd
    rcases List.mem_cons.mp h with h | h
    · subst h; exact valV_pos rfl
    · have n : x.num ≠ e.num := fun z => nd.1 (List.mem_map.mpr ⟨e, h, z.symm⟩)
      refine (valV_neg (r := vkv r) (by simpa using n)).trans (vkv_get nd.2 h)
theorem mkv_get : ∀ {vs : List Ent} {e : Ent}, (vs.map (·.num)).Nodup → e ∈ vs → valV (mkv vs) (Sum.inl e.num) = some (.int e.mom)
  | x :: r, e, nd, h => by
    rw [List.map_cons, List.nodup_cons] at nd
    rcases List.mem_cons.mp h with h | h
    · subst h; exact valV_pos rfl
    · have n : x.num ≠ e.num := fun z => nd.1 (List.mem_map.mpr ⟨e, h, z.symm⟩)
      refine (valV_neg (r := mkv r) (by simpa using n)).trans (mkv_get nd.2 h)
theorem vkv_none {vs : List Ent} {y : Int} (h : y ∉ vs.map (·.num)) : valV (vkv vs) (Sum.inl y) = none := val_none (by
  rw [vkv_keys]
  intro z
  obtain ⟨i, hi, e⟩ := List.mem_map.mp z
  cases e
  exact h hi)
theorem ent_of {vs : List Ent} {y : Int} (h : y ∈ vs.map (·.num)) : ∃ e ∈ vs, e.num = y := by
  obtain ⟨e, h1, h2⟩ := List.mem_map.mp h
  exact ⟨e, h1, h2⟩
def bump (y : Int) (n : Nat) (e : Ent) : Ent := if e.num = y then { e with mom := n } else e
theorem bump_num (y : Int) (n : Nat) (e : Ent) : (bump y n e).num = e.num := by unfold bump; split <;> rfl
theorem bump_q (y : Int) (n : Nat) (e : Ent) : (bump y n e).q = e.q := by unfold bump; split <;> rfl
theorem bump_S (y : Int) (n : Nat) (e : Ent) : (bump y n e).S = e.S := by unfold bump; split <;> rfl
theorem bump_vkv (y : Int) (n : Nat) (vs : List Ent) : vkv (vs.map (bump y n)) = vkv vs := by
  unfold vkv
  rw [List.map_map]
  refine List.map_congr_left fun e _ => ?_
  show (Sum.inl (bump y n e).num, V.ref (bump y n e).S.p) = _
  rw [bump_num, bump_S]
theorem bump_nums (y : Int) (n : Nat) (vs : List Ent) : (vs.map (bump y n)).map (·.num) = vs.map (·.num) := by
  rw [List.map_map]
  exact List.map_congr_left fun e _ => bump_num y n e
theorem bump_feet (y : Int) (n : Nat) (vs : List Ent) : feet (vs.map (bump y n)) = feet vs := feet_tag (by
  rw [List.map_map]
  refine List.map_congr_left fun e _ => ?_
  show ((bump y n e).q, (bump y n e).S) = _
  rw [bump_q, bump_S])
theorem bump_mkv {y : Int} {n : Nat} {vs : List Ent} (h : y ∈ vs.map (·.num)) : putK (mkv vs) (Sum.inl y) (.int n) = mkv (vs.map (bump y n)) := by
  unfold putK
  rw [if_pos]
  · unfold mkv
    rw [List.map_map, List.map_map]
    refine List.map_congr_left fun e _ => ?_
    show (if (Sum.inl e.num : Key) = Sum.inl y then ((Sum.inl e.num : Key), V.int n) else (Sum.inl e.num, V.int e.mom)) = (Sum.inl (bump y n e).num, V.int (bump y n e).mom)
    unfold bump
    by_cases z : e.num = y
    · rw [if_pos (by rw [z]), if_pos z]
    · rw [if_neg (by simpa using z), if_neg z]
  · obtain ⟨e, h1, h2⟩ := ent_of h
    rw [List.any_eq_true]
    exact ⟨_, List.mem_map.mpr ⟨e, h1, rfl⟩, by simpa using h2⟩
theorem drop_vkv (vs : List Ent) (y : Int) : dropK (vkv vs) (Sum.inl y) = vkv (vs.filter fun e => decide (e.num ≠ y)) := by
  unfold dropK vkv
  rw [List.filter_map]
  congr 1
  refine List.filter_congr fun e _ => ?_
  simp
theorem drop_mkv (vs : List Ent) (y : Int) : dropK (mkv vs) (Sum.inl y) = mkv (vs.filter fun e => decide (e.num ≠ y)) := by
  unfold dropK mkv
  rw [List.filter_map]
  congr 1
  refine List.filter_congr fun e _ => ?_
  simp
theorem put_new {kvs : List (Key × V)} {k : Key} {v : V} (h : k ∉ kvs.map (·.1)) : putK kvs k v = kvs ++ [(k, v)] := by
  unfold putK
  rw [if_neg]
  intro z
  obtain ⟨p, hp, e⟩ := List.any_eq_true.mp z
  exact h (List.mem_map.mpr ⟨p, hp, of_decide_eq_true e⟩)
theorem M_succ {gs : List Gr} {c : Nat} {g : Gr} (h : gs[c]? = some g) : M gs (c + 1) = grp (M gs c) g := by
  unfold M
  rw [List.take_add_one, h, List.foldl_append]
  rfl
/-- ints among 1..n -/
theorem few_int (n : Nat) (l : List Int) (nd : l.Nodup) (h : ∀ x ∈ l, ∃ c : Nat, c < n ∧ x = (c : Int) + 1) : l.length ≤ n := by
  have q := nd.length_le_of_subset (l₂ := (List.range n).map fun c : Nat => (c : Int) + 1) fun k hk => by
    obtain ⟨c, hc, e⟩ := h k hk
    exact List.mem_map.mpr ⟨c, List.mem_range.mpr hc, e.symm⟩
  rw [List.length_map, List.length_range] at q
  exact q
theorem keys_int : ∀ {kvs : List (Key × V)}, (∀ p ∈ kvs, ∃ i : Int, p.1 = Sum.inl i) → ∃ l : List Int, kvs.map (·.1) = l.map Sum.inl
  | [], _ => ⟨[], rfl⟩
  | p :: r, h => by
    obtain ⟨k, e⟩ := h p (by simp)
    obtain ⟨l, e2⟩ := keys_int (kvs := r) fun q hq => h q (by simp [hq])
    exact ⟨k :: l, by rw [List.map_cons, List.map_cons, e, e2]⟩
theorem nd_int {kvs : List (Key × V)} {l : List Int} (nd : (kvs.map (·.1)).Nodup) (e : kvs.map (·.1) = l.map Sum.inl) : l.Nodup := by
  rw [e] at nd
  exact List.Pairwise.of_map (S := fun a b => a ≠ b) Sum.inl (fun a b h z => h (by rw [z])) nd
theorem ek_ints {H : Hp} {gs : List Gr} {n : Nat} {ek : List (Key × V)} (h : EkOk H gs n ek) (hg : gs.length ≤ 12) : ∃ l : List Int, ek.map (·.1) = l.map Sum.inl ∧ l.Nodup ∧ ek.length ≤ 12 ∧ l.length ≤ 12 := by
  obtain ⟨l, e⟩ := keys_int (kvs := ek) fun p hp => by
    obtain ⟨c, _, _, h1, _⟩ := h.at_ p hp
    exact ⟨_, h1⟩
  have nd := nd_int h.nd e
  have fw := few_int gs.length l nd fun x hx => by
    have : Sum.inl x ∈ ek.map (·.1) := by rw [e]; exact List.mem_map.mpr ⟨x, hx, rfl⟩
    obtain ⟨p, hp, ep⟩ := List.mem_map.mp this
    obtain ⟨c, g, ga, h1, _, h3, _⟩ := h.at_ p hp
    rw [h1] at ep
    exact ⟨c, (List.getElem?_eq_some_iff.mp h3).1, (Sum.inl.inj ep).symm⟩
  have len := congrArg List.length e
  rw [List.length_map, List.length_map] at len
  exact ⟨l, e, nd, by omega, by omega⟩
section
variable {cl : ClsOf} {Cb : Addr} {gs : List Gr} {H H' : Hp} {b : Addr} {B : BS}
theorem board_kp {F : List Addr} (A : BoardAt cl Cb gs H b B) (kp : Kp F H H') (h : ∀ a ∈ bfoot b B, a ∉ F) : BoardAt cl Cb gs H' b B := by
  obtain ⟨dx, hob⟩ := A.ob
  refine ⟨⟨dx, kp.k _ _ hob (h _ (by simp [bfoot]))⟩, kp.k _ _ A.de (h _ (by simp [bfoot])), kp.k _ _ A.dv (h _ (by simp [bfoot])), kp.k _ _ A.dm (h _ (by simp [bfoot])), A.ek.kp kp, fun e he => ?_, A.nd, A.nf, A.le, A.few, A.gk⟩
  obtain ⟨⟨ks, V⟩, h2, h3⟩ := A.vw e he
  exact ⟨⟨ks, vat_kp V kp fun a ha => h a (List.mem_append_right _ (feet_mem he ha))⟩, h2, h3⟩
theorem vw_kp {F : List Addr} (A : BoardAt cl Cb gs H b B) (kp : Kp F H H') (h : ∀ a ∈ feet B.vs, a ∉ F) : ∀ e ∈ B.vs, (∃ ks, VAt cl H' e.q e.S (M gs e.mom) ks) ∧ B.n ≤ e.mom ∧ e.mom ≤ gs.length := fun e he => by
  obtain ⟨⟨ks, V⟩, h2, h3⟩ := A.vw e he
  exact ⟨⟨ks, vat_kp V kp fun a ha => h a (feet_mem he ha)⟩, h2, h3⟩
/-- the board's own addresses are apart -/
structure Apart (b : Addr) (B : BS) : Prop where
  be : b ≠ B.dE
  bv : b ≠ B.dV
  bm : b ≠ B.dM
  ev : B.dE ≠ B.dV
  em : B.dE ≠ B.dM
  vm : B.dV ≠ B.dM
  fb : ∀ a ∈ feet B.vs, a ≠ b ∧ a ≠ B.dE ∧ a ≠ B.dV ∧ a ≠ B.dM
theorem apart (h : (bfoot b B).Nodup) : Apart b B := by
  obtain ⟨n1, _, n3⟩ := List.nodup_append.mp h
  simp at n1
  refine ⟨n1.1.1, n1.1.2.1, n1.1.2.2, n1.2.1.1, n1.2.1.2, n1.2.2, fun a ha => ⟨?_, ?_, ?_, ?_⟩⟩
  · exact fun z => n3 b (by simp) a ha z.symm
  · exact fun z => n3 B.dE (by simp) a ha z.symm
  · exact fun z => n3 B.dV (by simp) a ha z.symm
  · exact fun z => n3 B.dM (by simp) a ha z.symm
theorem feet_nd (h : (bfoot b B).Nodup) : (feet B.vs).Nodup := (List.nodup_append.mp h).2.1
theorem mem_b : b ∈ bfoot b B := by simp [bfoot]
theorem mem_e : B.dE ∈ bfoot b B := by simp [bfoot]
theorem mem_v : B.dV ∈ bfoot b B := by simp [bfoot]
theorem mem_m : B.dM ∈ bfoot b B := by simp [bfoot]
/-- the dict of early notes alone changes -/
theorem board_ek {ek' : List (Key × V)} (A : BoardAt cl Cb gs H b B) (h : EkOk H gs B.n ek') : BoardAt cl Cb gs (upd H B.dE (.dK ek')) b { B with ek := ek' } ∧ Kp (bfoot b B) H (upd H B.dE (.dK ek')) := by
  have ap := apart A.nf
  obtain ⟨dx, hob⟩ := A.ob
  have k1 : Kp [B.dE] H (upd H B.dE (.dK ek')) := Kp.refl.mut (by simp) A.de (by intro xs z; cases z)
  refine ⟨⟨⟨dx, k1.k _ _ hob (by simpa using ap.be)⟩, upd_same, k1.k _ _ A.dv (by simpa using ap.ev.symm), k1.k _ _ A.dm (by simpa using ap.em.symm), h.kp k1, fun e he => vw_kp A k1 (fun a ha => by simpa using (ap.fb a ha).2.1) e he, A.nd, A.nf, A.le, A.few, A.gk⟩, k1.mono fun x hx => ?_⟩
  rw [List.mem_singleton.mp hx]
  exact mem_e
/-- the mark goes up -/
theorem board_up (A : BoardAt cl Cb gs H b B) {n' : Nat} (hl : n' ≤ gs.length) (hv : ∀ e ∈ B.vs, n' ≤ e.mom) (he : EkOk H gs n' B.ek) {dx : Addr} (hob : H b = some (.ins Cb dx (bflds B))) :
    BoardAt cl Cb gs (upd H b (.ins Cb dx (bflds { B with n := n' }))) b { B with n := n' } ∧ Kp (bfoot b B) H (upd H b (.ins Cb dx (bflds { B with n := n' }))) := by
  have ap := apart A.nf
  have k1 : Kp [b] H (upd H b (.ins Cb dx (bflds { B with n := n' }))) := Kp.refl.mut (by simp) hob (by intro xs z; cases z)
  refine ⟨⟨⟨dx, upd_same⟩, k1.k _ _ A.de (by simpa using ap.be.symm), k1.k _ _ A.dv (by simpa using ap.bv.symm), k1.k _ _ A.dm (by simpa using ap.bm.symm), he.kp k1, fun e hee => ?_, A.nd, A.nf, hl, A.few, A.gk⟩, k1.mono fun x hx => ?_⟩
  · obtain ⟨h1, h2, h3⟩ := vw_kp A k1 (fun a ha => by simpa using (ap.fb a ha).1) e hee
    exact ⟨h1, hv e hee, h3⟩
  rw [List.mem_singleton.mp hx]
  exact mem_b
/-- a view takes a group and its moment goes up -/
theorem board_bump (A : BoardAt cl Cb gs H b B) {e : Ent} {g : Gr} {ks : List Row} (he : e ∈ B.vs) (hg : gs[e.mom]? = some g) (kp : Kp (foot e.q e.S) H H') (V' : VAt cl H' e.q e.S (grp (M gs e.mom) g) ks) :
    (∃ dx, H' b = some (.ins Cb dx (bflds B))) ∧ H' B.dM = some (.dK (mkv B.vs)) ∧ BoardAt cl Cb gs (upd H' B.dM (.dK (putK (mkv B.vs) (Sum.inl e.num) (.int ((e.mom : Int) + 1))))) b { B with vs := B.vs.map (bump e.num (e.mom + 1)) } ∧
      Kp (bfoot b B) H (upd H' B.dM (.dK (putK (mkv B.vs) (Sum.inl e.num) (.int ((e.mom : Int) + 1))))) := by
  have ap := apart A.nf
  obtain ⟨dx, hob⟩ := A.ob
  have hf : ∀ a, a ∈ foot e.q e.S → a ∈ feet B.vs := fun a ha => feet_mem he ha
  have nb : b ∉ foot e.q e.S := fun z => (ap.fb _ (hf _ z)).1 rfl
  have ne : B.dE ∉ foot e.q e.S := fun z => (ap.fb _ (hf _ z)).2.1 rfl
  have nv : B.dV ∉ foot e.q e.S := fun z => (ap.fb _ (hf _ z)).2.2.1 rfl
  have nm : B.dM ∉ foot e.q e.S := fun z => (ap.fb _ (hf _ z)).2.2.2 rfl
  have hm' : H' B.dM = some (.dK (mkv B.vs)) := kp.k _ _ A.dm nm
  have hin : e.num ∈ B.vs.map (·.num) := List.mem_map.mpr ⟨e, he, rfl⟩
  have k2 : Kp [B.dM] H' (upd H' B.dM (.dK (putK (mkv B.vs) (Sum.inl e.num) (.int ((e.mom : Int) + 1))))) := Kp.refl.mut (by simp) hm' (by intro xs z; cases z)
  have hlt := (List.getElem?_eq_some_iff.mp hg).1
  refine ⟨⟨dx, kp.k _ _ hob nb⟩, hm', ⟨⟨dx, ?_⟩, ?_, ?_, ?_, (A.ek.kp kp).kp k2, fun e' he' => ?_, by show ((B.vs.map (bump _ _)).map (·.num)).Nodup; rw [bump_nums]; exact A.nd, ?_, A.le, by show (B.vs.map (bump _ _)).length < 64; rw [List.length_map]; exact A.few, A.gk⟩, ?_⟩
  · exact k2.k _ _ (kp.k _ _ hob nb) (by simpa using ap.bm)
  · exact k2.k _ _ (kp.k _ _ A.de ne) (by simpa using ap.em)
  · show _ = some (HO.dK (vkv (B.vs.map (bump _ _))))
    rw [bump_vkv]
    exact k2.k _ _ (kp.k _ _ A.dv nv) (by simpa using ap.vm)
  · show _ = some (HO.dK (mkv (B.vs.map (bump _ _))))
    rw [← bump_mkv hin]
    exact upd_same
  · obtain ⟨x, hx, rfl⟩ := List.mem_map.mp he'
    obtain ⟨⟨ks', V⟩, h2, h3⟩ := A.vw x hx
    rw [bump_q, bump_S]
    by_cases z : x.num = e.num
    · have ex := one_ent A.nd hx he z
      subst ex
      have em : (bump x.num (x.mom + 1) x).mom = x.mom + 1 := by unfold bump; rw [if_pos rfl]
      rw [em, M_succ hg]
      exact ⟨⟨ks, vat_kp V' k2 fun a ha => by simpa using (ap.fb a (feet_mem hx ha)).2.2.2⟩, Nat.le_succ_of_le h2, hlt⟩
    · have em : (bump e.num (e.mom + 1) x) = x := by unfold bump; rw [if_neg z]
      rw [em]
      refine ⟨⟨ks', vat_kp (vat_kp V kp fun a ha => feet_dis (feet_nd A.nf) hx he z ha) k2 fun a ha => by simpa using (ap.fb a (feet_mem hx ha)).2.2.2⟩, h2, h3⟩
  · show ([b, B.dE, B.dV, B.dM] ++ feet (B.vs.map (bump _ _))).Nodup
    rw [bump_feet]
    exact A.nf
  · refine (kp.mono fun x hx => List.mem_append_right _ (hf x hx)).trans (k2.mono fun x hx => ?_)
    rw [List.mem_singleton.mp hx]
    exact mem_m
end
end LH
/-! The board's methods. -/
namespace LH
open PySem PySem.Spec L2
open PyProof.Rows (envOfC)

structure MkIn (K : PySem.W.Frag) (C : Addr) (qual : Str) (st : Stmt) (ps : List Str) : Prop where
  ex : ∃ (f : Addr) (fd : FuncData), Mk K C f ∧ Fun K "__init__" qual st f fd ∧ Binds K fd ps []
structure BT (K : PySem.W.Frag) (Cb : Addr) : Prop where
  c : Cls K Cb
  n : NoAttr K Cb "_mark"
  e : NoAttr K Cb "_early"
  v : NoAttr K Cb "_views"
  m : NoAttr K Cb "_moments"
theorem val_mem {kvs : List (Key × V)} {k : Key} {v : V} (h : valV kvs k = some v) : (k, v) ∈ kvs := by
  induction kvs with
  | nil => cases h
  | cons p r ih =>
    by_cases e : p.1 = k
    · rw [valV_pos e] at h
      cases h
      rw [← e]
      exact List.mem_cons_self
    · rw [valV_neg e] at h
      exact List.mem_cons_of_mem _ (ih h)
theorem val_isSome {kvs : List (Key × V)} {k : Key} : (valV kvs k).isSome = true ↔ k ∈ kvs.map (·.1) := by
  constructor
  · intro h
    obtain ⟨v, hv⟩ := Option.isSome_iff_exists.mp h
    exact List.mem_map.mpr ⟨_, val_mem hv, rfl⟩
  · intro h
    obtain ⟨v, hv⟩ := val_some h
    rw [hv]; rfl
theorem board_some {cl : ClsOf} {Cb : Addr} {gs : List Gr} {H : Hp} {b : Addr} {B : BS} (A : BoardAt cl Cb gs H b B) {a : Addr} (h : a ∈ bfoot b B) : H a ≠ none := by
  obtain ⟨dx, hob⟩ := A.ob
  rcases List.mem_append.mp h with h | h
  · simp at h
    rcases h with h | h | h | h <;> subst h
    · rw [hob]; intro z; cases z
    · rw [A.de]; intro z; cases z
    · rw [A.dv]; intro z; cases z
    · rw [A.dm]; intro z; cases z
  · obtain ⟨e, he, ha⟩ := mem_feet h
    obtain ⟨⟨ks, V⟩, _⟩ := A.vw e he
    obtain ⟨dx, hp⟩ := V.ob.ob
    unfold foot at ha
    split at ha
    · rename_i z
      obtain ⟨ts, its, hl, _⟩ := V.ob.li z
      simp at ha
      rcases ha with h | h | h <;> subst h
      · rw [hp]; intro z; cases z
      · rw [V.dc]; intro z; cases z
      · rw [hl]; intro z; cases z
    · simp at ha
      rcases ha with h | h <;> subst h
      · rw [hp]; intro z; cases z
      · rw [V.dc]; intro z; cases z
structure BSame (B B' : BS) : Prop where
  e : B'.dE = B.dE
  v : B'.dV = B.dV
  m : B'.dM = B.dM
  t : (B'.vs.map fun e => (e.num, e.q, e.S)) = B.vs.map fun e => (e.num, e.q, e.S)
theorem BSame.refl (B : BS) : BSame B B := ⟨rfl, rfl, rfl, rfl⟩
theorem BSame.trans {A B C : BS} (h : BSame A B) (h' : BSame B C) : BSame A C := ⟨h'.e.trans h.e, h'.v.trans h.v, h'.m.trans h.m, h'.t.trans h.t⟩
theorem BSame.feet {B B' : BS} (h : BSame B B') : feet B'.vs = feet B.vs := feet_tag (by
  have := congrArg (List.map fun t : Int × Qu × VS => (t.2.1, t.2.2)) h.t
  rw [List.map_map, List.map_map] at this
  exact this)
theorem BSame.foot {B B' : BS} {b : Addr} (h : BSame B B') : bfoot b B' = bfoot b B := by
  unfold bfoot
  rw [h.feet, h.e, h.v, h.m]
theorem BSame.nums {B B' : BS} (h : BSame B B') : B'.vs.map (·.num) = B.vs.map (·.num) := by
  have := congrArg (List.map fun t : Int × Qu × VS => t.1) h.t
  rw [List.map_map, List.map_map] at this
  exact this
theorem BSame.qs {B B' : BS} (h : BSame B B') : (B'.vs.map fun e => (e.num, e.q)) = B.vs.map fun e => (e.num, e.q) := by
  have := congrArg (List.map fun t : Int × Qu × VS => (t.1, t.2.1)) h.t
  rw [List.map_map, List.map_map] at this
  exact this
section
variable {P : Program} {w : World} {K : PySem.W.Frag} {mg : Str → Option Value} {base : Heap} {cl : ClsOf} {Cb : Addr}
def spBInit (cl : ClsOf) (Cb : Addr) : Sp := fun vs H Q _ => ∃ (b dx : Addr) (gs : List Gr), vs = [.ref b] ∧ H b = some (.ins Cb dx []) ∧ GsOk gs ∧
  ∀ H' B, B.n = 0 → B.ek = [] → B.vs = [] → BoardAt cl Cb gs H' b B → Kp [b] H H' → (∀ a ∈ bfoot b B, a = b ∨ H a = none) → Q .non H'
theorem sc_Board___init__ : FnScope ["self"] ["self"] (defScope (inClass (top 22) 0)) := ⟨rfl, rfl, rfl, by decide +kernel, rfl, by decide +kernel, by decide +kernel⟩
theorem k_Board_x (BTf : BT K Cb) (D : MkIn K Cb "Board.__init__" (inClass (top 22) 0) ["self"]) (gx : mg "Board" = some (.ref Cb)) : Mk1 P w K mg base 1 "Board" Cb (spBInit cl Cb) := by
  obtain ⟨f, fd, M, F, bd⟩ := D.ex
  refine ⟨f, fd, _, M, F.ok sc_Board___init__ (fun vs H Q E h => ?_) (fun cdv A outer s H vs Q E hr h => ?_), gx, bd⟩
  · obtain ⟨b, dx, gs, rfl, _⟩ := h
    rfl
  obtain ⟨b, dx, gs, rfl, hb, hg, fin⟩ := h
  refine ⟨_, (pss_cons (ps_fld (pv 0) pe_int rfl)
      (pss_cons (ps_fld (pv 0) pe_dnewK rfl)
      (pss_cons (ps_fld (pv 0) pe_dnewK rfl)
      (pss_one (ps_fld (pv 0) pe_dnewK rfl))))), ?_⟩
  refine ⟨_, rfl, b, _, dx, _, rfl, hb, BTf.c, BTf.n, (by show 0 < 1000; decide), ?_⟩
  have k1 : Kp [b] H (upd H b (.ins Cb dx (putF "_mark" (.int 0) []))) := Kp.refl.mut (by simp) hb (by intro xs z; cases z)
  intro dE hE
  have k2 := k1.new (o := .dK []) hE
  have nbE : b ≠ dE := ne_of_none upd_same hE
  refine ⟨_, rfl, b, _, dx, _, rfl, by rw [upd_ne nbE]; exact upd_same, BTf.c, BTf.e, (by show 1 < 1000; decide), ?_⟩
  have hE0 : H dE = none := k1.d _ hE
  generalize e3 : upd (upd (upd H b (.ins Cb dx (putF "_mark" (.int 0) []))) dE (.dK [])) b (.ins Cb dx (putF "_early" (.ref dE) (putF "_mark" (.int 0) []))) = H3
  have hb3 : H3 b = some (.ins Cb dx (putF "_early" (.ref dE) (putF "_mark" (.int 0) []))) := by rw [← e3]; exact upd_same
  have hE3 : H3 dE = some (.dK []) := by rw [← e3, upd_ne nbE.symm]; exact upd_same
  have k3 : Kp [b] H H3 := by rw [← e3]; exact k2.mut (by simp) (by rw [upd_ne nbE]; exact upd_same) (by intro xs z; cases z)
  intro dV hV
  have nbV : b ≠ dV := ne_of_none hb3 hV
  have nEV : dE ≠ dV := ne_of_none hE3 hV
  have hV0 : H dV = none := k3.d _ hV
  refine ⟨_, rfl, b, _, dx, _, rfl, by rw [upd_ne nbV]; exact hb3, BTf.c, BTf.v, (by show 2 < 1000; decide), ?_⟩
  generalize e5 : upd (upd H3 dV (.dK [])) b (.ins Cb dx (putF "_views" (.ref dV) (putF "_early" (.ref dE) (putF "_mark" (.int 0) [])))) = H5
  have hb5 : H5 b = some (.ins Cb dx (putF "_views" (.ref dV) (putF "_early" (.ref dE) (putF "_mark" (.int 0) [])))) := by rw [← e5]; exact upd_same
  have k5' : Kp [b] H3 H5 := by rw [← e5]; exact (Kp.refl.new hV).mut (by simp) (by rw [upd_ne nbV]; exact hb3) (by intro xs z; cases z)
  have hE5 : H5 dE = some (.dK []) := k5'.k _ _ hE3 (by simpa using nbE.symm)
  have hV5 : H5 dV = some (.dK []) := by rw [← e5, upd_ne nbV.symm]; exact upd_same
  have k5 : Kp [b] H H5 := k3.trans k5'
  intro dM hM
  have nbM : b ≠ dM := ne_of_none hb5 hM
  have nEM : dE ≠ dM := ne_of_none hE5 hM
  have nVM : dV ≠ dM := ne_of_none hV5 hM
  have hM0 : H dM = none := k5.d _ hM
  refine ⟨_, rfl, b, _, dx, _, rfl, by rw [upd_ne nbM]; exact hb5, BTf.c, BTf.m, (by show 3 < 1000; decide), ?_⟩
  have k7 : Kp [b] H5 (upd (upd H5 dM (.dK [])) b (.ins Cb dx (putF "_moments" (.ref dM) (putF "_views" (.ref dV) (putF "_early" (.ref dE) (putF "_mark" (.int 0) [])))))) := (Kp.refl.new hM).mut (by simp) (by rw [upd_ne nbM]; exact hb5) (by intro xs z; cases z)
  refine fin _ ⟨dE, dV, dM, 0, [], []⟩ rfl rfl rfl ⟨⟨dx, upd_same⟩, k7.k _ _ hE5 (by simpa using nbE.symm), k7.k _ _ hV5 (by simpa using nbV.symm), (by show upd _ _ _ dM = _; rw [upd_ne nbM.symm]; exact upd_same), ⟨List.nodup_nil, fun p hp => (by cases hp)⟩, fun e he => (by cases he), List.nodup_nil, ?_, Nat.zero_le _, (by show 0 < 64; decide), hg⟩ (k5.trans k7) fun a ha => ?_
  · show ([b, dE, dV, dM] ++ []).Nodup
    simp [nbE, nbV, nbM, nEV, nEM, nVM]
  · simp [bfoot, feet] at ha
    rcases ha with h | h | h | h
    · exact .inl h
    · exact .inr (by rw [h]; exact hE0)
    · exact .inr (by rw [h]; exact hV0)
    · exact .inr (by rw [h]; exact hM0)
def spMark (cl : ClsOf) (Cb : Addr) : Sp := fun vs H Q _ => ∃ (b : Addr) (gs : List Gr) (B : BS), vs = [.ref b] ∧ BoardAt cl Cb gs H b B ∧ Q (.int B.n) H
theorem sc_Board_mark : FnScope ["self"] ["self"] (defScope (inClass (top 22) 1)) := ⟨rfl, rfl, rfl, by decide +kernel, rfl, by decide +kernel, by decide +kernel⟩
theorem m_Board_mark_x (BTf : BT K Cb) (D : MetIn K Cb "mark" "Board.mark" (inClass (top 22) 1) ["self"]) : Mt P w K mg base 1 Cb "mark" (spMark cl Cb) := by
  refine mt_of D sc_Board_mark (fun vs H Q E h => ?_) (fun f cdv A outer s H vs Q E hr h => ?_)
  · obtain ⟨b, gs, B, rfl, _⟩ := h
    rfl
  obtain ⟨b, gs, B, rfl, A, fin⟩ := h
  obtain ⟨dx, hob⟩ := A.ob
  refine ⟨_, (pss_one (ps_ret (pe_fld (pv 0) rfl))), ?_⟩
  exact ⟨_, rfl, b, _, dx, _, _, rfl, hob, BTf.c, BTf.n, rfl, fin⟩
def spNumbers (cl : ClsOf) (Cb : Addr) : Sp := fun vs H Q _ => ∃ (b : Addr) (gs : List Gr) (B : BS), vs = [.ref b] ∧ BoardAt cl Cb gs H b B ∧
  ∀ (ys : List Int) (p : Addr) H', ys.Perm (B.vs.map (·.num)) → ys.Pairwise (· ≤ ·) → Kp [] H H' → H' p = some (.lst (ys.map V.int)) → Q (.ref p) H'
theorem sc_Board_numbers : FnScope ["self"] ["self"] (defScope (inClass (top 22) 2)) := ⟨rfl, rfl, rfl, by decide +kernel, rfl, by decide +kernel, by decide +kernel⟩
theorem m_Board_numbers_x (T : Bl mg) (BTf : BT K Cb) (D : MetIn K Cb "numbers" "Board.numbers" (inClass (top 22) 2) ["self"]) : Mt P w K mg base 1 Cb "numbers" (spNumbers cl Cb) := by
  refine mt_of D sc_Board_numbers (fun vs H Q E h => ?_) (fun f cdv A outer s H vs Q E hr h => ?_)
  · obtain ⟨b, gs, B, rfl, _⟩ := h
    rfl
  obtain ⟨b, gs, B, rfl, A, fin⟩ := h
  obtain ⟨dx, hob⟩ := A.ob
  refine ⟨_, (pss_one (ps_ret (pe_callB (call_sortedDI rfl) (by rfl) T.sorted (by decide +kernel) (pa_cons (pe_fld (pv 0) rfl) pa_nil)))), ?_⟩
  exact ⟨_, rfl, b, _, dx, _, _, rfl, hob, BTf.c, BTf.v, rfl, B.dV, _, _, rfl, .inl A.dv, vkv_keys _, by rw [List.length_map]; exact A.few, fun ys p h1 h2 hp => fin ys p _ h1 h2 (Kp.refl.new hp) upd_same⟩

/-! ### _forget_early -/
def spForget (Cb : Addr) : Sp := fun vs H Q _ => ∃ (b dx : Addr) (B : BS) (l : List Int), vs = [.ref b] ∧ H b = some (.ins Cb dx (bflds B)) ∧ H B.dE = some (.dK B.ek) ∧ B.ek.map (·.1) = l.map Sum.inl ∧ l.Nodup ∧ l.length < 64 ∧
  ∀ ek' H', ek'.Sublist B.ek → (∀ p ∈ ek', ∀ i : Int, p.1 = Sum.inl i → (B.n : Int) < i) → Kp [B.dE] H H' → H' B.dE = some (.dK ek') → Q .non H'
theorem sc_Board__forget_early : FnScope ["self", "number"] ["self"] (defScope (inClass (top 22) 3)) := ⟨rfl, rfl, rfl, by decide +kernel, rfl, by decide +kernel, by decide +kernel⟩
theorem m_Board_forget (T : Bl mg) (BTf : BT K Cb) (D : MetIn K Cb "_forget_early" "Board._forget_early" (inClass (top 22) 3) ["self"]) : Mt P w K mg base 1 Cb "_forget_early" (spForget Cb) := by
  refine mt_of D sc_Board__forget_early (fun vs H Q E h => ?_) (fun f cdv A outer s H vs Q E hr h => ?_)
  · obtain ⟨b, dx, B, l, rfl, _⟩ := h
    rfl
  obtain ⟨b, dx, B, l, rfl, hob, hE, el, nd, h64, fin⟩ := h
  have nbE : b ≠ B.dE := ne_of hob hE (by intro z; cases z)
  refine ⟨_, (pss_one (ps_for PassesOwn.never rfl (pi_list (pe_callB (call_sortedDI rfl) (by rfl) T.sorted (by decide +kernel) (pa_cons (pe_fld (pv 0) rfl) pa_nil))) (pg_name (i := 1) sc_Board__forget_early.nd rfl (Or.inl rfl))
        (pss_one (ps_if (pt_cmpR op_le (pv 1) (pe_fld (pv 0) rfl) (nomark _)) (pss_one (ps_expr (pe_dpop1 (pe_fld (pv 0) rfl) (pv 1) ⟨rfl, rfl, rfl, rfl⟩))) pss_nil)))), ?_⟩
  refine ⟨_, rfl, b, _, dx, _, _, rfl, hob, BTf.c, BTf.e, rfl, B.dE, B.ek, l, rfl, .inl hE, el, h64, fun ys r hperm _ hr0 => ⟨r, rfl, ⟨_, SqL.of upd_same⟩, ?_⟩⟩
  have ndy : ys.Nodup := hperm.nodup_iff.mpr nd
  have nrE : r ≠ B.dE := (ne_of_none hE hr0).symm
  have kr : Kp [B.dE] H (upd H r (.lst (ys.map V.int))) := Kp.refl.new hr0
  refine for_list (xs := ys.map V.int) (fun i σ' H' => (∃ x, σ' = [some (.ref b), x]) ∧ Kp [B.dE] H H' ∧ H' r = some (.lst (ys.map V.int)) ∧ ∃ ek', ek'.Sublist B.ek ∧ H' B.dE = some (.dK ek') ∧ (∀ p ∈ ek', ∀ y ∈ ys.take i, p.1 = Sum.inl y → (B.n : Int) < y) ∧ ∀ y ∈ ys.drop i, Sum.inl y ∈ ek'.map (·.1))
    ⟨⟨none, rfl⟩, kr, upd_same, B.ek, .refl _, by rw [upd_ne (ne_of_none hE hr0)]; exact hE, fun p _ y hy => by simp at hy, fun y hy => ?_⟩ (fun i σ' H' _ h => SqL.of h.2.2.1) (fun i x σ' H' hx h => ?_) (fun σ' H' h => ?_)
  · rw [el]
    exact List.mem_map.mpr ⟨y, hperm.mem_iff.mp (by simpa using hy), rfl⟩
  · obtain ⟨⟨x0, rfl⟩, kp, hlr, ek', sub, he', old, nw⟩ := h
    rw [List.getElem?_map, Option.map_eq_some_iff] at hx
    obtain ⟨y, hy, rfl⟩ := hx
    have hob' := kp.k _ _ hob (by simpa using nbE)
    obtain ⟨hi, ey⟩ := List.getElem?_eq_some_iff.mp hy
    have dr : ys.drop i = y :: ys.drop (i + 1) := by rw [List.drop_eq_getElem_cons hi, ey]
    have tk1 : ys.take (i + 1) = ys.take i ++ [y] := by rw [List.take_add_one, hy]; rfl
    refine ⟨_, rfl, _, rfl, b, _, dx, _, _, rfl, hob', BTf.c, BTf.n, rfl, _, _, rfl, rfl, _, rfl, ite2 (fun c => ?_) (fun c => ?_)⟩
    · have hk : Sum.inl y ∈ ek'.map (·.1) := nw y (by rw [dr]; exact List.mem_cons_self)
      obtain ⟨v, hv⟩ := val_some hk
      refine ⟨_, rfl, b, _, dx, _, _, rfl, hob', BTf.c, BTf.e, rfl, B.dE, rfl, .inl ⟨_, .inl he'⟩, _, rfl, ek', Sum.inl y, v, he', rfl, hv, ?_⟩
      refine ⟨⟨_, rfl⟩, kp.mut (by simp) he' (by intro xs z; cases z), by rw [upd_ne nrE]; exact hlr, dropK ek' (Sum.inl y), (List.filter_sublist).trans sub, upd_same, fun p hp z hz e => ?_, fun z hz => ?_⟩
      · obtain ⟨hp1, hp2⟩ := List.mem_filter.mp hp
        rw [tk1] at hz
        rcases List.mem_append.mp hz with hz | hz
        · exact old p hp1 z hz e
        · rw [List.mem_singleton.mp hz] at e
          exact absurd e (of_decide_eq_true hp2)
      · have h1 := nw z (by rw [dr]; exact List.mem_cons_of_mem _ hz)
        obtain ⟨p, hp, ep⟩ := List.mem_map.mp h1
        refine List.mem_map.mpr ⟨p, List.mem_filter.mpr ⟨hp, decide_eq_true fun e => ?_⟩, ep⟩
        rw [ep] at e
        have ezy : z = y := Sum.inl.inj e
        have ndd : (y :: ys.drop (i + 1)).Nodup := by rw [← dr]; exact ndy.sublist (List.drop_sublist i ys)
        rw [List.nodup_cons] at ndd
        exact ndd.1 (by rw [← ezy]; exact hz)
    · refine ⟨⟨_, rfl⟩, kp, hlr, ek', sub, he', fun p hp z hz e => ?_, fun z hz => nw z (by rw [dr]; exact List.mem_cons_of_mem _ hz)⟩
      rw [tk1] at hz
      rcases List.mem_append.mp hz with hz | hz
      · exact old p hp z hz e
      · rw [List.mem_singleton.mp hz]
        have c' : ¬ y ≤ (B.n : Int) := fun z => c (decide_eq_true z)
        omega
  · obtain ⟨_, kp, _, ek', sub, he', old, _⟩ := h
    refine fin ek' H' sub (fun p hp i e => ?_) kp he'
    rw [List.length_map, List.take_length] at old
    have : Sum.inl i ∈ B.ek.map (·.1) := List.mem_map.mpr ⟨p, sub.subset hp, e⟩
    rw [el] at this
    obtain ⟨i', hi', ei⟩ := List.mem_map.mp this
    cases ei
    exact old p hp i (hperm.mem_iff.mpr hi') e
end
end LH
/-! The board moves, takes notes. -/
namespace LH
open PySem PySem.Spec L2
open PyProof.Rows (envOfC)
theorem ek_drop {H : Hp} {gs : List Gr} {n : Nat} {ek : List (Key × V)} {k : Key} (h : EkOk H gs n ek) : EkOk H gs n (dropK ek k) :=
  ⟨(h.nd.sublist ((List.filter_sublist).map _)), fun p hp => h.at_ p (List.mem_filter.mp hp).1⟩
theorem sm1000 {n : Nat} (h : n < 1000) : n < sizeLine := Nat.lt_of_lt_of_le h (by decide)
section
variable {P : Program} {w : World} {K : PySem.W.Frag} {mg : Str → Option Value} {base : Heap} {cl : ClsOf} {Cb : Addr}
def spMove (cl : ClsOf) (Cb : Addr) : Sp := fun vs H Q _ => ∃ (b : Addr) (gs : List Gr) (B : BS), vs = [.ref b] ∧ BoardAt cl Cb gs H b B ∧
  ∀ H' B', BoardAt cl Cb gs H' b B' → Kp (bfoot b B) H H' → BSame B B' → B.n ≤ B'.n → (Sum.inl ((B.n : Int) + 1) ∈ B.ek.map (·.1) → B.n + 1 ≤ B'.n) → Q .non H'
theorem sc_Board__move : FnScope ["self", "group", "number"] ["self"] (defScope (inClass (top 22) 4)) := ⟨rfl, rfl, rfl, by decide +kernel, rfl, by decide +kernel, by decide +kernel⟩
theorem m_Board_move (T : Bl mg) (BTf : BT K Cb) (m_view_take : ∀ kd, Mt P w K mg base 4 (cl kd) "take" (spTake cl kd)) (D : MetIn K Cb "_move" "Board._move" (inClass (top 22) 4) ["self"]) : Mt P w K mg base 5 Cb "_move" (spMove cl Cb) := by
  refine mt_of D sc_Board__move (fun vs H Q E h => ?_) (fun f cdv A outer s H vs Q E hr h => ?_)
  · obtain ⟨b, gs, B, rfl, _⟩ := h
    rfl
  obtain ⟨b, gs, B, rfl, A0, fin⟩ := h
  have hu := hu_of hr
  refine ⟨_, (pss_one (ps_while PassesOwn.never (pt_cmp (pc_din hu (pe_op op_add (pe_fld (pv 0) rfl) pe_int) (pe_fld (pv 0) rfl))) (pss_cons (ps_set (i := 1) sc_Board__move.nd rfl (Or.inl rfl) (pe_dpop1 (pe_fld (pv 0) rfl) (pe_op op_add (pe_fld (pv 0) rfl) pe_int) ⟨rfl, rfl, rfl, rfl⟩))
        (pss_cons (ps_for PassesOwn.never rfl (pi_list (pe_callB (call_sortedDI rfl) (by rfl) T.sorted (by decide +kernel) (pa_cons (pe_fld (pv 0) rfl) pa_nil))) (pg_name (i := 2) sc_Board__move.nd rfl (Or.inl rfl))
          (pss_one (ps_if (pt_cmpR op_eq (pe_dget hu (pe_fld (pv 0) rfl) (pv 2) (fun _ _ => rfl)) (pe_fld (pv 0) rfl) (nomark _)) (pss_cons (ps_expr (mt_f m_view_take hr (by decide) (pe_dget hu (pe_fld (pv 0) rfl) (pv 2) (fun _ _ => rfl)) (pa_cons (pv 1) pa_nil)))
            (pss_one (ps_daug hu (pe_fld (pv 0) rfl) (pv 2) pe_int in_add (fun _ _ _ => rfl)))) pss_nil)))
        (pss_one (ps_fldaug (pv 0) pe_int in_add)))))), ?_⟩
  refine ⟨fun m σ H1 => ∃ B1 x y, m = gs.length - B1.n ∧ σ = [some (.ref b), x, y] ∧ BoardAt cl Cb gs H1 b B1 ∧ Kp (bfoot b B) H H1 ∧ BSame B B1 ∧ B.n ≤ B1.n ∧ (Sum.inl ((B.n : Int) + 1) ∈ B.ek.map (·.1) → B1 = B ∨ B.n + 1 ≤ B1.n),
    ⟨_, B, none, none, rfl, rfl, A0, .refl, .refl B, Nat.le_refl _, fun _ => .inl rfl⟩, fun m σ H1 W => ?_⟩
  obtain ⟨B1, x, y, rfl, rfl, A1, k1, s1, n1, w1⟩ := W
  obtain ⟨dx, hob⟩ := A1.ob
  have ft1 : bfoot b B1 = bfoot b B := s1.foot
  refine ⟨_, rfl, b, _, dx, _, _, rfl, hob, BTf.c, BTf.n, rfl, _, _, rfl, rfl, _, rfl, b, _, dx, _, _, rfl, hob, BTf.c, BTf.e, rfl, B1.dE, _, rfl, DGet.k (k := Sum.inl ((B1.n : Int) + 1)) A1.de, _, rfl, ite2 (fun c => ?_) (fun c => ?_)⟩
  · have hin : Sum.inl ((B1.n : Int) + 1) ∈ B1.ek.map (·.1) := val_isSome.mp c
    obtain ⟨v, hv⟩ := val_some hin
    obtain ⟨c0, g, ga, e1, _, hg, e2, hga⟩ := A1.ek.at_ _ (val_mem hv)
    have ec : c0 = B1.n := by have := Sum.inl.inj e1; omega
    subst ec
    have e2 : v = .ref ga := e2
    subst e2
    have hlt := (List.getElem?_eq_some_iff.mp hg).1
    obtain ⟨A2, k2⟩ := board_ek A1 (ek_drop (k := Sum.inl ((B1.n : Int) + 1)) A1.ek)
    generalize eH2 : upd H1 B1.dE (.dK (dropK B1.ek (Sum.inl ((B1.n : Int) + 1)))) = H2 at A2 k2
    have hga2 := hga.kp k2
    refine ⟨fun σ' H' => ∃ m', m' < gs.length - B1.n ∧ ∃ B1 x y, m' = gs.length - B1.n ∧ σ' = [some (.ref b), x, y] ∧ BoardAt cl Cb gs H' b B1 ∧ Kp (bfoot b B) H H' ∧ BSame B B1 ∧ B.n ≤ B1.n ∧ (Sum.inl ((B.n : Int) + 1) ∈ B.ek.map (·.1) → B1 = B ∨ B.n + 1 ≤ B1.n), fun σ' H' h => h, ?_⟩
    refine ⟨_, rfl, b, _, dx, _, _, rfl, hob, BTf.c, BTf.e, rfl, B1.dE, rfl, .inl ⟨_, .inl A1.de⟩, _, rfl, b, _, dx, _, _, rfl, hob, BTf.c, BTf.n, rfl, _, _, rfl, rfl, B1.ek, Sum.inl ((B1.n : Int) + 1), .ref ga, A1.de, rfl, hv, ?_⟩
    rw [eH2]
    obtain ⟨dx2, hob2⟩ := A2.ob
    refine ⟨_, rfl, b, _, dx2, _, _, rfl, hob2, BTf.c, BTf.v, rfl, B1.dV, _, _, rfl, .inl A2.dv, vkv_keys _, by rw [List.length_map]; exact A2.few, fun ys r hperm _ hr0 => ⟨r, rfl, ⟨_, SqL.of upd_same⟩, ?_⟩⟩
    have ky : ∀ z, z ∈ ys ↔ z ∈ B1.vs.map (·.num) := fun z => hperm.mem_iff
    have kr : Kp [] H2 (upd H2 r (.lst (ys.map V.int))) := Kp.refl.new hr0
    have nrf : r ∉ bfoot b B1 := fun z => board_some A2 (show r ∈ bfoot b { B1 with ek := dropK B1.ek (Sum.inl ((B1.n : Int) + 1)) } from z) hr0
    refine for_list (xs := ys.map V.int) (fun i σ' H' => (∃ x, σ' = [some (.ref b), some (.ref ga), x]) ∧ H' r = some (.lst (ys.map V.int)) ∧ Kp (bfoot b B1) H1 H' ∧ Kp (bfoot b B1) H2 H' ∧ ∃ vs', BoardAt cl Cb gs H' b { B1 with ek := dropK B1.ek (Sum.inl ((B1.n : Int) + 1)), vs := vs' } ∧
        ((vs'.map fun e => (e.num, e.q, e.S)) = B1.vs.map fun e => (e.num, e.q, e.S)) ∧ ∀ e ∈ vs', e.num ∈ ys.take i → B1.n + 1 ≤ e.mom)
      ⟨⟨_, rfl⟩, upd_same, k2.trans kr.nil, kr.nil, B1.vs, board_kp A2 kr (by simp), rfl, fun e _ h => by simp at h⟩ (fun i σ' H' _ h => SqL.of h.2.1) (fun i x σ' H' hx h => ?_) (fun σ' H' h => ?_)
    · obtain ⟨⟨x0, rfl⟩, hlr, kp, kp2, vs', A3, tg, mv⟩ := h
      rw [List.getElem?_map, Option.map_eq_some_iff] at hx
      obtain ⟨y, hy, rfl⟩ := hx
      have s3 : BSame B1 { B1 with ek := dropK B1.ek (Sum.inl ((B1.n : Int) + 1)), vs := vs' } := ⟨rfl, rfl, rfl, tg⟩
      have hym : y ∈ vs'.map (·.num) := by
        rw [show vs'.map (·.num) = B1.vs.map (·.num) from s3.nums]
        exact (ky y).mp (List.mem_of_getElem? hy)
      obtain ⟨e, he, ey⟩ := ent_of hym
      subst ey
      obtain ⟨⟨ks, Vw⟩, hm1, hm2⟩ := A3.vw e he
      have hm1 : B1.n ≤ e.mom := hm1
      obtain ⟨dx3, hob3⟩ := A3.ob
      have tk1 : ys.take (i + 1) = ys.take i ++ [e.num] := by rw [List.take_add_one, hy]; rfl
      have gm : DGet H' B1.dM (.int e.num) (some (.int e.mom)) := by rw [← mkv_get A3.nd he]; exact DGet.k (k := Sum.inl e.num) A3.dm
      have gv : DGet H' B1.dV (.int e.num) (some (.ref e.S.p)) := by rw [← vkv_get A3.nd he]; exact DGet.k (k := Sum.inl e.num) A3.dv
      refine ⟨_, rfl, b, _, dx3, _, _, rfl, hob3, BTf.c, BTf.m, rfl, _, rfl, B1.dM, .int e.mom, rfl, gm, _, rfl, b, _, dx3, _, _, rfl, hob3, BTf.c, BTf.n, rfl, rfl, _, rfl, ite2 (fun c => ?_) (fun c => ?_)⟩
      · have em : e.mom = B1.n := by
          have h2 : V.int (e.mom : Int) = V.int (B1.n : Int) := of_decide_eq_true c
          exact Int.ofNat.inj (L2.V.int.inj h2)
        obtain ⟨dxv, hvo⟩ := Vw.ob.ob
        refine ⟨_, rfl, b, _, dx3, _, _, rfl, hob3, BTf.c, BTf.v, rfl, _, rfl, B1.dV, .ref e.S.p, rfl, gv, e.S.p, e.q.kd, dxv, _, rfl, hvo, fl_take e.q e.S ks, _, rfl, ?_⟩
        refine ⟨e.q, e.S, _, ks, ga, g, rfl, rfl, Vw, hga2.kp kp2, A3.gk.ok g (List.mem_of_getElem? hg), fun H4 ks4 kp4 V4 => ?_⟩
        obtain ⟨⟨dx4, hob4⟩, hdm4, A5, kp5⟩ := board_bump A3 he (by rw [em]; exact hg) kp4 V4
        have gm4 : DGet H4 B1.dM (.int e.num) (some (.int e.mom)) := by rw [← mkv_get A3.nd he]; exact DGet.k (k := Sum.inl e.num) hdm4
        refine ⟨_, rfl, b, _, dx4, _, _, rfl, hob4, BTf.c, BTf.m, rfl, _, rfl, B1.dM, .int e.mom, rfl, gm4, _, _, rfl, rfl, _, .inl ⟨_, Sum.inl e.num, hdm4, rfl, sm1000 (by unfold mkv; rw [List.length_map]; have := A3.few; exact Nat.lt_trans this (by decide)), rfl⟩, ?_⟩
        rw [s3.foot] at kp5
        refine ⟨⟨_, rfl⟩, kp5.k _ _ hlr nrf, kp.trans kp5, kp2.trans kp5, _, A5, ?_, fun e' he' hn => ?_⟩
        · rw [← tg, List.map_map]
          refine List.map_congr_left fun e' _ => ?_
          show ((bump _ _ e').num, (bump _ _ e').q, (bump _ _ e').S) = _
          rw [bump_num, bump_q, bump_S]
        · obtain ⟨x', hx', rfl⟩ := List.mem_map.mp he'
          by_cases z : x'.num = e.num
          · have : (bump e.num (e.mom + 1) x').mom = e.mom + 1 := by unfold bump; rw [if_pos z]
            rw [this, em]
            exact Nat.le_refl _
          · have : bump e.num (e.mom + 1) x' = x' := by unfold bump; rw [if_neg z]
            rw [this] at hn ⊢
            rw [tk1] at hn
            rcases List.mem_append.mp hn with hn | hn
            · exact mv x' hx' hn
            · exact absurd (List.mem_singleton.mp hn) z
      · refine ⟨⟨_, rfl⟩, hlr, kp, kp2, vs', A3, tg, fun e' he' hn => ?_⟩
        rw [tk1] at hn
        rcases List.mem_append.mp hn with hn | hn
        · exact mv e' he' hn
        · have ee := one_ent A3.nd he' he (List.mem_singleton.mp hn)
          rw [ee]
          have : ¬ (e.mom : Int) = (B1.n : Int) := fun z => c (decide_eq_true (by rw [z]))
          omega
    · obtain ⟨⟨x0, rfl⟩, hlr, kp, kp2, vs', A3, tg, mv⟩ := h
      rw [List.length_map, List.take_length] at mv
      have s3 : BSame B1 { B1 with ek := dropK B1.ek (Sum.inl ((B1.n : Int) + 1)), vs := vs' } := ⟨rfl, rfl, rfl, tg⟩
      obtain ⟨dx3, hob3⟩ := A3.ob
      have all : ∀ e ∈ vs', B1.n + 1 ≤ e.mom := fun e he => mv e he ((ky _).mpr (by
        rw [← show vs'.map (·.num) = B1.vs.map (·.num) from s3.nums]
        exact List.mem_map.mpr ⟨e, he, rfl⟩))
      have ek3 : EkOk H' gs (B1.n + 1) (dropK B1.ek (Sum.inl ((B1.n : Int) + 1))) := ⟨A3.ek.nd, fun p hp => by
        obtain ⟨c, g', ga', a1, a2, a3, a4, a5⟩ := A3.ek.at_ p hp
        have a2 : B1.n ≤ c := a2
        have hne := of_decide_eq_true (List.mem_filter.mp hp).2
        refine ⟨c, g', ga', a1, ?_, a3, a4, a5⟩
        have : c ≠ B1.n := fun z => hne (by rw [a1, z])
        omega⟩
      obtain ⟨A6, kp6⟩ := board_up A3 (n' := B1.n + 1) hlt all ek3 hob3
      rw [s3.foot] at kp6
      refine ⟨_, rfl, b, _, dx3, _, _, rfl, hob3, BTf.c, BTf.n, rfl, _, _, rfl, rfl, dx3, _, hob3, (by show 4 < 1000; decide), ?_⟩
      refine ⟨gs.length - (B1.n + 1), by omega, _, _, _, rfl, rfl, A6, ?_, s1.trans ⟨rfl, rfl, rfl, tg⟩, Nat.le_succ_of_le n1, fun _ => .inr (Nat.succ_le_succ n1)⟩
      rw [ft1] at kp kp6
      exact (k1.trans kp).trans kp6
  · refine fin H1 B1 A1 k1 s1 n1 fun h => ?_
    rcases w1 h with e | e
    · subst e
      exact absurd (val_isSome.mpr h) c
    · exact e
/-! ### note -/
def spNote (cl : ClsOf) (Cb : Addr) : Sp := fun vs H Q _ => ∃ (b ga : Addr) (gs : List Gr) (B : BS) (c : Nat) (g : Gr), vs = [.ref b, .int ((c : Int) + 1), .ref ga] ∧ BoardAt cl Cb gs H b B ∧ gs[c]? = some g ∧ GrpAt H ga g ∧
  ∀ H' B', BoardAt cl Cb gs H' b B' → Kp (bfoot b B) H H' → BSame B B' → B.n ≤ B'.n → (B.n = c → c + 1 ≤ B'.n) → Q .non H'
theorem ek_put {H : Hp} {gs : List Gr} {n c : Nat} {g : Gr} {ga : Addr} {ek : List (Key × V)} (h : EkOk H gs n ek) (hc : n ≤ c) (hg : gs[c]? = some g) (hga : GrpAt H ga g) : EkOk H gs n (putK ek (Sum.inl ((c : Int) + 1)) (.ref ga)) := by
  by_cases hk : Sum.inl ((c : Int) + 1) ∈ ek.map (·.1)
  · have e : putK ek (Sum.inl ((c : Int) + 1)) (.ref ga) = ek.map fun kv => if kv.1 = Sum.inl ((c : Int) + 1) then (kv.1, V.ref ga) else kv := by
      unfold putK
      rw [if_pos]
      obtain ⟨p, hp, ep⟩ := List.mem_map.mp hk
      exact List.any_eq_true.mpr ⟨p, hp, decide_eq_true ep⟩
    rw [e]
    refine ⟨?_, fun p hp => ?_⟩
    · rw [List.map_map]
      have : (ek.map ((fun x : Key × V => x.1) ∘ fun kv => if kv.1 = Sum.inl ((c : Int) + 1) then (kv.1, V.ref ga) else kv)) = ek.map (·.1) := List.map_congr_left fun kv _ => by
        show (if kv.1 = Sum.inl ((c : Int) + 1) then (kv.1, V.ref ga) else kv).1 = kv.1
        split <;> rfl
      rw [this]
      exact h.nd
    · obtain ⟨kv, hkv, rfl⟩ := List.mem_map.mp hp
      obtain ⟨c', g', ga', a1, a2, a3, a4, a5⟩ := h.at_ kv hkv
      by_cases z : kv.1 = Sum.inl ((c : Int) + 1)
      · rw [if_pos z]
        exact ⟨c, g, ga, z, hc, hg, rfl, hga⟩
      · rw [if_neg z]
        exact ⟨c', g', ga', a1, a2, a3, a4, a5⟩
  · rw [put_new hk]
    refine ⟨?_, fun p hp => ?_⟩
    · rw [List.map_append, List.nodup_append]
      refine ⟨h.nd, by simp, fun a ha b' hb' z => ?_⟩
      simp at hb'
      rw [z, hb'] at ha
      exact hk ha
    · rcases List.mem_append.mp hp with hp | hp
      · exact h.at_ p hp
      · rw [List.mem_singleton.mp hp]
        exact ⟨c, g, ga, rfl, hc, hg, rfl, hga⟩
theorem put_in (kvs : List (Key × V)) (k : Key) (v : V) : k ∈ (putK kvs k v).map (·.1) := by
  unfold putK
  split
  · rename_i h
    obtain ⟨p, hp, ep⟩ := List.any_eq_true.mp h
    have ep := of_decide_eq_true ep
    refine List.mem_map.mpr ⟨(p.1, v), List.mem_map.mpr ⟨p, hp, by rw [if_pos ep]⟩, ep⟩
  · simp
theorem sc_Board_note : FnScope ["self", "c", "group"] ["self", "c", "group"] (defScope (inClass (top 22) 7)) := ⟨rfl, rfl, rfl, by decide +kernel, rfl, by decide +kernel, by decide +kernel⟩
theorem m_Board_note_x (BTf : BT K Cb) (m_Board__move : Mt P w K mg base 5 Cb "_move" (spMove cl Cb)) (D : MetIn K Cb "note" "Board.note" (inClass (top 22) 7) ["self", "c", "group"]) : Mt P w K mg base 6 Cb "note" (spNote cl Cb) := by
  refine mt_of D sc_Board_note (fun vs H Q E h => ?_) (fun f cdv A outer s H vs Q E hr h => ?_)
  · obtain ⟨b, ga, gs, B, c, g, rfl, _⟩ := h
    rfl
  obtain ⟨b, ga, gs, B, c, g, rfl, A0, hg, hga, fin⟩ := h
  have hu := hu_of hr
  obtain ⟨dx, hob⟩ := A0.ob
  refine ⟨_, (pss_one (ps_if (pt_cmpR op_gt (pv 1) (pe_fld (pv 0) rfl) (nomark _)) (pss_cons (ps_dput hu (pe_fld (pv 0) rfl) (pv 1) (pv 2) rfl)
        (pss_one (ps_expr (mt_m0 m_Board__move hr (by decide) (pv 0))))) pss_nil)), ?_⟩
  refine ⟨_, rfl, _, rfl, b, _, dx, _, _, rfl, hob, BTf.c, BTf.n, rfl, _, _, rfl, rfl, _, rfl, ite2 (fun z => ?_) (fun z => ?_)⟩
  · have z' : (B.n : Int) < (c : Int) + 1 := of_decide_eq_true z
    obtain ⟨A1, k1⟩ := board_ek A0 (ek_put A0.ek (by omega) hg hga)
    obtain ⟨_, _, _, few, _⟩ := ek_ints A0.ek A0.gk.few
    refine ⟨_, rfl, _, rfl, b, _, dx, _, _, rfl, hob, BTf.c, BTf.e, rfl, _, rfl, B.dE, _, rfl, .inl ⟨_, Sum.inl ((c : Int) + 1), A0.de, rfl, sm1000 (by omega), rfl⟩, ?_⟩
    obtain ⟨dx1, hob1⟩ := A1.ob
    refine ⟨_, rfl, b, dx1, _, rfl, hob1, rfl, b, gs, _, rfl, A1, fun H' B' A' kp sm hn hm => ?_⟩
    refine fin H' B' A' (k1.trans kp) ⟨sm.e, sm.v, sm.m, sm.t⟩ hn fun e => ?_
    subst e
    exact hm (put_in _ _ _)
  · have z' : ¬ (B.n : Int) < (c : Int) + 1 := fun h => z (decide_eq_true h)
    exact fin H B A0 .refl (.refl B) (Nat.le_refl _) fun e => by omega
end
end LH
/-! Views come to the board, leave it, answer. -/
namespace LH
open PySem PySem.Spec L2
open PyProof.Rows (envOfC)
structure ErrOk (K : PySem.W.Frag) (mg : Str → Option Value) (nm : Str) (C : Addr) : Prop where
  x : PySem.W.excIn K C [.type "ValueError", .type "Exception", .type "BaseException", .type "object"] "ValueError.__new__" = true
  g : mg nm = some (.ref C)
  k : PySem.W.keepIn K (.ref C) = true
  b : PySem.W.subIn K (.ref C) (.type "BaseException") = some true
  t : PySem.W.typeIn K (.ref C) = some (.type "type")
section
variable {cl : ClsOf} {Cb : Addr} {gs : List Gr} {H H' : Hp} {b : Addr} {B : BS}
theorem foot_mem {cl : ClsOf} {H : Hp} {q : Qu} {S : VS} {f : Fn} {ks : List Row} (V : VAt cl H q S f ks) {a : Addr} (ha : a ∈ foot q S) : H a ≠ none := by
  obtain ⟨dx, hp⟩ := V.ob.ob
  unfold foot at ha
  split at ha
  · rename_i z
    obtain ⟨ts, its, hl, _⟩ := V.ob.li z
    simp at ha
    rcases ha with h | h | h <;> subst h
    · rw [hp]; intro z; cases z
    · rw [V.dc]; intro z; cases z
    · rw [hl]; intro z; cases z
  · simp at ha
    rcases ha with h | h <;> subst h
    · rw [hp]; intro z; cases z
    · rw [V.dc]; intro z; cases z
/-- a new view comes to the board -/
theorem board_new (A : BoardAt cl Cb gs H b B) {num : Int} {mo : Nat} {q : Qu} {S : VS} {ks : List Row} (kp : Kp [] H H') (V' : VAt cl H' q S (M gs mo) ks) (fr : ∀ a ∈ foot q S, H a = none) (hn : num ∉ B.vs.map (·.num)) (h1 : B.n ≤ mo) (h2 : mo ≤ gs.length) (h63 : B.vs.length < 63) :
    (∃ dx, H' b = some (.ins Cb dx (bflds B))) ∧ H' B.dV = some (.dK (vkv B.vs)) ∧
    (∃ dx, (upd H' B.dV (.dK (putK (vkv B.vs) (Sum.inl num) (.ref S.p)))) b = some (.ins Cb dx (bflds B))) ∧ (upd H' B.dV (.dK (putK (vkv B.vs) (Sum.inl num) (.ref S.p)))) B.dM = some (.dK (mkv B.vs)) ∧
    BoardAt cl Cb gs (upd (upd H' B.dV (.dK (putK (vkv B.vs) (Sum.inl num) (.ref S.p)))) B.dM (.dK (putK (mkv B.vs) (Sum.inl num) (.int mo)))) b { B with vs := B.vs ++ [⟨num, mo, q, S⟩] } ∧
      Kp (bfoot b B) H (upd (upd H' B.dV (.dK (putK (vkv B.vs) (Sum.inl num) (.ref S.p)))) B.dM (.dK (putK (mkv B.vs) (Sum.inl num) (.int mo)))) := by
  have ap := apart A.nf
  have A1 := board_kp A kp (by simp)
  obtain ⟨dx, hob⟩ := A1.ob
  have k2 : Kp [B.dV] H' (upd H' B.dV (.dK (putK (vkv B.vs) (Sum.inl num) (.ref S.p)))) := Kp.refl.mut (by simp) A1.dv (by intro xs z; cases z)
  have hob2 := k2.k _ _ hob (by simpa using ap.bv)
  have hdm2 := k2.k _ _ A1.dm (by simpa using ap.vm.symm)
  have k3 : Kp [B.dM] (upd H' B.dV (.dK (putK (vkv B.vs) (Sum.inl num) (.ref S.p)))) (upd (upd H' B.dV (.dK (putK (vkv B.vs) (Sum.inl num) (.ref S.p)))) B.dM (.dK (putK (mkv B.vs) (Sum.inl num) (.int mo)))) := Kp.refl.mut (by simp) hdm2 (by intro xs z; cases z)
  have k23 : Kp [B.dV, B.dM] H' (upd (upd H' B.dV (.dK (putK (vkv B.vs) (Sum.inl num) (.ref S.p)))) B.dM (.dK (putK (mkv B.vs) (Sum.inl num) (.int mo)))) := (k2.mono fun x hx => by simp at hx; simp [hx]).trans (k3.mono fun x hx => by simp at hx; simp [hx])
  have nfv : ∀ a ∈ foot q S, a ∉ bfoot b B := fun a ha z => board_some A z (fr a ha)
  have kV : Sum.inl num ∉ (vkv B.vs).map (·.1) := by
    rw [vkv_keys]
    intro z
    obtain ⟨i, hi, e⟩ := List.mem_map.mp z
    cases e
    exact hn hi
  have kM : Sum.inl num ∉ (mkv B.vs).map (·.1) := by
    rw [mkv_keys]
    intro z
    obtain ⟨i, hi, e⟩ := List.mem_map.mp z
    cases e
    exact hn hi
  have eV : putK (vkv B.vs) (Sum.inl num) (.ref S.p) = vkv (B.vs ++ [⟨num, mo, q, S⟩]) := by rw [put_new kV]; unfold vkv; rw [List.map_append]; rfl
  have eM : putK (mkv B.vs) (Sum.inl num) (.int mo) = mkv (B.vs ++ [⟨num, mo, q, S⟩]) := by rw [put_new kM]; unfold mkv; rw [List.map_append]; rfl
  refine ⟨⟨dx, hob⟩, A1.dv, ⟨dx, hob2⟩, hdm2, ⟨⟨dx, k3.k _ _ hob2 (by simpa using ap.bm)⟩, ?_, ?_, ?_, A1.ek.kp k23, fun e he => ?_, ?_, ?_, A.le, ?_, A.gk⟩, ?_⟩
  · exact k23.k _ _ A1.de (by simp [ap.ev, ap.em])
  · show _ = some (HO.dK (vkv (B.vs ++ [⟨num, mo, q, S⟩])))
    rw [← eV]
    exact k3.k _ _ upd_same (by simpa using ap.vm)
  · show _ = some (HO.dK (mkv (B.vs ++ [⟨num, mo, q, S⟩])))
    rw [← eM]
    exact upd_same
  · rcases List.mem_append.mp he with he | he
    · obtain ⟨⟨ks', Vw⟩, h3, h4⟩ := A1.vw e he
      exact ⟨⟨ks', vat_kp Vw k23 fun a ha => by
        have := ap.fb a (feet_mem he ha)
        simp [this.2.2.1, this.2.2.2]⟩, h3, h4⟩
    · rw [List.mem_singleton.mp he]
      exact ⟨⟨ks, vat_kp V' k23 fun a ha z => by
        simp at z
        rcases z with z | z
        · exact nfv a ha (by rw [z]; exact mem_v)
        · exact nfv a ha (by rw [z]; exact mem_m)⟩, h1, h2⟩
  · show ((B.vs ++ [(⟨num, mo, q, S⟩ : Ent)]).map (fun e : Ent => e.num)).Nodup
    rw [List.map_append, List.nodup_append]
    exact ⟨A.nd, by simp, fun a ha b' hb' z => by
      simp at hb'
      rw [z, hb'] at ha
      exact hn ha⟩
  · show ([b, B.dE, B.dV, B.dM] ++ feet (B.vs ++ [⟨num, mo, q, S⟩])).Nodup
    rw [feet_app, ← List.append_assoc, List.nodup_append]
    refine ⟨A.nf, ?_, fun a ha b' hb' z => ?_⟩
    · show (foot q S ++ []).Nodup
      rw [List.append_nil]
      exact foot_nd V'
    · have hb' : b' ∈ foot q S ++ [] := hb'
      rw [List.append_nil] at hb'
      exact nfv b' hb' (by rw [← z]; exact ha)
  · show (B.vs ++ [_]).length < 64
    rw [List.length_append]
    show _ + 1 < 64
    omega
  · refine kp.nil.trans (k23.mono fun x hx => ?_)
    simp at hx
    rcases hx with h | h
    · rw [h]; exact mem_v
    · rw [h]; exact mem_m
/-- a view leaves the board -/
theorem board_rem (A : BoardAt cl Cb gs H b B) (num : Int) :
    (∃ dx, (upd H B.dV (.dK (dropK (vkv B.vs) (Sum.inl num)))) b = some (.ins Cb dx (bflds B))) ∧ (upd H B.dV (.dK (dropK (vkv B.vs) (Sum.inl num)))) B.dM = some (.dK (mkv B.vs)) ∧
    BoardAt cl Cb gs (upd (upd H B.dV (.dK (dropK (vkv B.vs) (Sum.inl num)))) B.dM (.dK (dropK (mkv B.vs) (Sum.inl num)))) b { B with vs := B.vs.filter fun e => decide (e.num ≠ num) } ∧
      Kp (bfoot b B) H (upd (upd H B.dV (.dK (dropK (vkv B.vs) (Sum.inl num)))) B.dM (.dK (dropK (mkv B.vs) (Sum.inl num)))) := by
  have ap := apart A.nf
  obtain ⟨dx, hob⟩ := A.ob
  have k2 : Kp [B.dV] H (upd H B.dV (.dK (dropK (vkv B.vs) (Sum.inl num)))) := Kp.refl.mut (by simp) A.dv (by intro xs z; cases z)
  have hob2 := k2.k _ _ hob (by simpa using ap.bv)
  have hdm2 := k2.k _ _ A.dm (by simpa using ap.vm.symm)
  have k3 : Kp [B.dM] (upd H B.dV (.dK (dropK (vkv B.vs) (Sum.inl num)))) (upd (upd H B.dV (.dK (dropK (vkv B.vs) (Sum.inl num)))) B.dM (.dK (dropK (mkv B.vs) (Sum.inl num)))) := Kp.refl.mut (by simp) hdm2 (by intro xs z; cases z)
  have k23 : Kp [B.dV, B.dM] H (upd (upd H B.dV (.dK (dropK (vkv B.vs) (Sum.inl num)))) B.dM (.dK (dropK (mkv B.vs) (Sum.inl num)))) := (k2.mono fun x hx => by simp at hx; simp [hx]).trans (k3.mono fun x hx => by simp at hx; simp [hx])
  refine ⟨⟨dx, hob2⟩, hdm2, ⟨⟨dx, k3.k _ _ hob2 (by simpa using ap.bm)⟩, ?_, ?_, ?_, A.ek.kp k23, fun e he => ?_, A.nd.sublist ((List.filter_sublist).map _), ?_, A.le, Nat.lt_of_le_of_lt (List.length_filter_le _ _) A.few, A.gk⟩, ?_⟩
  · exact k23.k _ _ A.de (by simp [ap.ev, ap.em])
  · show _ = some (HO.dK (vkv (B.vs.filter _)))
    rw [← drop_vkv]
    exact k3.k _ _ upd_same (by simpa using ap.vm)
  · show _ = some (HO.dK (mkv (B.vs.filter _)))
    rw [← drop_mkv]
    exact upd_same
  · have he := (List.mem_filter.mp he).1
    obtain ⟨⟨ks', Vw⟩, h3, h4⟩ := A.vw e he
    exact ⟨⟨ks', vat_kp Vw k23 fun a ha => by
        have := ap.fb a (feet_mem he ha)
        simp [this.2.2.1, this.2.2.2]⟩, h3, h4⟩
  · refine A.nf.sublist (List.Sublist.append (List.Sublist.refl _) ?_)
    show (feet (B.vs.filter _)).Sublist (feet B.vs)
    generalize B.vs = vs
    induction vs with
    | nil => exact .refl _
    | cons x r ih =>
      rw [List.filter_cons]
      split
      · exact List.Sublist.append (.refl _) ih
      · exact ih.trans (List.sublist_append_right _ _)
  · refine k23.mono fun x hx => ?_
    simp at hx
    rcases hx with h | h
    · rw [h]; exact mem_v
    · rw [h]; exact mem_m
end
section
variable {P : Program} {w : World} {K : PySem.W.Frag} {mg : Str → Option Value} {base : Heap} {cl : ClsOf} {Cb CF CN : Addr}
/-! ### remove -/
def spRem (cl : ClsOf) (Cb : Addr) : Sp := fun vs H Q _ => ∃ (b : Addr) (gs : List Gr) (B : BS) (num : Int), vs = [.ref b, .int num] ∧ BoardAt cl Cb gs H b B ∧ num ∈ B.vs.map (·.num) ∧
  ∀ H', BoardAt cl Cb gs H' b { B with vs := B.vs.filter fun e => decide (e.num ≠ num) } → Kp (bfoot b B) H H' → Q .non H'
theorem sc_Board_remove : FnScope ["self", "number"] ["self", "number"] (defScope (inClass (top 22) 6)) := ⟨rfl, rfl, rfl, by decide +kernel, rfl, by decide +kernel, by decide +kernel⟩
theorem m_Board_remove_x (BTf : BT K Cb) (EN : ErrOk K mg "NotFound" CN) (D : MetIn K Cb "remove" "Board.remove" (inClass (top 22) 6) ["self", "number"]) : MtX P w K mg base 1 Cb "remove" (spRem cl Cb) := by
  refine mtx_of D sc_Board_remove (fun vs H Q E h => ?_) (fun f cdv A outer s H vs Q E hr h => ?_)
  · obtain ⟨b, gs, B, num, rfl, _⟩ := h
    rfl
  obtain ⟨b, gs, B, num, rfl, A0, hin, fin⟩ := h
  have hu := hu_of hr
  obtain ⟨dx, hob⟩ := A0.ob
  obtain ⟨e, he, ee⟩ := ent_of hin
  subst ee
  obtain ⟨⟨dx2, hob2⟩, hdm2, A1, k1⟩ := board_rem A0 e.num
  refine ⟨_, (pss_cons (ps_if (pt_cmp (pc_dnotin hu (pv 1) (pe_fld (pv 0) rfl))) (pss_one (ps_raise rfl (takes_of rfl rfl rfl rfl) (pmk_own0 PySem.F.excBase_ValueError EN.x EN.g EN.k (raises_own EN.b EN.t) (by rfl)))) pss_nil)
      (pss_cons (ps_expr (pe_dpop1 (pe_fld (pv 0) rfl) (pv 1) ⟨rfl, rfl, rfl, rfl⟩))
      (pss_one (ps_expr (pe_dpop1 (pe_fld (pv 0) rfl) (pv 1) ⟨rfl, rfl, rfl, rfl⟩))))), ?_⟩
  refine ⟨_, rfl, _, rfl, b, _, dx, _, _, rfl, hob, BTf.c, BTf.v, rfl, B.dV, _, rfl, DGet.k (k := Sum.inl e.num) A0.dv, _, rfl, ?_⟩
  rw [vkv_get A0.nd he]
  refine iteF ?_
  refine ⟨_, rfl, b, _, dx, _, _, rfl, hob, BTf.c, BTf.v, rfl, B.dV, rfl, .inl ⟨_, .inl A0.dv⟩, _, rfl, vkv B.vs, Sum.inl e.num, _, A0.dv, rfl, vkv_get A0.nd he, ?_⟩
  refine ⟨_, rfl, b, _, dx2, _, _, rfl, hob2, BTf.c, BTf.m, rfl, B.dM, rfl, .inl ⟨_, .inl hdm2⟩, _, rfl, mkv B.vs, Sum.inl e.num, _, hdm2, rfl, mkv_get A0.nd he, ?_⟩
  exact fin _ A1 k1
/-! ### answer -/
def spAnsB (cl : ClsOf) (Cb CN : Addr) : Sp := fun vs H Q E => ∃ (b : Addr) (gs : List Gr) (B : BS) (num : Int), vs = [.ref b, .int num] ∧ BoardAt cl Cb gs H b B ∧
  ((∃ e ∈ B.vs, e.num = num ∧ ∀ (t : Addr) (x : V) (a : Ans) H', Kp [] H H' → H' t = some (.tup [x, .int e.mom]) → AnsAt H' x a → IsAns (M gs e.mom) e.q a → Q (.ref t) H') ∨ (num ∉ B.vs.map (·.num) ∧ E (.ref CN) none H))
theorem sc_Board_answer : FnScope ["self", "number"] ["self", "number"] (defScope (inClass (top 22) 8)) := ⟨rfl, rfl, rfl, by decide +kernel, rfl, by decide +kernel, by decide +kernel⟩
theorem m_Board_answer_x (BTf : BT K Cb) (m_view_answer : ∀ kd, Mt P w K mg base 1 (cl kd) "answer" (spAns cl kd)) (EN : ErrOk K mg "NotFound" CN) (D : MetIn K Cb "answer" "Board.answer" (inClass (top 22) 8) ["self", "number"]) : MtX P w K mg base 2 Cb "answer" (spAnsB cl Cb CN) := by
  refine mtx_of D sc_Board_answer (fun vs H Q E h => ?_) (fun f cdv A outer s H vs Q E hr h => ?_)
  · obtain ⟨b, gs, B, num, rfl, _⟩ := h
    rfl
  obtain ⟨b, gs, B, num, rfl, A0, h⟩ := h
  have hu := hu_of hr
  obtain ⟨dx, hob⟩ := A0.ob
  refine ⟨_, (pss_cons (ps_if (pt_cmp (pc_dnotin hu (pv 1) (pe_fld (pv 0) rfl))) (pss_one (ps_raise rfl (takes_of rfl rfl rfl rfl) (pmk_own0 PySem.F.excBase_ValueError EN.x EN.g EN.k (raises_own EN.b EN.t) (by rfl)))) pss_nil)
      (pss_one (ps_ret (pe_tup (pa_cons (mt_f0 m_view_answer hr (by decide) (pe_dget hu (pe_fld (pv 0) rfl) (pv 1) (fun _ _ => rfl))) (pa_cons (pe_dget hu (pe_fld (pv 0) rfl) (pv 1) (fun _ _ => rfl)) pa_nil)))))), ?_⟩
  refine ⟨_, rfl, _, rfl, b, _, dx, _, _, rfl, hob, BTf.c, BTf.v, rfl, B.dV, _, rfl, DGet.k (k := Sum.inl num) A0.dv, _, rfl, ?_⟩
  rcases h with ⟨e, he, ee, fin⟩ | ⟨hn, hE⟩
  · subst ee
    rw [vkv_get A0.nd he]
    refine iteF ?_
    obtain ⟨⟨ks, Vw⟩, _, _⟩ := A0.vw e he
    obtain ⟨dxv, hvo⟩ := Vw.ob.ob
    have gv : DGet H B.dV (.int e.num) (some (.ref e.S.p)) := by rw [← vkv_get A0.nd he]; exact DGet.k (k := Sum.inl e.num) A0.dv
    refine ⟨_, rfl, b, _, dx, _, _, rfl, hob, BTf.c, BTf.v, rfl, _, rfl, B.dV, .ref e.S.p, rfl, gv, e.S.p, e.q.kd, dxv, _, rfl, hvo, fl_answer e.q e.S ks, ?_⟩
    refine ⟨e.q, e.S, _, ks, rfl, rfl, Vw, fun x H' a kp ha hia => ?_⟩
    have A1 := board_kp A0 kp (by simp)
    obtain ⟨dx1, hob1⟩ := A1.ob
    have gm : DGet H' B.dM (.int e.num) (some (.int e.mom)) := by rw [← mkv_get A1.nd he]; exact DGet.k (k := Sum.inl e.num) A1.dm
    refine ⟨_, rfl, b, _, dx1, _, _, rfl, hob1, BTf.c, BTf.m, rfl, _, rfl, B.dM, .int e.mom, rfl, gm, (by show 2 ≤ sizeLine; decide), fun t ht => ?_⟩
    exact fin t x a _ (kp.new ht) upd_same (ha.kp (Kp.refl.new (F := []) ht)) hia
  · rw [vkv_none hn]
    exact iteT hE
/-! ### add -/
def spAddB (cl : ClsOf) (Cb CF : Addr) : Sp := fun vs H Q E => ∃ (b : Addr) (gs : List Gr) (B : BS) (num : Int) (x y z : V), vs = [.ref b, .int num, x, y, z] ∧ BoardAt cl Cb gs H b B ∧
  ((num ∈ B.vs.map (·.num) ∧ E (.ref CF) none H) ∨ ∃ (q : Qu) (qa rd : Addr) (kvs : List (Key × V)) (mo : Nat), x = .ref qa ∧ y = .ref rd ∧ z = .int mo ∧ num ∉ B.vs.map (·.num) ∧ H qa = some (.tup q.vals) ∧ H rd = some (.dK kvs) ∧ rd ∉ bfoot b B ∧ RepI kvs (M gs mo) ∧ mo ≤ gs.length ∧ B.vs.length < 63 ∧
    (mo < B.n → Q (.bl false) H) ∧ (B.n ≤ mo → ∀ H' B', BoardAt cl Cb gs H' b B' → Kp (bfoot b B) H H' → (∀ a ∈ bfoot b B', a ∈ bfoot b B ∨ H a = none) → ((B'.vs.map fun e => (e.num, e.q)) = (B.vs.map fun e => (e.num, e.q)) ++ [(num, q)]) → B.n ≤ B'.n → Q (.bl true) H'))
theorem sc_Board_add : FnScope ["self", "number", "question", "records", "moment"] ["self", "number", "question", "records", "moment"] (defScope (inClass (top 22) 5)) := ⟨rfl, rfl, rfl, by decide +kernel, rfl, by decide +kernel, by decide +kernel⟩
theorem m_Board_add_x (T : Bl mg) (BTf : BT K Cb) (c_make_view : Cl P w K mg base 7 "make_view" (spMake cl)) (m_Board__forget_early : Mt P w K mg base 1 Cb "_forget_early" (spForget Cb)) (m_Board__move : Mt P w K mg base 5 Cb "_move" (spMove cl Cb)) (EF : ErrOk K mg "Full" CF)
    (D : MetIn K Cb "add" "Board.add" (inClass (top 22) 5) ["self", "number", "question", "records", "moment"]) : MtX P w K mg base 8 Cb "add" (spAddB cl Cb CF) := by
  refine mtx_of D sc_Board_add (fun vs H Q E h => ?_) (fun f cdv A outer s H vs Q E hr h => ?_)
  · obtain ⟨b, gs, B, num, x, y, z, rfl, _⟩ := h
    rfl
  obtain ⟨b, gs, B, num, x, y, z, rfl, A0, h⟩ := h
  have hu := hu_of hr
  obtain ⟨dx, hob⟩ := A0.ob
  refine ⟨_, (pss_cons (ps_if (pt_cmp (pc_din hu (pv 1) (pe_fld (pv 0) rfl))) (pss_one (ps_raise rfl (takes_of rfl rfl rfl rfl) (pmk_own0 PySem.F.excBase_ValueError EF.x EF.g EF.k (raises_own EF.b EF.t) (by rfl)))) pss_nil)
      (Evl.pss_cut (ps_if (PW.pt (pw_and (pt_cmpR op_eq (pe_callB call_lenD (by rfl) T.len (by decide +kernel) (pa_cons (pe_fld (pv 0) rfl) pa_nil)) pe_int (nomark _)) (pw_and1 (pt_cmpR op_gt (pv 4) (pe_fld (pv 0) rfl) (nomark _))))) (pss_cons (ps_fld (pv 0) (pv 4) rfl)
        (pss_one (ps_expr (mt_m0 m_Board__forget_early hr (by decide) (pv 0))))) pss_nil)
      (pss_cons (ps_if (pt_cmpR op_lt (pv 4) (pe_fld (pv 0) rfl) (nomark _)) (pss_one (ps_ret pe_bl)) pss_nil)
      (pss_cons (ps_dput hu (pe_fld (pv 0) rfl) (pv 1) (cl_c c_make_view hr (by decide) (by rfl) (pa_cons (pv 2) (pa_cons (pv 3) pa_nil))) rfl)
      (pss_cons (ps_dput hu (pe_fld (pv 0) rfl) (pv 1) (pv 4) rfl)
      (pss_cons (ps_expr (mt_m0 m_Board__move hr (by decide) (pv 0)))
      (pss_one (ps_ret pe_bl)))))))), ?_⟩
  refine ⟨_, rfl, _, rfl, b, _, dx, _, _, rfl, hob, BTf.c, BTf.v, rfl, B.dV, _, rfl, DGet.k (k := Sum.inl num) A0.dv, _, rfl, ?_⟩
  rcases h with ⟨hin, hE⟩ | ⟨q, qa, rd, kvs, mo, rfl, rfl, rfl, hnin, hqa, hrd, nrd, R, hmo, h63, finF, finT⟩
  · obtain ⟨e, he, ee⟩ := ent_of hin
    subst ee
    rw [vkv_get A0.nd he]
    exact iteT hE
  rw [vkv_none hnin]
  refine iteF ?_
  refine ⟨fun σ' H' => σ' = [some (.ref b), some (.int num), some (.ref qa), some (.ref rd), some (.int mo)] ∧ ∃ n' ek', BoardAt cl Cb gs H' b { B with n := n', ek := ek' } ∧ Kp (bfoot b B) H H' ∧ (mo < B.n → n' = B.n ∧ H' = H) ∧ (B.n ≤ mo → n' ≤ mo) ∧ B.n ≤ n', ?_, fun σ' H' h => ?_⟩
  · refine ⟨_, rfl, b, _, dx, _, _, rfl, hob, BTf.c, BTf.v, rfl, B.dV, _, rfl, A0.dv, rfl, _, rfl, ite2 (fun c => ?_) (fun c => ?_)⟩
    · refine ⟨_, rfl, _, rfl, b, _, dx, _, _, rfl, hob, BTf.c, BTf.n, rfl, _, _, rfl, rfl, _, rfl, ite2 (fun c2 => ?_) (fun c2 => ?_)⟩
      · have c2 : (B.n : Int) < (mo : Int) := of_decide_eq_true c2
        have c1 : V.int ((vkv B.vs).length : Int) = V.int 0 := of_decide_eq_true c
        have nov : B.vs = [] := by
          have := L2.V.int.inj c1
          unfold vkv at this
          rw [List.length_map] at this
          exact List.length_eq_zero_iff.mp (by omega)
        have ap := apart A0.nf
        obtain ⟨l, el, ndl, _, fewl⟩ := ek_ints A0.ek A0.gk.few
        refine ⟨_, rfl, _, rfl, b, _, dx, _, rfl, hob, BTf.c, BTf.n, (by show 4 < 1000; decide), ?_⟩
        have k1 : Kp [b] H (upd H b (.ins Cb dx (bflds { B with n := mo }))) := Kp.refl.mut (by simp) hob (by intro xs z; cases z)
        refine ⟨_, rfl, b, dx, _, rfl, upd_same, rfl, b, dx, { B with n := mo }, l, rfl, upd_same, k1.k _ _ A0.de (by simpa using ap.be.symm), el, ndl, by omega, fun ek' H' sub lo kp hE' => ⟨rfl, mo, ek', ?_, ?_, fun z => by omega, fun _ => Nat.le_refl _, by omega⟩⟩
        · have k12 : Kp [b, B.dE] H H' := (k1.mono fun x hx => by simp at hx; simp [hx]).trans (kp.mono fun x hx => by simp at hx; simp [hx])
          refine ⟨⟨dx, kp.k _ _ upd_same (by simpa using ap.be)⟩, hE', k12.k _ _ A0.dv (by simp [ap.bv.symm, ap.ev.symm]), k12.k _ _ A0.dm (by simp [ap.bm.symm, ap.em.symm]), ⟨A0.ek.nd.sublist (sub.map _), fun p hp => ?_⟩, fun e he => ?_, A0.nd, A0.nf, hmo, A0.few, A0.gk⟩
          · obtain ⟨c0, g, ga, a1, a2, a3, a4, a5⟩ := A0.ek.at_ p (sub.subset hp)
            have := lo p hp _ a1
            have this : (mo : Int) < (c0 : Int) + 1 := this
            exact ⟨c0, g, ga, a1, by show mo ≤ c0; omega, a3, a4, a5.kp k12⟩
          · have he : e ∈ B.vs := he
            rw [nov] at he
            cases he
        · refine (k1.mono fun x hx => ?_).trans (kp.mono fun x hx => ?_)
          · rw [List.mem_singleton.mp hx]; exact mem_b
          · rw [List.mem_singleton.mp hx]; exact mem_e
      · have c2 : ¬ (B.n : Int) < (mo : Int) := fun h => c2 (decide_eq_true h)
        exact ⟨rfl, B.n, B.ek, A0, .refl, fun _ => ⟨rfl, rfl⟩, fun h => h, Nat.le_refl _⟩
    · exact ⟨rfl, B.n, B.ek, A0, .refl, fun _ => ⟨rfl, rfl⟩, fun h => h, Nat.le_refl _⟩
  · obtain ⟨rfl, n', ek', A1, k1, w1, w2, w3⟩ := h
    obtain ⟨dx1, hob1⟩ := A1.ob
    refine ⟨_, rfl, _, rfl, b, _, dx1, _, _, rfl, hob1, BTf.c, BTf.n, rfl, _, _, rfl, rfl, _, rfl, ite2 (fun c => ?_) (fun c => ?_)⟩
    · have c : (mo : Int) < (n' : Int) := of_decide_eq_true c
      have hlt : mo < B.n := by
        by_cases z : B.n ≤ mo
        · have := w2 z; omega
        · omega
      obtain ⟨_, eH⟩ := w1 hlt
      rw [eH]
      exact finF hlt
    · have c : ¬ (mo : Int) < (n' : Int) := fun h => c (decide_eq_true h)
      have hle : B.n ≤ mo := by omega
      refine ⟨_, rfl, _, rfl, q, qa, rd, kvs, _, rfl, k1.t _ _ hqa, k1.k _ _ hrd nrd, R, fun S ks H2 kp2 V2 fr => ?_⟩
      obtain ⟨⟨dx2, hob2⟩, hdv2, ⟨dx3, hob3⟩, hdm3, A4, k4⟩ := board_new A1 kp2 V2 fr hnin (show n' ≤ mo by omega) hmo h63
      have lv : B.vs.length < 64 := A0.few
      refine ⟨_, rfl, b, _, dx2, _, _, rfl, hob2, BTf.c, BTf.v, rfl, _, rfl, B.dV, _, rfl, .inl ⟨_, Sum.inl num, hdv2, rfl, sm1000 (by unfold vkv; rw [List.length_map]; show B.vs.length < 1000; omega), rfl⟩, ?_⟩
      refine ⟨_, rfl, _, rfl, b, _, dx3, _, _, rfl, hob3, BTf.c, BTf.m, rfl, _, rfl, B.dM, _, rfl, .inl ⟨_, Sum.inl num, hdm3, rfl, sm1000 (by unfold mkv; rw [List.length_map]; show B.vs.length < 1000; omega), rfl⟩, ?_⟩
      obtain ⟨dx4, hob4⟩ := A4.ob
      refine ⟨_, rfl, b, dx4, _, rfl, hob4, rfl, b, gs, _, rfl, A4, fun H5 B5 A5 k5 sm hn5 _ => ?_⟩
      have ft : bfoot b { B with n := n', ek := ek', vs := B.vs ++ [⟨num, mo, q, S⟩] } = bfoot b B ++ foot q S := by
        show [b, B.dE, B.dV, B.dM] ++ feet (B.vs ++ [⟨num, mo, q, S⟩]) = ([b, B.dE, B.dV, B.dM] ++ feet B.vs) ++ foot q S
        rw [feet_app, List.append_assoc]
        show _ ++ (_ ++ (foot q S ++ [])) = _
        rw [List.append_nil]
      have h0 : ∀ a ∈ foot q S, H a = none := fun a ha => k1.d _ (fr a ha)
      refine finT hle H5 B5 A5 ?_ (fun a ha => ?_) ?_ (Nat.le_trans w3 hn5)
      · refine Kp.fresh (k1.trans k4) k5 fun x hx => ?_
        rw [ft] at hx
        rcases List.mem_append.mp hx with h | h
        · exact .inl h
        · exact .inr (h0 x h)
      · rw [sm.foot, ft] at ha
        rcases List.mem_append.mp ha with h | h
        · exact .inl h
        · exact .inr (h0 a h)
      · rw [sm.qs]
        show (B.vs ++ [_]).map _ = _
        rw [List.map_append]
        rfl
end
end LH
/-! The law's draws, keys, covers, questions. -/
namespace LH
open PySem PySem.Spec L2
open PyProof.Rows (envOfC)
/-- where the draws stand -/
def StAt (H : Hp) (st scr : Addr) : Prop := ∃ (cur seed : Int) (idx : Nat) (ns : List Int), H st = some (.lst [.int cur, .ref scr, .int idx, .int seed]) ∧ H scr = some (.lst (ns.map V.int)) ∧ ns.length ≤ 63
theorem StAt.kp {F : List Addr} {H H' : Hp} {st scr : Addr} (k : Kp F H H') (h1 : st ∉ F) (h2 : scr ∉ F) (h : StAt H st scr) : StAt H' st scr := by
  obtain ⟨cur, seed, idx, ns, a, b, c⟩ := h
  exact ⟨cur, seed, idx, ns, k.k _ _ a h1, k.k _ _ b h2, c⟩
theorem StAt.new {H H' : Hp} {st scr : Addr} (k : Kp [] H H') (h : StAt H st scr) : StAt H' st scr := h.kp k (by simp) (by simp)
theorem StAt.some {H : Hp} {st scr : Addr} (h : StAt H st scr) : H st ≠ none := by
  obtain ⟨_, _, _, _, a, _⟩ := h
  rw [a]
  intro z
  cases z
section
variable {P : Program} {w : World} {K : PySem.W.Frag} {mg : Str → Option Value} {base : Heap}
theorem pos_a : (0 : Int) < 2147483647 := by decide
theorem pos_b : (0 : Int) < 2147483629 := by decide
theorem mul_a {i : Int} : CMul i 48271 := .inr ⟨by decide, by decide⟩
theorem mul_b {i : Int} : CMul i 69621 := .inr ⟨by decide, by decide⟩
theorem mul_d {i : Int} : CMul i 2147483629 := .inr ⟨by decide, by decide⟩
def spMix : Sp := fun vs H Q _ => ∃ i : Int, vs = [.int i] ∧ ∀ j : Int, Q (.int j) H
theorem sc__law_mix : FnScope ["_law_cell", "_law_number_here"] ["_law_cell"] (defScope (top 24)) := ⟨rfl, rfl, rfl, by decide +kernel, rfl, by decide +kernel, by decide +kernel⟩
theorem c__law_mix_x (T : Bl mg) (D : DefIn K mg "_law_mix" (top 24) ["_law_cell"]) : Cl P w K mg base 1 "_law_mix" spMix := by
  refine cl_of D sc__law_mix (fun vs H Q E h => ?_) (fun f cdv A outer s H vs Q E hr h => ?_)
  · obtain ⟨i, rfl, _⟩ := h
    rfl
  obtain ⟨i, rfl, fin⟩ := h
  refine ⟨_, (pss_cons (ps_set (i := 1) sc__law_mix.nd rfl (Or.inl rfl) (pe_op op_mod (pe_callTy call_int1 (by rfl) T.int (by decide +kernel) (pa_cons (pv 0) pa_nil)) pe_int))
      (pss_cons (ps_set (i := 1) sc__law_mix.nd rfl (Or.inl rfl) (pe_op op_mod (pe_callTy call_int1 (by rfl) T.int (by decide +kernel) (pa_cons (pe_op op_add (pe_op op_mul (pv 1) pe_int) pe_int) pa_nil)) pe_int))
      (pss_one (ps_ret (pe_op op_mod (pe_callTy call_int1 (by rfl) T.int (by decide +kernel) (pa_cons (pe_op op_add (pe_op op_mul (pv 1) pe_int) pe_int) pa_nil)) pe_int))))), ?_⟩
  refine ⟨_, rfl, .inl ⟨_, rfl, _, _, rfl, rfl, pos_a, ?_⟩⟩
  refine ⟨_, rfl, _, _, rfl, rfl, mul_a, _, _, rfl, rfl, .inl ⟨_, rfl, _, _, rfl, rfl, pos_a, ?_⟩⟩
  refine ⟨_, rfl, _, _, rfl, rfl, mul_b, _, _, rfl, rfl, .inl ⟨_, rfl, _, _, rfl, rfl, pos_b, ?_⟩⟩
  exact fin _
theorem sc__law_number : FnScope ["_law_cell", "_law_first"] ["_law_cell"] (defScope (top 25)) := ⟨rfl, rfl, rfl, by decide +kernel, rfl, by decide +kernel, by decide +kernel⟩
theorem c__law_number_x (c__law_mix : Cl P w K mg base 1 "_law_mix" spMix) (D : DefIn K mg "_law_number" (top 25) ["_law_cell"]) : Cl P w K mg base 2 "_law_number" spMix := by
  refine cl_of D sc__law_number (fun vs H Q E h => ?_) (fun f cdv A outer s H vs Q E hr h => ?_)
  · obtain ⟨i, rfl, _⟩ := h
    rfl
  obtain ⟨i, rfl, fin⟩ := h
  refine ⟨_, (pss_cons (ps_if (pt_cmpR op_ge (pv 0) (pe_op op_pow pe_int pe_int) (nomark _)) (pss_one (ps_ret (pv 0))) pss_nil)
      (pss_cons (ps_set (i := 1) sc__law_number.nd rfl (Or.inl rfl) (cl_c c__law_mix hr (by decide) (by rfl) (pa_cons (pv 0) pa_nil)))
      (pss_one (ps_ret (pe_op op_add (pe_op op_mul (pv 1) pe_int) (cl_c c__law_mix hr (by decide) (by rfl) (pa_cons (pe_op op_add (pv 1) (pv 0)) pa_nil))))))), ?_⟩
  refine ⟨_, rfl, _, _, rfl, rfl, ⟨by decide, by decide, by decide⟩, _, _, rfl, rfl, _, rfl, ite2 (fun c => ?_) (fun c => ?_)⟩
  · exact ⟨_, rfl, fin _⟩
  · refine ⟨_, rfl, _, rfl, fun j => ?_⟩
    refine ⟨_, rfl, _, _, rfl, rfl, mul_d, _, rfl, _, rfl, _, _, rfl, rfl, _, rfl, fun j2 => ?_⟩
    exact ⟨_, _, rfl, rfl, fin _⟩
def spState (K : PySem.W.Frag) : Sp := fun vs H Q _ => ∃ (a : Addr) (ns : List Int), vs = [.ref a] ∧ SqL K H a (ns.map V.int) ∧ ns.length ≤ 63 ∧ ∀ st scr H', Kp [] H H' → StAt H' st scr → st ≠ scr → H st = none → H scr = none → Q (.ref st) H'
theorem sc__law_state : FnScope ["_law_script"] ["_law_script"] (defScope (top 26)) := ⟨rfl, rfl, rfl, by decide +kernel, rfl, by decide +kernel, by decide +kernel⟩
theorem c__law_state_x (T : Bl mg) (D : DefIn K mg "_law_state" (top 26) ["_law_script"]) : Cl P w K mg base 1 "_law_state" (spState K) := by
  refine cl_of D sc__law_state (fun vs H Q E h => ?_) (fun f cdv A outer s H vs Q E hr h => ?_)
  · obtain ⟨a, ns, rfl, _⟩ := h
    rfl
  obtain ⟨a, ns, rfl, ha, hn, fin⟩ := h
  refine ⟨_, (pss_one (ps_ret (pe_lst (pa_cons pe_int (pa_cons (pe_callTy call_list_of (by rfl) T.list (by decide +kernel) (pa_cons (pv 0) pa_nil)) (pa_cons pe_int (pa_cons (pe_op op_add pe_int (pe_callB call_len_seq (by rfl) T.len (by decide +kernel) (pa_cons (pv 0) pa_nil))) pa_nil))))))), ?_⟩
  refine ⟨_, rfl, a, _, rfl, .inl ha, fun scr hs => ?_⟩
  have k1 : Kp [] H (upd H scr (.lst (ns.map V.int))) := Kp.refl.new hs
  refine ⟨_, rfl, a, _, rfl, .inl (k1.seq (by simp) ha), _, _, rfl, rfl, (by show 4 ≤ sizeLine; decide), fun st h0 => ?_⟩
  have ne : scr ≠ st := ne_of_none upd_same h0
  refine fin st scr _ (k1.new h0) ⟨0, _, 0, ns, upd_same, by rw [upd_ne ne]; exact upd_same, hn⟩ ne.symm (k1.d _ h0) hs
/-! ### draw -/
def spDraw : Sp := fun vs H Q _ => ∃ (st scr : Addr) (many : Nat), vs = [.ref st, .int many] ∧ StAt H st scr ∧ 0 < many ∧ many < 1000000 ∧ ∀ (v : Nat) H', v < many → Kp [st] H H' → StAt H' st scr → Q (.int v) H'
theorem mod_nat (i : Int) {m : Nat} (h : 0 < m) : ∃ v : Nat, v < m ∧ i % (m : Int) = (v : Int) := by
  have h1 := Int.emod_nonneg i (show (m : Int) ≠ 0 by omega)
  have h2 := Int.emod_lt_of_pos i (show (0 : Int) < m by omega)
  exact ⟨(i % (m : Int)).toNat, by omega, by omega⟩
theorem sc__law_draw : FnScope ["_law_state_here", "_law_many", "_law_value"] ["_law_state_here", "_law_many"] (defScope (top 27)) := ⟨rfl, rfl, rfl, by decide +kernel, rfl, by decide +kernel, by decide +kernel⟩
theorem c__law_draw_x (T : Bl mg) (c__law_number : Cl P w K mg base 2 "_law_number" spMix) (D : DefIn K mg "_law_draw" (top 27) ["_law_state_here", "_law_many"]) : Cl P w K mg base 3 "_law_draw" spDraw := by
  refine cl_of D sc__law_draw (fun vs H Q E h => ?_) (fun f cdv A outer s H vs Q E hr h => ?_)
  · obtain ⟨st, scr, m, rfl, _⟩ := h
    rfl
  obtain ⟨st, scr, m, rfl, hst, m0, m1, fin⟩ := h
  refine ⟨_, (Evl.pss_cut (ps_if (PW.pt (pw_and (pt_cmpR op_lt (pe_ix ix_list (pv 0) pe_int (fun _ _ => rfl)) (pv 1) (nomark _)) (pw_and1 (pt_cmpR op_lt (pe_ix ix_list (pv 0) pe_int (fun _ _ => rfl)) (pe_callB call_len_seq (by rfl) T.len (by decide +kernel) (pa_cons (pe_ix ix_list (pv 0) pe_int (fun _ _ => rfl)) pa_nil)) (nomark _))))) (pss_cons (ps_asg (cl_c c__law_number hr (by decide) (by rfl) (pa_cons (pe_ix ix_list (pe_ix ix_list (pv 0) pe_int (fun _ _ => rfl)) (pe_ix ix_list (pv 0) pe_int (fun _ _ => rfl)) (fun _ _ => rfl)) pa_nil)) (pg_sub (pv 0) pe_int set_list))
        (pss_one (ps_asg (pe_op op_add (pe_ix ix_list (pv 0) pe_int (fun _ _ => rfl)) pe_int) (pg_sub (pv 0) pe_int set_list)))) pss_nil)
      (pss_cons (ps_if (pt_cmpR op_eq (pe_ix ix_list (pv 0) pe_int (fun _ _ => rfl)) pe_int (nomark _)) (pss_cons (ps_asg (pe_op op_mod (pe_callTy call_int1 (by rfl) T.int (by decide +kernel) (pa_cons (pe_op op_add (pe_op op_mul (pe_ix ix_list (pv 0) pe_int (fun _ _ => rfl)) pe_int) pe_int) pa_nil)) pe_int) (pg_sub (pv 0) pe_int set_list))
        (pss_one (ps_ret (pe_op op_mod (pe_callTy call_int1 (by rfl) T.int (by decide +kernel) (pa_cons (pe_op op_fdiv (pe_ix ix_list (pv 0) pe_int (fun _ _ => rfl)) pe_int) pa_nil)) (pv 1))))) pss_nil)
      (pss_cons (ps_set (i := 2) sc__law_draw.nd rfl (Or.inl rfl) (pe_op op_mod (pe_callTy call_int1 (by rfl) T.int (by decide +kernel) (pa_cons (pe_ix ix_list (pv 0) pe_int (fun _ _ => rfl)) pa_nil)) (pv 1)))
      (pss_cons (ps_asg (pe_op op_fdiv (pe_ix ix_list (pv 0) pe_int (fun _ _ => rfl)) (pv 1)) (pg_sub (pv 0) pe_int set_list))
      (pss_one (ps_ret (pv 2))))))), ?_⟩
  refine ⟨fun σ' H' => σ' = [some (.ref st), some (.int m), none] ∧ Kp [st] H H' ∧ StAt H' st scr, ?_, fun σ' H' h => ?_⟩
  · obtain ⟨cur, seed, idx, ns, h1, h2, h3⟩ := id hst
    refine ⟨_, rfl, st, _, 0, .int cur, rfl, rfl, SqL.of h1, rfl, _, rfl, _, _, rfl, rfl, _, rfl, ite2 (fun c => ?_) (fun c => ?_)⟩
    · refine ⟨_, rfl, st, _, 2, .int idx, rfl, rfl, SqL.of h1, rfl, _, rfl, st, _, 1, .ref scr, rfl, rfl, SqL.of h1, rfl, scr, _, rfl, .inl (SqL.of h2), _, _, rfl, rfl, _, rfl, ite2 (fun c2 => ?_) (fun c2 => ?_)⟩
      · have c2 : (idx : Int) < ((ns.map V.int).length : Int) := of_decide_eq_true c2
        rw [List.length_map] at c2
        have hi : idx < ns.length := by omega
        have nss : st ≠ scr := by
          intro z
          rw [z, h2] at h1
          have h1 := HO.lst.inj (Option.some.inj h1)
          have := congrArg List.length h1
          cases ns with
          | nil => cases h1
          | cons x r => cases r with
            | nil => cases h1
            | cons y r => cases h1
        refine ⟨_, rfl, st, _, 1, .ref scr, rfl, rfl, SqL.of h1, rfl, _, rfl, st, _, 2, .int idx, rfl, rfl, SqL.of h1, rfl, scr, _, (idx : Int), .int ns[idx], rfl, rfl, SqL.of h2, at_of rfl (by rw [List.getElem?_map, List.getElem?_eq_getElem hi]; rfl), _, rfl, fun j => ?_⟩
        refine ⟨_, rfl, st, _, 0, 0, rfl, rfl, h1, rfl, ?_⟩
        refine ⟨_, rfl, st, _, 2, .int idx, rfl, rfl, SqL.of upd_same, rfl, _, _, rfl, rfl, _, rfl, st, _, 2, 2, rfl, rfl, upd_same, rfl, ?_⟩
        refine ⟨rfl, (Kp.refl.mut (by simp) h1 (by intro xs z; cases z)).mut (by simp) upd_same (by intro xs z; cases z), j, seed, idx + 1, ns, upd_same, by rw [upd_ne nss.symm, upd_ne nss.symm]; exact h2, h3⟩
      · exact ⟨rfl, .refl, hst⟩
    · exact ⟨rfl, .refl, hst⟩
  · obtain ⟨rfl, k1, hst1⟩ := h
    obtain ⟨cur, seed, idx, ns, h1, h2, h3⟩ := id hst1
    have up : ∀ a b c : Int, ∀ H2, Kp [st] H' H2 → H2 st = some (.lst [.int a, .ref scr, .int idx, .int b]) → scr ≠ st → StAt H2 st scr := fun a b c H2 kp e ne => ⟨a, b, idx, ns, e, kp.k _ _ h2 (by simpa using ne), h3⟩
    have nss : scr ≠ st := by
      intro z
      rw [← z, h2] at h1
      have h1 := HO.lst.inj (Option.some.inj h1)
      cases ns with
      | nil => cases h1
      | cons x r => cases r with
        | nil => cases h1
        | cons y r => cases h1
    refine ⟨_, rfl, st, _, 0, .int cur, rfl, rfl, SqL.of h1, rfl, rfl, _, rfl, ite2 (fun c => ?_) (fun c => ?_)⟩
    · refine ⟨_, rfl, st, _, 3, .int seed, rfl, rfl, SqL.of h1, rfl, _, _, rfl, rfl, mul_a, _, _, rfl, rfl, .inl ⟨_, rfl, _, _, rfl, rfl, pos_a, ?_⟩⟩
      refine ⟨_, rfl, st, _, 3, 3, rfl, rfl, h1, rfl, ?_⟩
      refine ⟨_, rfl, st, _, 3, _, rfl, rfl, SqL.of upd_same, rfl, _, _, rfl, rfl, ⟨by decide, by decide⟩, .inl ⟨_, rfl, _, rfl, _, _, rfl, rfl, by omega, ?_⟩⟩
      obtain ⟨v, hv, ev⟩ := mod_nat ((seed * 48271 + 7) % 2147483647 / 11) m0
      show Q (.int ((seed * 48271 + 7) % 2147483647 / 11 % (m : Int))) _
      rw [ev]
      have k2 : Kp [st] H' (upd H' st (.lst [.int cur, .ref scr, .int idx, .int ((seed * 48271 + 7) % 2147483647)])) := Kp.refl.mut (by simp) h1 (by intro xs z; cases z)
      exact fin v _ hv (k1.trans k2) (up cur _ 0 _ k2 upd_same nss)
    · refine ⟨_, rfl, st, _, 0, .int cur, rfl, rfl, SqL.of h1, rfl, .inl ⟨_, rfl, _, rfl, _, _, rfl, rfl, by omega, ?_⟩⟩
      refine ⟨_, rfl, st, _, 0, .int cur, rfl, rfl, SqL.of h1, rfl, _, rfl, _, _, rfl, rfl, ⟨by omega, by omega⟩, _, rfl, st, _, 0, 0, rfl, rfl, h1, rfl, ?_⟩
      refine ⟨_, rfl, ?_⟩
      obtain ⟨v, hv, ev⟩ := mod_nat cur m0
      show Q (.int (cur % (m : Int))) _
      rw [ev]
      have k2 : Kp [st] H' (upd H' st (.lst [.int (cur / (m : Int)), .ref scr, .int idx, .int seed])) := Kp.refl.mut (by simp) h1 (by intro xs z; cases z)
      exact fin v _ hv (k1.trans k2) (up _ seed 0 _ k2 upd_same nss)
/-! ### keys, covers, questions -/
def spKey : Sp := fun vs H Q _ => ∃ (st scr : Addr), vs = [.ref st] ∧ StAt H st scr ∧ ∀ k H', KOk k → Kp [st] H H' → StAt H' st scr → Q (.str k) H'
theorem key_c : ∀ v : Nat, v < 4 → ∃ c : Nat, atI ("abcd" : Str).cps.toList (v : Int) = some c ∧ (c = 97 ∨ c = 98 ∨ c = 99 ∨ c = 100)
  | 0, _ => ⟨97, by decide, by simp⟩
  | 1, _ => ⟨98, by decide, by simp⟩
  | 2, _ => ⟨99, by decide, by simp⟩
  | 3, _ => ⟨100, by decide, by simp⟩
  | n + 4, h => absurd h (by omega)
theorem key_s : ∀ v : Nat, v < 4 → ∃ s : Str, atI ([.str "", .str "", .str "a", .str "z"] : List V) (v : Int) = some (.str s) ∧ (s = "" ∨ s = "a" ∨ s = "z")
  | 0, _ => ⟨"", rfl, by simp⟩
  | 1, _ => ⟨"", rfl, by simp⟩
  | 2, _ => ⟨"a", rfl, by simp⟩
  | 3, _ => ⟨"z", rfl, by simp⟩
  | n + 4, h => absurd h (by omega)
theorem key_ok {c : Nat} {s : Str} (h : c = 97 ∨ c = 98 ∨ c = 99 ∨ c = 100) (h' : s = "" ∨ s = "a" ∨ s = "z") : KOk ((⟨#[c]⟩ : Str) ++ s) ∧ (⟨#[c]⟩ : Str).length + s.length ≤ 2 := by
  unfold KOk
  rcases h with h | h | h | h <;> rcases h' with h' | h' | h' <;> subst h <;> subst h' <;> exact ⟨by decide, by decide⟩
theorem sc__law_key : FnScope ["_law_state_here"] ["_law_state_here"] (defScope (top 30)) := ⟨rfl, rfl, rfl, by decide +kernel, rfl, by decide +kernel, by decide +kernel⟩
theorem c__law_key_x (c__law_draw : Cl P w K mg base 3 "_law_draw" spDraw) (D : DefIn K mg "_law_key" (top 30) ["_law_state_here"]) : Cl P w K mg base 4 "_law_key" spKey := by
  refine cl_of D sc__law_key (fun vs H Q E h => ?_) (fun f cdv A outer s H vs Q E hr h => ?_)
  · obtain ⟨st, scr, rfl, _⟩ := h
    rfl
  obtain ⟨st, scr, rfl, hst, fin⟩ := h
  refine ⟨_, (pss_one (ps_ret (pe_op op_add_str (pe_ix ix_str pe_str (cl_c c__law_draw hr (by decide) (by rfl) (pa_cons (pv 0) (pa_cons pe_int pa_nil))) (fun _ _ => rfl)) (pe_ix ix_list (pe_lst (pa_cons pe_str (pa_cons pe_str (pa_cons pe_str (pa_cons pe_str pa_nil))))) (cl_c c__law_draw hr (by decide) (by rfl) (pa_cons (pv 0) (pa_cons pe_int pa_nil))) (fun _ _ => rfl))))), ?_⟩
  refine ⟨_, rfl, st, scr, 4, rfl, hst, by decide, by decide, fun v H1 hv k1 hst1 => ?_⟩
  obtain ⟨c, hc, c4⟩ := key_c v hv
  refine ⟨_, (v : Int), c, rfl, rfl, (by show 4 ≤ sizeLine; decide), hc, (by show 4 ≤ sizeLine; decide), fun l hl => ?_⟩
  have kl : Kp [] H1 (upd H1 l (.lst [.str "", .str "", .str "a", .str "z"])) := Kp.refl.new hl
  have nl : l ≠ st := fun z => hst1.some (by rw [← z]; exact hl)
  refine ⟨_, rfl, st, scr, 4, rfl, hst1.new kl, by decide, by decide, fun v2 H2 hv2 k2 hst2 => ?_⟩
  obtain ⟨s2, hs2, s4⟩ := key_s v2 hv2
  obtain ⟨ok, len⟩ := key_ok c4 s4
  refine ⟨l, _, (v2 : Int), .str s2, rfl, rfl, SqL.of (k2.k _ _ upd_same (by simpa using nl)), hs2, _, _, rfl, rfl, small100 (by omega), ?_⟩
  exact fin _ H2 ok ((k1.trans kl.nil).trans k2) hst2
def spCov : Sp := fun vs H Q _ => ∃ (st scr : Addr), vs = [.ref st] ∧ StAt H st scr ∧ ∀ c a b H', Kp [st] H H' → StAt H' st scr → H' c = some (.tup [.str a, .str b]) → Q (.ref c) H'
theorem sc__law_cover : FnScope ["_law_state_here", "_law_first", "_law_last"] ["_law_state_here"] (defScope (top 31)) := ⟨rfl, rfl, rfl, by decide +kernel, rfl, by decide +kernel, by decide +kernel⟩
theorem c__law_cover_x (c__law_draw : Cl P w K mg base 3 "_law_draw" spDraw) (c__law_key : Cl P w K mg base 4 "_law_key" spKey) (D : DefIn K mg "_law_cover" (top 31) ["_law_state_here"]) : Cl P w K mg base 5 "_law_cover" spCov := by
  refine cl_of D sc__law_cover (fun vs H Q E h => ?_) (fun f cdv A outer s H vs Q E hr h => ?_)
  · obtain ⟨st, scr, rfl, _⟩ := h
    rfl
  obtain ⟨st, scr, rfl, hst, fin⟩ := h
  refine ⟨_, (pss_cons (ps_set (i := 1) sc__law_cover.nd rfl (Or.inl rfl) (cl_c c__law_key hr (by decide) (by rfl) (pa_cons (pv 0) pa_nil)))
      (pss_cons (ps_set (i := 2) sc__law_cover.nd rfl (Or.inl rfl) (cl_c c__law_key hr (by decide) (by rfl) (pa_cons (pv 0) pa_nil)))
      (pss_cons (ps_if (pt_cmpR op_eq (cl_c c__law_draw hr (by decide) (by rfl) (pa_cons (pv 0) (pa_cons pe_int pa_nil))) pe_int (nomark _)) (pss_one (ps_ret (pe_tup (pa_cons (pv 1) (pa_cons (pv 1) pa_nil))))) pss_nil)
      (pss_cons (ps_if (PW.pt (pw_and (pt_cmpR op_lt_str (pv 2) (pv 1) (nomark _)) (pw_and1 (pt_cmpR op_gt (cl_c c__law_draw hr (by decide) (by rfl) (pa_cons (pv 0) (pa_cons pe_int pa_nil))) pe_int (nomark _))))) (pss_one (ps_ret (pe_tup (pa_cons (pv 2) (pa_cons (pv 1) pa_nil))))) pss_nil)
      (pss_one (ps_ret (pe_tup (pa_cons (pv 1) (pa_cons (pv 2) pa_nil))))))))), ?_⟩
  refine ⟨_, rfl, st, scr, rfl, hst, fun k1 H1 _ kp1 hst1 => ?_⟩
  refine ⟨_, rfl, st, scr, rfl, hst1, fun k2 H2 _ kp2 hst2 => ?_⟩
  have fin' : ∀ (a b : Str) H3, Kp [st] H2 H3 → StAt H3 st scr → ∀ c, H3 c = none → Q (.ref c) (upd H3 c (.tup [.str a, .str b])) := fun a b H3 kp3 hst3 c hc =>
    fin c a b _ (((kp1.trans kp2).trans kp3).new hc) (hst3.new (Kp.refl.new hc)) upd_same
  refine ⟨_, rfl, st, scr, 3, rfl, hst2, by decide, by decide, fun v H3 hv kp3 hst3 => ⟨rfl, _, rfl, ite2 (fun c => ?_) (fun c => ?_)⟩⟩
  · exact ⟨_, rfl, _, rfl, (by show 2 ≤ sizeLine; decide), fun c hc => fin' _ _ H3 kp3 hst3 c hc⟩
  · refine ⟨_, rfl, _, rfl, _, _, rfl, rfl, _, rfl, ite2 (fun c2 => ?_) (fun c2 => ?_)⟩
    · refine ⟨_, rfl, st, scr, 6, rfl, hst3, by decide, by decide, fun v2 H4 hv2 kp4 hst4 => ⟨_, _, rfl, rfl, _, rfl, ite2 (fun c3 => ?_) (fun c3 => ?_)⟩⟩
      · exact ⟨_, rfl, _, rfl, (by show 2 ≤ sizeLine; decide), fun c hc => fin' _ _ H4 (kp3.trans kp4) hst4 c hc⟩
      · exact ⟨_, rfl, _, rfl, (by show 2 ≤ sizeLine; decide), fun c hc => fin' _ _ H4 (kp3.trans kp4) hst4 c hc⟩
    · exact ⟨_, rfl, _, rfl, (by show 2 ≤ sizeLine; decide), fun c hc => fin' _ _ H3 kp3 hst3 c hc⟩
def spQuest (b : Bool) : Sp := fun vs H Q _ => ∃ (st scr : Addr), vs = [.ref st] ∧ StAt H st scr ∧ ∀ p (q : Qu) H', (b = false → q.isV = false) → Kp [st] H H' → StAt H' st scr → H' p = some (.tup q.vals) → Q (.ref p) H'
theorem kind5 : ∀ v : Nat, v < 5 → ∃ s : Str, atI ([.str "get", .str "count", .str "sum", .str "list", .str "least"] : List V) (v : Int) = some (.str s) ∧ (s = "get" ∨ s = "count" ∨ s = "sum" ∨ s = "list" ∨ s = "least")
  | 0, _ => ⟨"get", rfl, by simp⟩
  | 1, _ => ⟨"count", rfl, by simp⟩
  | 2, _ => ⟨"sum", rfl, by simp⟩
  | 3, _ => ⟨"list", rfl, by simp⟩
  | 4, _ => ⟨"least", rfl, by simp⟩
  | n + 5, h => absurd h (by omega)
theorem sc__law_question : FnScope ["_law_state_here", "_law_first", "_law_last", "_law_kind"] ["_law_state_here"] (defScope (top 32)) := ⟨rfl, rfl, rfl, by decide +kernel, rfl, by decide +kernel, by decide +kernel⟩
theorem c__law_question_x (c__law_draw : Cl P w K mg base 3 "_law_draw" spDraw) (c__law_cover : Cl P w K mg base 5 "_law_cover" spCov) (D : DefIn K mg "_law_question" (top 32) ["_law_state_here"]) : Cl P w K mg base 6 "_law_question" (spQuest false) := by
  refine cl_of D sc__law_question (fun vs H Q E h => ?_) (fun f cdv A outer s H vs Q E hr h => ?_)
  · obtain ⟨st, scr, rfl, _⟩ := h
    rfl
  obtain ⟨st, scr, rfl, hst, fin⟩ := h
  refine ⟨_, (pss_cons (ps_asg (cl_c c__law_cover hr (by decide) (by rfl) (pa_cons (pv 0) pa_nil)) (pg_tup (by rfl) (pgs_cons (pg_name (i := 1) sc__law_question.nd rfl (Or.inl rfl)) (pgs_cons (pg_name (i := 2) sc__law_question.nd rfl (Or.inl rfl)) pgs_nil))))
      (pss_cons (ps_set (i := 3) sc__law_question.nd rfl (Or.inl rfl) (pe_ix ix_list (pe_lst (pa_cons pe_str (pa_cons pe_str (pa_cons pe_str (pa_cons pe_str (pa_cons pe_str pa_nil)))))) (cl_c c__law_draw hr (by decide) (by rfl) (pa_cons (pv 0) (pa_cons pe_int pa_nil))) (fun _ _ => rfl)))
      (pss_one (ps_ret (pe_ifExp (pt_cmpR op_eq (pv 3) pe_str (nomark _)) (pe_tup (pa_cons pe_str (pa_cons (pv 1) pa_nil))) (pe_tup (pa_cons (pv 3) (pa_cons (pv 1) (pa_cons (pv 2) pa_nil))))))))), ?_⟩
  refine ⟨_, rfl, st, scr, rfl, hst, fun c a b H1 kp1 hst1 hc => ?_⟩
  refine ⟨c, _, rfl, .inl (.inl hc), rfl, _, _, rfl, _, _, rfl, rfl, (by show 5 ≤ sizeLine; decide), fun l hl => ?_⟩
  have kl : Kp [] H1 (upd H1 l (.lst [.str "get", .str "count", .str "sum", .str "list", .str "least"])) := Kp.refl.new hl
  have nl : l ≠ st := fun z => hst1.some (by rw [← z]; exact hl)
  refine ⟨_, rfl, st, scr, 5, rfl, hst1.new kl, by decide, by decide, fun v H2 hv k2 hst2 => ?_⟩
  obtain ⟨s2, hs2, s5⟩ := kind5 v hv
  refine ⟨l, _, (v : Int), .str s2, rfl, rfl, SqL.of (k2.k _ _ upd_same (by simpa using nl)), hs2, ?_⟩
  have kk := (kp1.trans kl.nil).trans k2
  have f3 : ∀ q : Qu, q.isV = false → ∀ p, H2 p = none → Q (.ref p) (upd H2 p (.tup q.vals)) := fun q hq p hp => fin p q _ (fun _ => hq) (kk.new hp) (hst2.new (Kp.refl.new hp)) upd_same
  rcases s5 with h | h | h | h | h <;> subst h
  · exact ⟨_, rfl, rfl, true, (by decide), iteT ⟨_, rfl, (by show 2 ≤ sizeLine; decide), fun p hp => f3 (.get a) rfl p hp⟩⟩
  · exact ⟨_, rfl, rfl, false, (by decide), iteF ⟨_, rfl, _, rfl, _, rfl, (by show 3 ≤ sizeLine; decide), fun p hp => f3 (.count a b) rfl p hp⟩⟩
  · exact ⟨_, rfl, rfl, false, (by decide), iteF ⟨_, rfl, _, rfl, _, rfl, (by show 3 ≤ sizeLine; decide), fun p hp => f3 (.sum a b) rfl p hp⟩⟩
  · exact ⟨_, rfl, rfl, false, (by decide), iteF ⟨_, rfl, _, rfl, _, rfl, (by show 3 ≤ sizeLine; decide), fun p hp => f3 (.list a b) rfl p hp⟩⟩
  · exact ⟨_, rfl, rfl, false, (by decide), iteF ⟨_, rfl, _, rfl, _, rfl, (by show 3 ≤ sizeLine; decide), fun p hp => f3 (.least a b) rfl p hp⟩⟩
end
end LH
/-! The law's groups, ledger, states, rows, records. -/
namespace LH
open PySem PySem.Spec L2
open PyProof.Rows (envOfC)
section
variable {P : Program} {w : World} {K : PySem.W.Frag} {mg : Str → Option Value} {base : Heap}
def WsAt (H : Hp) (ts : List Addr) (ws : Gr) : Prop := Paired (fun t (w : Wr) => H t = some (.tup [.str w.1, optV w.2])) ts ws
theorem WsAt.kp {F : List Addr} {H H' : Hp} {ts : List Addr} {ws : Gr} (k : Kp F H H') (h : WsAt H ts ws) : WsAt H' ts ws := Paired.mapP h fun _ _ q => k.t _ _ q
theorem ws_get {H : Hp} {ts : List Addr} {ws : Gr} (h : WsAt H ts ws) {i : Nat} {t : Addr} (ht : ts[i]? = some t) : ∃ w, ws[i]? = some w ∧ H t = some (.tup [.str w.1, optV w.2]) := paired_at i t h ht
theorem flat_strs (l : List Str) : (l.map V.str).all flatV = true := by
  rw [List.all_eq_true]
  intro x hx
  obtain ⟨s, _, rfl⟩ := List.mem_map.mp hx
  rfl
def spGroup : Sp := fun vs H Q _ => ∃ (st scr : Addr), vs = [.ref st] ∧ StAt H st scr ∧ ∀ g ws H', GrpAt H' g ws → (∀ w ∈ ws, KOk w.1) → Kp [st] H H' → StAt H' st scr → Q (.ref g) H'
theorem sc__law_group : FnScope ["_law_state_here", "_law_writes", "_law_key_here", "_law_k", "_law_other", "_law_value"] ["_law_state_here"] (defScope (top 34)) := ⟨rfl, rfl, rfl, by decide +kernel, rfl, by decide +kernel, by decide +kernel⟩
theorem c__law_group_x (T : Bl mg) (c__law_draw : Cl P w K mg base 3 "_law_draw" spDraw) (c__law_key : Cl P w K mg base 4 "_law_key" spKey) (D : DefIn K mg "_law_group" (top 34) ["_law_state_here"]) : Cl P w K mg base 5 "_law_group" spGroup := by
  refine cl_of D sc__law_group (fun vs H Q E h => ?_) (fun f cdv A outer s H vs Q E hr h => ?_)
  · obtain ⟨st, scr, rfl, _⟩ := h
    rfl
  obtain ⟨st, scr, rfl, hst, fin⟩ := h
  refine ⟨_, (pss_cons (ps_set (i := 1) sc__law_group.nd rfl (Or.inl rfl) (pe_lst pa_nil))
      (pss_cons (ps_for PassesOwn.never rfl (pi_list (pe_callB cr_sortedS (by rfl) T.sorted (by decide +kernel) (pa_cons (pe_lc (own := [("_law_k", 3)]) (g := (gName 3)) (tt := tYes) (by rfl) sc__law_group.nd (pi_range1 (by rfl) T.range (pa_cons (pe_op op_add pe_int (cl_c c__law_draw hr (by decide) (by rfl) (pa_cons (pv 0) (pa_cons pe_int pa_nil)))) pa_nil)) (blkOk_by (own := [("_law_k", 3)]) (N := ["_law_state_here", "_law_writes", "_law_key_here", "_law_k", "_law_other", "_law_value"]) (sc := defScope (top 34)) (by decide +kernel)) (fun _ _ _ _ _ => (pg_name (i := 3) sc__law_group.nd rfl (Or.inl rfl))) (fun _ _ _ _ _ => pts_nil) (fun _ _ _ _ _ => (cl_c c__law_key hr (by decide) (by rfl) (pa_cons (pv 0) pa_nil)))) pa_nil))) (pg_name (i := 2) sc__law_group.nd rfl (Or.inl rfl))
        (pss_one (ps_if (pt_cmpR op_notIn_seq (pv 2) (pe_lc (own := [("_law_other", 4), ("_law_value", 5)]) (g := (gTup K 2 (gCons (gName 4) (gCons (gName 5) gNil)))) (tt := tYes) (by rfl) sc__law_group.nd (pi_list (pv 1)) (blkOk_by (own := [("_law_other", 4), ("_law_value", 5)]) (N := ["_law_state_here", "_law_writes", "_law_key_here", "_law_k", "_law_other", "_law_value"]) (sc := defScope (top 34)) (by decide +kernel)) (fun _ _ _ _ _ => (pg_tup (by rfl) (pgs_cons (pg_name (i := 4) sc__law_group.nd rfl (Or.inl rfl)) (pgs_cons (pg_name (i := 5) sc__law_group.nd rfl (Or.inl rfl)) pgs_nil)))) (fun _ _ _ _ _ => pts_nil) (fun _ _ _ _ _ => (pv 4))) (by rfl)) (pss_one (ps_expr (pe_bm PySem.F.plainAttrs_list PySem.F.slot_list_append PySem.F.type_list_append mt_append (pv 1) (pa_cons (pe_tup (pa_cons (pv 2) (pa_cons (pe_ifExp (pt_cmpR op_eq (cl_c c__law_draw hr (by decide) (by rfl) (pa_cons (pv 0) (pa_cons pe_int pa_nil))) pe_int (nomark _)) pe_non (pe_op op_sub (cl_c c__law_draw hr (by decide) (by rfl) (pa_cons (pv 0) (pa_cons pe_int pa_nil))) pe_int)) pa_nil))) pa_nil)))) pss_nil)))
      (pss_one (ps_ret (pe_callTy call_tuple_of (by rfl) T.tuple (by decide +kernel) (pa_cons (pv 1) pa_nil)))))), ?_⟩
  refine ⟨Nat.zero_le _, fun l hl => ?_⟩
  have nl : l ≠ st := fun z => hst.some (by rw [← z]; exact hl)
  have kl : Kp [st] H (upd H l (.lst [])) := Kp.refl.new hl
  refine ⟨_, rfl, st, scr, 3, rfl, hst.new (Kp.refl.new hl), by decide, by decide, fun v H1 hv k1 hst1 => ?_⟩
  have hl1 : H1 l = some (.lst []) := k1.k _ _ upd_same (by simpa using nl)
  refine ⟨_, _, rfl, rfl, ((1 + v : Nat) : Int), by rw [Int.natCast_add]; rfl, by omega, by omega, fun Dl hD => ?_⟩
  have nDl : l ≠ Dl := ne_of_none hl1 hD
  have nDst : Dl ≠ st := fun z => hst1.some (by rw [← z]; exact hD)
  have hD0 : H Dl = none := kl.d _ (k1.d _ hD)
  refine ⟨fun i m H' => m = (1 + v) - i ∧ i ≤ 1 + v ∧ Kp [st] H1 H' ∧ StAt H' st scr ∧ ∃ ks : List Str, ks.length = i ∧ (∀ k ∈ ks, KOk k) ∧ H' Dl = some (.lst (ks.map V.str)), ⟨_, rfl, Nat.zero_le _, Kp.refl.new hD, hst1.new (Kp.refl.new hD), [], rfl, fun _ z => (by cases z), upd_same⟩, fun i m H' W => ?_⟩
  obtain ⟨rfl, hin, k2, hst2, ks, lk, ok, hks⟩ := W
  by_cases hlt : i < 1 + v
  · refine .inr ⟨hlt, fun H2 => Kp [st] H1 H2 ∧ StAt H2 st scr ∧ ∃ ks : List Str, ks.length = i + 1 ∧ (∀ k ∈ ks, KOk k) ∧ H2 Dl = some (.lst (ks.map V.str)), fun H2 h => ⟨(1 + v) - (i + 1), by omega, rfl, hlt, h⟩, fun x H2 y => ?_⟩
    obtain ⟨rfl, rfl⟩ := y
    refine ⟨rfl, yes_of ?_⟩
    refine ⟨_, rfl, st, scr, rfl, hst2, fun k H3 hk k3 hst3 => ?_⟩
    have hks3 := k3.k _ _ hks (by simpa using nDst)
    refine ⟨_, hks3, by rw [List.length_map, lk]; exact sm1000 (by omega), ?_⟩
    have k4 : Kp [] H1 H1 := .refl
    refine ⟨(k2.trans k3).own hD, hst3.kp (F := [Dl]) (Kp.refl.mut (by simp) hks3 (by intro xs z; cases z)) (by simpa using nDst.symm) ?_, ks ++ [k], by rw [List.length_append, lk]; rfl, fun k' hk' => ?_, by rw [upd_same, List.map_append]; rfl⟩
    · obtain ⟨_, _, _, _, _, hsc, _⟩ := hst1
      have := ne_of_none hsc hD
      simpa using this
    · rcases List.mem_append.mp hk' with h | h
      · exact ok k' h
      · rw [List.mem_singleton.mp h]; exact hk
  have ei : i = 1 + v := by omega
  subst ei
  refine .inl ⟨Nat.le_refl _, ?_⟩
  refine ⟨Dl, ks, rfl, SqL.of hks, by omega, fun ys r hperm _ hr0 => ⟨r, rfl, ⟨_, SqL.of upd_same⟩, ?_⟩⟩
  have hl2 : H' l = some (.lst []) := k2.k _ _ hl1 (by simpa using nl)
  have kr : Kp [] H' (upd H' r (.lst (ys.map V.str))) := Kp.refl.new hr0
  have nrl : r ≠ l := (ne_of_none hl2 hr0).symm
  have nrst : r ≠ st := fun z => hst2.some (by rw [← z]; exact hr0)
  have kall : Kp [st] H (upd H' r (.lst (ys.map V.str))) := ((kl.trans k1).trans k2).trans kr.nil
  have lenys : ys.length = 1 + v := by rw [hperm.length_eq, lk]
  refine for_list (xs := ys.map V.str) (fun i σ' H2 => (∃ x, σ' = [some (.ref st), some (.ref l), x, none, none, none]) ∧ Kp [st] H H2 ∧ StAt H2 st scr ∧ H2 r = some (.lst (ys.map V.str)) ∧ ∃ ts ws, H2 l = some (.lst (ts.map V.ref)) ∧ WsAt H2 ts ws ∧ ws.length ≤ i ∧ ∀ w ∈ ws, KOk w.1)
    ⟨⟨none, rfl⟩, kall, hst2.new kr, upd_same, [], [], by rw [upd_ne nrl.symm]; exact hl2, .nil, Nat.le_refl _, fun _ z => (by cases z)⟩ (fun i σ' H2 _ h => SqL.of h.2.2.2.1) (fun i x σ' H2 hx h => ?_) (fun σ' H2 h => ?_)
  · obtain ⟨⟨x0, rfl⟩, ka, hsta, hra, ts, ws, hla, hws, lws, okw⟩ := h
    rw [List.getElem?_map, Option.map_eq_some_iff] at hx
    obtain ⟨k, hk, rfl⟩ := hx
    have kok : KOk k := ok k (hperm.mem_iff.mp (List.mem_of_getElem? hk))
    have hi := (List.getElem?_eq_some_iff.mp hk).1
    have lts := Paired.length hws
    refine ⟨_, rfl, _, rfl, l, rfl, ⟨_, SqL.of hla⟩, fun D2 hD2 => ?_⟩
    have nD2l : l ≠ D2 := ne_of_none hla hD2
    refine ⟨fun j m H3 => m = ts.length - j ∧ j ≤ ts.length ∧ Kp [] H2 H3 ∧ ∃ ss : List Str, ss.length = j ∧ H3 D2 = some (.lst (ss.map V.str)), ⟨_, rfl, Nat.zero_le _, Kp.refl.new hD2, [], rfl, upd_same⟩, fun j m H3 W2 => ?_⟩
    obtain ⟨rfl, hj, k3, ss, lss, hss⟩ := W2
    have hl3 := k3.k _ _ hla (by simp)
    by_cases hlt2 : j < ts.length
    · refine .inr ⟨⟨_, _, SqL.of hl3, by rw [List.getElem?_map, List.getElem?_eq_getElem hlt2]; rfl⟩, fun H4 => Kp [] H2 H4 ∧ ∃ ss : List Str, ss.length = j + 1 ∧ H4 D2 = some (.lst (ss.map V.str)), fun H4 h => ⟨ts.length - (j + 1), by omega, rfl, hlt2, h⟩, fun x H4 y => ?_⟩
      obtain ⟨rfl, y⟩ := y
      have ex := y _ (SqL.of hl3)
      rw [List.getElem?_map, List.getElem?_eq_getElem hlt2] at ex
      have ex := Option.some.inj ex
      subst ex
      obtain ⟨wj, hw1, hw2⟩ := ws_get (hws.kp k3) (List.getElem?_eq_getElem hlt2)
      refine ⟨_, _, rfl, .inl (.inl hw2), rfl, _, _, rfl, _, _, rfl, rfl, rfl, yes_of ?_⟩
      refine ⟨_, rfl, _, hss, by rw [List.length_map, lss]; exact sm1000 (by omega), ?_⟩
      exact ⟨k3.own hD2, ss ++ [wj.1], by rw [List.length_append, lss]; rfl, by rw [upd_same, List.map_append]; rfl⟩
    · have ej : j = ts.length := by omega
      subst ej
      refine .inl ⟨⟨_, SqL.of hl3, by rw [List.length_map]; exact Nat.le_refl _⟩, ?_⟩
      have hst3 := hsta.new k3
      refine ⟨D2, _, rfl, .inl (SqL.of hss), rfl, flat_strs ss, _, rfl, ite2 (fun c => ?_) (fun c => ?_)⟩
      · refine ⟨_, rfl, .inl ⟨rfl, _, SqL.of hl3⟩, _, rfl, _, rfl, st, scr, 3, rfl, hst3, by decide, by decide, fun v2 H4 hv2 k4 hst4 => ?_⟩
        have hl4 := k4.k _ _ hl3 (by simpa using nl)
        have step : ∀ (vo : Option Int) (H5 : Hp) (t : Addr), Kp [st] H4 H5 → StAt H5 st scr → H5 t = none → ∀ D : L2.St → Hp → Prop, (∀ H6, ((∃ x, ([some (.ref st), some (.ref l), some (.str k), none, none, none] : L2.St) = [some (.ref st), some (.ref l), x, none, none, none]) ∧ Kp [st] H H6 ∧ StAt H6 st scr ∧ H6 r = some (.lst (ys.map V.str)) ∧ ∃ ts ws, H6 l = some (.lst (ts.map V.ref)) ∧ WsAt H6 ts ws ∧ ws.length ≤ i + 1 ∧ ∀ w ∈ ws, KOk w.1) → D [some (.ref st), some (.ref l), some (.str k), none, none, none] H6) →
            ∃ (l' : Addr) (xs : List V) (y : V), V.ref l = .ref l' ∧ [V.ref t] = [y] ∧ (upd H5 t (.tup [.str k, optV vo])) l' = some (.lst xs) ∧ xs.length < sizeLine ∧ D [some (.ref st), some (.ref l), some (.str k), none, none, none] (upd (upd H5 t (.tup [.str k, optV vo])) l' (.lst (xs ++ [y]))) := fun vo H5 t k5 hst5 ht Dn hDn => by
          have hl5 := k5.k _ _ hl4 (by simpa using nl)
          have nlt : l ≠ t := ne_of_none hl5 ht
          have k6 : Kp [] H5 (upd H5 t (.tup [.str k, optV vo])) := Kp.refl.new ht
          have hl6 : (upd H5 t (.tup [.str k, optV vo])) l = some (.lst (ts.map V.ref)) := by rw [upd_ne nlt]; exact hl5
          have k7 : Kp [l] (upd H5 t (.tup [.str k, optV vo])) (upd (upd H5 t (.tup [.str k, optV vo])) l (.lst (ts.map V.ref ++ [V.ref t]))) := Kp.refl.mut (by simp) hl6 (by intro xs z; cases z)
          refine ⟨l, _, _, rfl, rfl, hl6, by rw [List.length_map, lts]; exact sm1000 (by omega), hDn _ ⟨⟨_, rfl⟩, ?_, ?_, ?_, ts ++ [t], ws ++ [(k, vo)], by rw [upd_same, List.map_append]; rfl, ?_, by rw [List.length_append]; show _ + 1 ≤ _; omega, fun w' hw' => ?_⟩⟩
          · exact ((((ka.trans k3.nil).trans k4).trans k5).trans k6.nil).own hl
          · refine (hst5.new k6).kp k7 (by simpa using nl.symm) ?_
            obtain ⟨_, _, _, _, _, hsc, _⟩ := hst
            have := ne_of_none hsc hl
            simpa using this
          · rw [upd_ne nrl, upd_ne (ne_of_none (k5.k _ _ (k4.k _ _ (k3.k _ _ hra (by simp)) (by simpa using nrst)) (by simpa using nrst)) ht)]
            exact k5.k _ _ (k4.k _ _ (k3.k _ _ hra (by simp)) (by simpa using nrst)) (by simpa using nrst)
          · refine pr_append (WsAt.kp k7 (WsAt.kp k6 (WsAt.kp k5 (WsAt.kp k4 (hws.kp k3))))) (.cons ?_ .nil)
            rw [upd_ne nlt.symm]
            exact upd_same
          · rcases List.mem_append.mp hw' with h | h
            · exact okw w' h
            · rw [List.mem_singleton.mp h]; exact kok
        refine ⟨rfl, _, rfl, ite2 (fun c2 => ?_) (fun c2 => ?_)⟩
        · exact ⟨(by show 2 ≤ sizeLine; decide), fun t ht => step none H4 t .refl hst4 ht _ fun H6 h => h⟩
        · refine ⟨_, rfl, st, scr, 9, rfl, hst4, by decide, by decide, fun v3 H5 hv3 k5 hst5 => ?_⟩
          exact ⟨_, _, rfl, rfl, (by show 2 ≤ sizeLine; decide), fun t ht => step (some ((v3 : Int) - 4)) H5 t k5 hst5 ht _ fun H6 h => h⟩
      · refine ⟨⟨_, rfl⟩, ka.trans k3.nil, hst3, k3.k _ _ hra (by simp), ts, ws, hl3, hws.kp k3, Nat.le_succ_of_le lws, okw⟩
  · obtain ⟨⟨x0, rfl⟩, ka, hsta, hra, ts, ws, hla, hws, lws, okw⟩ := h
    refine ⟨_, rfl, l, _, rfl, .inl ⟨SqL.of hla, fun g hg => ?_⟩⟩
    exact fin g ws _ ⟨ts, upd_same, WsAt.kp (Kp.refl.new (F := []) hg) hws⟩ okw (ka.new hg) (hsta.new (Kp.refl.new hg))
end
end LH
/-! The law's ledger, states, rows, records. -/
namespace LH
open PySem PySem.Spec L2
open PyProof.Rows (envOfC)
theorem put_nd {kvs : List (Key × V)} {k : Key} {v : V} (h : (kvs.map (·.1)).Nodup) : ((putK kvs k v).map (·.1)).Nodup := by
  by_cases hk : k ∈ kvs.map (·.1)
  · have e : putK kvs k v = kvs.map fun kv => if kv.1 = k then (kv.1, v) else kv := by
      unfold putK
      rw [if_pos]
      obtain ⟨p, hp, ep⟩ := List.mem_map.mp hk
      exact List.any_eq_true.mpr ⟨p, hp, decide_eq_true ep⟩
    rw [e, List.map_map]
    have : (kvs.map ((fun x : Key × V => x.1) ∘ fun kv => if kv.1 = k then (kv.1, v) else kv)) = kvs.map (·.1) := List.map_congr_left fun kv _ => by
      show (if kv.1 = k then (kv.1, v) else kv).1 = kv.1
      split <;> rfl
    rw [this]
    exact h
  · rw [put_new hk, List.map_append, List.nodup_append]
    refine ⟨h, by simp, fun a ha b' hb' z => ?_⟩
    simp at hb'
    rw [z, hb'] at ha
    exact hk ha
theorem put_mem {kvs : List (Key × V)} {k : Key} {v : V} {p : Key × V} (h : p ∈ putK kvs k v) : p.1 = k ∨ p ∈ kvs := by
  unfold putK at h
  split at h
  · obtain ⟨q, hq, e⟩ := List.mem_map.mp h
    by_cases z : q.1 = k
    · rw [if_pos z] at e
      exact .inl (by rw [← e]; exact z)
    · rw [if_neg z] at e
      exact .inr (by rw [← e]; exact hq)
  · rcases List.mem_append.mp h with h | h
    · exact .inr h
    · exact .inl (by rw [List.mem_singleton.mp h])
theorem rep_putO {kvs : List (Key × V)} {f : Fn} {k : Str} {vo : Option Int} (R : RepO kvs f) (hk : KOk k) : RepO (putK kvs (Sum.inr k) (optV vo)) (wr f (k, vo)) := by
  refine ⟨put_nd R.nd, fun p hp => ?_, fun x => ?_⟩
  · rcases put_mem hp with h | h
    · exact ⟨k, h, hk⟩
    · exact R.ks p h
  · rw [valV_put]
    unfold wr
    by_cases e : x = k
    · rw [if_pos (by rw [e]), if_pos e]; rfl
    · rw [if_neg (by simpa using e), if_neg e]; exact R.val x
theorem rep_putI {kvs : List (Key × V)} {f : Fn} {k : Str} {v : Int} (R : RepI kvs f) (hk : KOk k) : RepI (putK kvs (Sum.inr k) (.int v)) (wr f (k, some v)) := by
  refine ⟨put_nd R.nd, fun p hp => ?_, fun x => ?_⟩
  · rcases put_mem hp with h | h
    · exact ⟨k, h, hk⟩
    · exact R.ks p h
  · rw [valV_put]
    unfold wr
    by_cases e : x = k
    · rw [if_pos (by rw [e]), if_pos e]; rfl
    · rw [if_neg (by simpa using e), if_neg e]; exact R.val x
theorem rep_keysO {kvs : List (Key × V)} {f : Fn} (R : RepO kvs f) : ∃ l : List Str, kvs.map (·.1) = l.map Sum.inr ∧ l.Nodup ∧ (∀ x ∈ l, KOk x) ∧ l.length ≤ 12 ∧ kvs.length ≤ 12 ∧ (∀ x ∈ l, valV kvs (Sum.inr x) = some (optV (f x))) ∧ ∀ x, x ∉ l → f x = none := by
  obtain ⟨l, e, h⟩ := keys_txt R.ks
  have nd := nd_txt R.nd e
  have fw := few_txt nd h
  have len := congrArg List.length e
  rw [List.length_map, List.length_map] at len
  refine ⟨l, e, nd, h, fw, by omega, fun x hx => ?_, fun x hx => ?_⟩
  · obtain ⟨v, hv⟩ := val_some (kvs := kvs) (k := Sum.inr x) (by rw [e]; exact List.mem_map.mpr ⟨x, hx, rfl⟩)
    have := R.val x
    rw [hv] at this ⊢
    exact congrArg some this
  · have hv := val_none (kvs := kvs) (k := Sum.inr x) (by
      rw [e]
      intro z
      obtain ⟨y, hy, ey⟩ := List.mem_map.mp z
      cases ey
      exact hx hy)
    have := R.val x
    rw [hv] at this
    cases z : f x with
    | none => rfl
    | some i => rw [z] at this; cases this
theorem rep_nilO : RepO [] (fun _ => none) := ⟨List.nodup_nil, fun _ h => (by cases h), fun _ => rfl⟩
theorem rep_nilI : RepI [] (fun _ => none) := ⟨List.nodup_nil, fun _ h => (by cases h), fun _ => rfl⟩
def OkF (f : Fn) : Prop := ∀ k v, f k = some v → KOk k
theorem okf_wr {f : Fn} {w : Wr} (h : OkF f) (hw : KOk w.1) : OkF (wr f w) := fun k v e => by
  unfold wr at e
  by_cases z : k = w.1
  · rw [z]; exact hw
  · rw [if_neg z] at e; exact h k v e
theorem okf_grp : ∀ {ws : Gr} {f : Fn}, OkF f → (∀ w ∈ ws, KOk w.1) → OkF (grp f ws)
  | [], _, h, _ => h
  | w :: r, f, h, hw => okf_grp (ws := r) (f := wr f w) (okf_wr h (hw w (by simp))) fun x hx => hw x (by simp [hx])
theorem okf_fold : ∀ {gs : List Gr} {f : Fn}, OkF f → (∀ g ∈ gs, ∀ w ∈ g, KOk w.1) → OkF (gs.foldl grp f)
  | [], _, h, _ => h
  | g :: r, f, h, hg => okf_fold (gs := r) (f := grp f g) (okf_grp h (hg g (by simp))) fun x hx => hg x (by simp [hx])
theorem M_ok {gs : List Gr} (h : GsOk gs) (c : Nat) : OkF (M gs c) := okf_fold (fun _ _ z => by cases z) fun g hg => h.ok g (List.mem_of_mem_take hg)
section
variable {P : Program} {w : World} {K : PySem.W.Frag} {mg : Str → Option Value} {base : Heap}
def spLedger : Sp := fun vs H Q _ => ∃ (st scr : Addr) (n : Nat), vs = [.ref st, .int n] ∧ StAt H st scr ∧ n ≤ 12 ∧ ∀ lg gs H', LedAt H' lg gs → gs.length = n → GsOk gs → Kp [st] H H' → StAt H' st scr → H lg = none → Q (.ref lg) H'
theorem sc__law_ledger : FnScope ["_law_state_here", "_law_count", "_law_ledger_here", "_law_time", "_law_k"] ["_law_state_here", "_law_count"] (defScope (top 35)) := ⟨rfl, rfl, rfl, by decide +kernel, rfl, by decide +kernel, by decide +kernel⟩
theorem c__law_ledger_x (T : Bl mg) (c__law_draw : Cl P w K mg base 3 "_law_draw" spDraw) (c__law_group : Cl P w K mg base 5 "_law_group" spGroup) (D : DefIn K mg "_law_ledger" (top 35) ["_law_state_here", "_law_count"]) : Cl P w K mg base 6 "_law_ledger" spLedger := by
  refine cl_of D sc__law_ledger (fun vs H Q E h => ?_) (fun f cdv A outer s H vs Q E hr h => ?_)
  · obtain ⟨st, scr, n, rfl, _⟩ := h
    rfl
  obtain ⟨st, scr, n, rfl, hst, hn, fin⟩ := h
  refine ⟨_, (pss_cons (ps_set (i := 2) sc__law_ledger.nd rfl (Or.inl rfl) (pe_lst pa_nil))
      (pss_cons (ps_set (i := 3) sc__law_ledger.nd rfl (Or.inl rfl) (cl_c c__law_draw hr (by decide) (by rfl) (pa_cons (pv 0) (pa_cons pe_int pa_nil))))
      (pss_cons (ps_for PassesOwn.never rfl (pi_range1 (by rfl) T.range (pa_cons (pv 1) pa_nil)) (pg_name (i := 4) sc__law_ledger.nd rfl (Or.inl rfl))
        (pss_cons (ps_expr (pe_bm PySem.F.plainAttrs_list PySem.F.slot_list_append PySem.F.type_list_append mt_append (pv 2) (pa_cons (pe_tup (pa_cons (pv 3) (pa_cons (cl_c c__law_group hr (by decide) (by rfl) (pa_cons (pv 0) pa_nil)) pa_nil))) pa_nil)))
        (pss_one (ps_set (i := 3) sc__law_ledger.nd rfl (Or.inl rfl) (pe_op op_add (pv 3) (cl_c c__law_draw hr (by decide) (by rfl) (pa_cons (pv 0) (pa_cons pe_int pa_nil))))))))
      (pss_one (ps_ret (pv 2)))))), ?_⟩
  refine ⟨Nat.zero_le _, fun l hl => ?_⟩
  have nl : l ≠ st := fun z => hst.some (by rw [← z]; exact hl)
  have nsc : scr ≠ l := by
    obtain ⟨_, _, _, _, _, hsc, _⟩ := hst
    exact ne_of_none hsc hl
  have kl : Kp [st] H (upd H l (.lst [])) := Kp.refl.new hl
  refine ⟨_, rfl, st, scr, 3, rfl, hst.new (Kp.refl.new hl), by decide, by decide, fun v H1 hv k1 hst1 => ?_⟩
  have hl1 : H1 l = some (.lst []) := k1.k _ _ upd_same (by simpa using nl)
  refine ⟨_, rfl, (n : Int), rfl, by omega, by omega, for_range (lo := 0) (n := ((n : Int)).toNat) (fun i σ' H' => (∃ (tm : Int) (x : Option V), σ' = [some (.ref st), some (.int n), some (.ref l), some (.int tm), x]) ∧ Kp [st] H H' ∧ StAt H' st scr ∧ ∃ gs, LedAt H' l gs ∧ gs.length = i ∧ ∀ g ∈ gs, ∀ w ∈ g, KOk w.1)
    ⟨⟨v, none, rfl⟩, kl.trans k1, hst1, [], ⟨[], hl1, .nil⟩, rfl, fun _ z => (by cases z)⟩ (fun i σ' H' hi h => ?_) (fun σ' H' h => ?_)⟩
  · obtain ⟨⟨tm, x, rfl⟩, ka, hsta, gs, ⟨cs, hcs, pcs⟩, lgs, okg⟩ := h
    refine ⟨_, rfl, .inl ⟨rfl, _, SqL.of hcs⟩, _, rfl, _, rfl, st, scr, rfl, hsta, fun g ws H2 hg hws k2 hst2 => ?_⟩
    refine ⟨(by show 2 ≤ sizeLine; decide), fun t ht => ?_⟩
    have hcs2 := k2.k _ _ hcs (by simpa using nl)
    have nlt : l ≠ t := ne_of_none hcs2 ht
    have k3 : Kp [] H2 (upd H2 t (.tup [.int tm, .ref g])) := Kp.refl.new ht
    have hcs3 : (upd H2 t (.tup [.int tm, .ref g])) l = some (.lst (cs.map V.ref)) := by rw [upd_ne nlt]; exact hcs2
    have lcs := Paired.length pcs
    have k4 : Kp [l] (upd H2 t (.tup [.int tm, .ref g])) (upd (upd H2 t (.tup [.int tm, .ref g])) l (.lst (cs.map V.ref ++ [V.ref t]))) := Kp.refl.mut (by simp) hcs3 (by intro xs z; cases z)
    have hst4 := (hst2.new k3).kp k4 (by simpa using nl.symm) (by simpa using nsc)
    refine ⟨l, _, _, rfl, rfl, hcs3, by rw [List.length_map, lcs]; exact sm1000 (by omega), ?_⟩
    refine ⟨_, rfl, _, rfl, st, scr, 4, rfl, hst4, by decide, by decide, fun v2 H5 hv2 k5 hst5 => ?_⟩
    refine ⟨_, _, rfl, rfl, ⟨_, _, rfl⟩, ?_, hst5, gs ++ [ws], ⟨cs ++ [t], ?_, ?_⟩, by rw [List.length_append, lgs]; rfl, fun g' hg' => ?_⟩
    · exact (((ka.trans k2).trans k3.nil).own hl).trans k5
    · rw [k5.k _ _ upd_same (by simpa using nl), List.map_append]; rfl
    · refine pr_append (Paired.mapP pcs fun c g' ⟨t', ga, q, r⟩ => ⟨t', ga, k5.t _ _ (k4.t _ _ (k3.t _ _ (k2.t _ _ q))), (((r.kp k2).kp k3).kp k4).kp k5⟩) (.cons ⟨tm, g, k5.t _ _ (k4.t _ _ upd_same), ((hg.kp k3).kp k4).kp k5⟩ .nil)
    · rcases List.mem_append.mp hg' with h | h
      · exact okg g' h
      · rw [List.mem_singleton.mp h]; exact hws
  · obtain ⟨⟨tm, x, rfl⟩, ka, hsta, gs, hgs, lgs, okg⟩ := h
    refine ⟨_, rfl, ?_⟩
    have e : gs.length = n := by omega
    exact fin l gs H' hgs e ⟨by omega, okg⟩ ka hsta hl
/-! ### the state at a moment -/
def spAt : Sp := fun vs H Q _ => ∃ (lg : Addr) (c : Nat) (gs : List Gr), vs = [.ref lg, .int c] ∧ LedAt H lg gs ∧ GsOk gs ∧ ∀ d kvs H', Kp [] H H' → H' d = some (.dK kvs) → RepO kvs (M gs c) → H d = none → Q (.ref d) H'
theorem sc__law_at : FnScope ["_law_ledger_here", "_law_moment", "_law_records_here", "_law_time", "_law_group_here", "_law_key_here", "_law_value"] ["_law_ledger_here", "_law_moment"] (defScope (top 36)) := ⟨rfl, rfl, rfl, by decide +kernel, rfl, by decide +kernel, by decide +kernel⟩
theorem c__law_at_x (D : DefIn K mg "_law_at" (top 36) ["_law_ledger_here", "_law_moment"]) : Cl P w K mg base 1 "_law_at" spAt := by
  refine cl_of D sc__law_at (fun vs H Q E h => ?_) (fun f cdv A outer s H vs Q E hr h => ?_)
  · obtain ⟨lg, c, gs, rfl, _⟩ := h
    rfl
  obtain ⟨lg, c, gs, rfl, ⟨cs, hcs, pcs⟩, G, fin⟩ := h
  have hu := hu_of hr
  refine ⟨_, (pss_cons (ps_set (i := 2) sc__law_at.nd rfl (Or.inl rfl) pe_dnewK)
      (pss_cons (ps_for PassesOwn.never rfl (pi_list (pe_slice sl_list (pv 0) po_none (po_some (pv 1)))) (pg_tup (by rfl) (pgs_cons (pg_name (i := 3) sc__law_at.nd rfl (Or.inl rfl)) (pgs_cons (pg_name (i := 4) sc__law_at.nd rfl (Or.inl rfl)) pgs_nil)))
        (pss_one (ps_for PassesOwn.never rfl (pi_tup (pv 4)) (pg_tup (by rfl) (pgs_cons (pg_name (i := 5) sc__law_at.nd rfl (Or.inl rfl)) (pgs_cons (pg_name (i := 6) sc__law_at.nd rfl (Or.inl rfl)) pgs_nil)))
          (pss_one (ps_dput hu (pv 2) (pv 5) (pv 6) rfl)))))
      (pss_one (ps_ret (pv 2))))), ?_⟩
  intro d hd
  have kd : Kp [] H (upd H d (.dK [])) := Kp.refl.new hd
  have nld : lg ≠ d := ne_of_none hcs hd
  refine ⟨_, rfl, _, rfl, c, rfl, lg, _, rfl, SqL.of (kd.k _ _ hcs (by simp)), fun r hr0 => ⟨r, rfl, ⟨_, SqL.of upd_same⟩, ?_⟩⟩
  rw [cut_head, ← List.map_take]
  have kr : Kp [] (upd H d (.dK [])) (upd (upd H d (.dK [])) r (.lst ((cs.take c).map V.ref))) := Kp.refl.new hr0
  have ndr : d ≠ r := ne_of_none upd_same hr0
  have pc := pr_take c pcs
  have k0 := kd.trans kr
  refine for_list (xs := (cs.take c).map V.ref) (fun i σ' H' => (∃ a b x y, σ' = [some (.ref lg), some (.int c), some (.ref d), a, b, x, y]) ∧ Kp [] H H' ∧ H' r = some (.lst ((cs.take c).map V.ref)) ∧ ∃ kvs, H' d = some (.dK kvs) ∧ RepO kvs (M (gs.take c) i))
    ⟨⟨_, _, _, _, rfl⟩, k0, upd_same, [], by rw [upd_ne ndr]; exact upd_same, rep_nilO⟩ (fun i σ' H' _ h => SqL.of h.2.2.1) (fun i x σ' H' hx h => ?_) (fun σ' H' h => ?_)
  · obtain ⟨⟨a, b, x5, y6, rfl⟩, ka, hra, kvs, hkv, R⟩ := h
    rw [List.getElem?_map, Option.map_eq_some_iff] at hx
    obtain ⟨t, ht, rfl⟩ := hx
    obtain ⟨g, hg, tm, ga, ht2, ts, hga, pts⟩ := paired_at i t pc ht
    refine ⟨t, _, rfl, .inl (.inl (ka.t _ _ ht2)), rfl, _, _, rfl, _, _, rfl, rfl, ?_⟩
    have hga' := ka.t _ _ hga
    rw [M_succ hg]
    have gok : ∀ w ∈ g, KOk w.1 := G.ok g (List.mem_of_mem_take (List.mem_of_getElem? hg))
    have lts := Paired.length pts
    refine ⟨_, rfl, ga, rfl, ⟨_, .inl (.inl hga')⟩, for_tup (xs := ts.map V.ref) (fun j σ2 H2 => (∃ x y, σ2 = [some (.ref lg), some (.int c), some (.ref d), some (.int tm), some (.ref ga), x, y]) ∧ Kp [] H H2 ∧ H2 r = some (.lst ((cs.take c).map V.ref)) ∧ ∃ kvs, H2 d = some (.dK kvs) ∧ RepO kvs (grp (M (gs.take c) i) (g.take j)))
      ⟨⟨_, _, rfl⟩, ka, hra, kvs, hkv, R⟩ (fun j σ2 H2 _ h => .inl (.inl (h.2.1.t _ _ hga))) (fun j x σ2 H2 hx h => ?_) (fun σ2 H2 h => ?_)⟩
    · obtain ⟨⟨x5, y6, rfl⟩, kb, hrb, kvs2, hkv2, R2⟩ := h
      rw [List.getElem?_map, Option.map_eq_some_iff] at hx
      obtain ⟨t2, ht3, rfl⟩ := hx
      obtain ⟨wj, hw1, hw2⟩ := paired_at j t2 pts ht3
      rw [grp_take _ hw1]
      obtain ⟨_, _, _, _, _, few, _⟩ := rep_keysO R2
      refine ⟨t2, _, rfl, .inl (.inl (kb.t _ _ hw2)), rfl, _, _, rfl, _, _, rfl, rfl, ?_⟩
      refine ⟨_, rfl, _, rfl, _, rfl, d, _, rfl, .inl ⟨kvs2, Sum.inr wj.1, hkv2, rfl, sm1000 (by omega), rfl⟩, ?_⟩
      refine ⟨⟨_, _, rfl⟩, kb.own hd, by rw [upd_ne ndr.symm]; exact hrb, _, upd_same, rep_putO R2 (gok wj (List.mem_of_getElem? hw1))⟩
    · obtain ⟨⟨x5, y6, rfl⟩, kb, hrb, kvs2, hkv2, R2⟩ := h
      rw [List.length_map, lts, List.take_length] at R2
      exact ⟨⟨_, _, _, _, rfl⟩, kb, hrb, kvs2, hkv2, R2⟩
  · obtain ⟨⟨a, b, x5, y6, rfl⟩, ka, hra, kvs, hkv, R⟩ := h
    refine ⟨_, rfl, fin d kvs H' ka hkv ?_ hd⟩
    rw [List.length_map, Paired.length pc] at R
    unfold M at R
    rw [List.take_length] at R
    exact R
/-! ### rows -/
def spRows : Sp := fun vs H Q _ => ∃ (d c : Addr) (a b : Str) (kvs : List (Key × V)) (f : Fn), vs = [.ref d, .ref c] ∧ H d = some (.dK kvs) ∧ RepO kvs f ∧ H c = some (.tup [.str a, .str b]) ∧
  ∀ r ts rs H', Kp [] H H' → H' r = some (.lst (ts.map V.ref)) → RowsAt H' ts rs → RowsOf f (a, b) rs → rs.length ≤ 12 → H r = none → Q (.ref r) H'
theorem sc__law_rows : FnScope ["_law_records_here", "_law_cover_here", "_law_found", "_law_key_here"] ["_law_records_here", "_law_cover_here"] (defScope (top 37)) := ⟨rfl, rfl, rfl, by decide +kernel, rfl, by decide +kernel, by decide +kernel⟩
theorem c__law_rows_x (T : Bl mg) (D : DefIn K mg "_law_rows" (top 37) ["_law_records_here", "_law_cover_here"]) : Cl P w K mg base 1 "_law_rows" spRows := by
  refine cl_of D sc__law_rows (fun vs H Q E h => ?_) (fun f cdv A outer s H vs Q E hr h => ?_)
  · obtain ⟨d, c, a, b, kvs, f, rfl, _⟩ := h
    rfl
  obtain ⟨d, c, a, b, kvs, f, rfl, hd, R, hc, fin⟩ := h
  have hu := hu_of hr
  obtain ⟨lk, elk, ndk, okk, fewk, fewv, valk, nonek⟩ := rep_keysO R
  refine ⟨_, (pss_cons (ps_set (i := 2) sc__law_rows.nd rfl (Or.inl rfl) (pe_lst pa_nil))
      (pss_cons (ps_for PassesOwn.never rfl (pi_list (pe_callB cr_sortedS (by rfl) T.sorted (by decide +kernel) (pa_cons (pe_callTy (call_listD rfl) (by rfl) T.list (by decide +kernel) (pa_cons (pv 0) pa_nil)) pa_nil))) (pg_name (i := 3) sc__law_rows.nd rfl (Or.inl rfl))
        (pss_one (ps_if (PW.pt (pw_and (pt_cmpR op_le_str (pe_ix ix_tup (pv 1) pe_int (fun _ _ => rfl)) (pv 3) (nomark _)) (pw_and (pt_cmpR op_le_str (pv 3) (pe_ix ix_tup (pv 1) pe_int (fun _ _ => rfl)) (nomark _)) (pw_and1 (pt_cmpR op_notN (pe_dget hu (pv 0) (pv 3) (fun _ _ => rfl)) pe_non (nomark _)))))) (pss_one (ps_expr (pe_bm PySem.F.plainAttrs_list PySem.F.slot_list_append PySem.F.type_list_append mt_append (pv 2) (pa_cons (pe_tup (pa_cons (pv 3) (pa_cons (pe_dget hu (pv 0) (pv 3) (fun _ _ => rfl)) pa_nil))) pa_nil)))) pss_nil)))
      (pss_one (ps_ret (pv 2))))), ?_⟩
  refine ⟨Nat.zero_le _, fun l hl => ?_⟩
  have kl : Kp [] H (upd H l (.lst [])) := Kp.refl.new hl
  have eks : (kvs.map fun kv => kV kv.1) = lk.map V.str := by
    have := congrArg (List.map kV) elk
    rw [List.map_map, List.map_map] at this
    exact this
  refine ⟨_, rfl, d, kvs, rfl, .inl (kl.k _ _ hd (by simp)), fun p hp => ?_⟩
  have kp : Kp [] (upd H l (.lst [])) (upd (upd H l (.lst [])) p (.lst (kvs.map fun kv => kV kv.1))) := Kp.refl.new hp
  refine ⟨p, lk, rfl, SqL.of (by rw [← eks]; exact upd_same), by omega, fun ys r hperm hso hr0 => ⟨r, rfl, ⟨_, SqL.of upd_same⟩, ?_⟩⟩
  have kr : Kp [] (upd (upd H l (.lst [])) p (.lst (kvs.map fun kv => kV kv.1))) (upd (upd (upd H l (.lst [])) p (.lst (kvs.map fun kv => kV kv.1))) r (.lst (ys.map V.str))) := Kp.refl.new hr0
  have hl3 := kr.k _ _ (kp.k _ _ (upd_same (H := H) (a := l) (o := .lst [])) (by simp)) (by simp)
  have nlr : l ≠ r := ne_of_none (kp.k _ _ (upd_same (H := H) (a := l) (o := .lst [])) (by simp)) hr0
  have ky : ∀ y, y ∈ ys ↔ y ∈ lk := fun y => hperm.mem_iff
  have ndy : ys.Nodup := hperm.nodup_iff.mpr ndk
  have strict := sorted_strict hso ndy
  have leny : ys.length ≤ 12 := by rw [hperm.length_eq]; exact fewk
  refine for_list (xs := ys.map V.str) (fun i σ' H' => (∃ x, σ' = [some (.ref d), some (.ref c), some (.ref l), x]) ∧ Kp [] H H' ∧ H' r = some (.lst (ys.map V.str)) ∧ ∃ ts rs, H' l = some (.lst (ts.map V.ref)) ∧ RowsAt H' ts rs ∧ rs.length ≤ i ∧ (rs.Pairwise fun p q => klt p.1 q.1 = true) ∧ ∀ k v, (k, v) ∈ rs ↔ k ∈ ys.take i ∧ f k = some v ∧ inC (a, b) k = true)
    ⟨⟨none, rfl⟩, (kl.trans kp).trans kr, upd_same, [], [], hl3, .nil, Nat.le_refl _, List.Pairwise.nil, fun k v => by simp⟩ (fun i σ' H' _ h => SqL.of h.2.2.1) (fun i x σ' H' hx h => ?_) (fun σ' H' h => ?_)
  · obtain ⟨⟨x0, rfl⟩, ka, hra, ts, rs, hla, hrs, lrs, so, mem⟩ := h
    rw [List.getElem?_map, Option.map_eq_some_iff] at hx
    obtain ⟨k, hk, rfl⟩ := hx
    have hkm : k ∈ ys := List.mem_of_getElem? hk
    have tk1 : ys.take (i + 1) = ys.take i ++ [k] := by rw [List.take_add_one, hk]; rfl
    have hi := (List.getElem?_eq_some_iff.mp hk).1
    have hc1 := ka.t _ _ hc
    have hd1 := ka.k _ _ hd (by simp)
    have dg : DGet H' d (.str k) (some (optV (f k))) := by rw [← valk k ((ky k).mp hkm)]; exact DGet.k (k := Sum.inr k) hd1
    have no : (¬ (∃ v, f k = some v ∧ inC (a, b) k = true)) → ∀ k' v, (k', v) ∈ rs ↔ k' ∈ ys.take (i + 1) ∧ f k' = some v ∧ inC (a, b) k' = true := fun n k' v => by
      rw [mem, tk1, List.mem_append]
      constructor
      · rintro ⟨h1, h2, h3⟩
        exact ⟨.inl h1, h2, h3⟩
      · rintro ⟨h1, h2, h3⟩
        rcases h1 with h1 | h1
        · exact ⟨h1, h2, h3⟩
        · rw [List.mem_singleton.mp h1] at h2 h3
          exact absurd ⟨v, h2, h3⟩ n
    refine ⟨_, rfl, c, _, 0, .str a, rfl, rfl, .inl (.inl hc1), rfl, _, rfl, _, _, rfl, rfl, _, rfl, ite2 (fun c1 => ?_) (fun c1 => ?_)⟩
    · refine ⟨_, rfl, _, rfl, c, _, 1, .str b, rfl, rfl, .inl (.inl hc1), rfl, _, _, rfl, rfl, _, rfl, ite2 (fun c2 => ?_) (fun c2 => ?_)⟩
      · have hin : inC (a, b) k = true := by
          unfold inC
          rw [show kle a k = true from c1, show kle k b = true from c2]
          rfl
        refine ⟨_, rfl, _, rfl, d, _, rfl, dg, rfl, _, rfl, ite2 (fun c3 => ?_) (fun c3 => ?_)⟩
        · cases hf : f k with
          | none => rw [hf] at c3; exact absurd c3 (by decide)
          | some v =>
            rw [hf] at dg
            refine ⟨_, rfl, .inl ⟨rfl, _, SqL.of hla⟩, _, rfl, _, rfl, _, rfl, d, _, rfl, dg, (by show 2 ≤ sizeLine; decide), fun t ht => ?_⟩
            have nlt : l ≠ t := ne_of_none hla ht
            have hla2 : (upd H' t (.tup [.str k, optV (some v)])) l = some (.lst (ts.map V.ref)) := by rw [upd_ne nlt]; exact hla
            have k2 : Kp [l] H' (upd (upd H' t (.tup [.str k, optV (some v)])) l (.lst (ts.map V.ref ++ [V.ref t]))) := (Kp.refl.new ht).mut (by simp) hla2 (by intro xs z; cases z)
            have lts := Paired.length hrs
            refine ⟨l, _, _, rfl, rfl, hla2, by rw [List.length_map, lts]; exact sm1000 (by omega), ?_⟩
            refine ⟨⟨_, rfl⟩, (ka.new ht).own hl, k2.k _ _ hra (by simpa using nlr.symm), ts ++ [t], rs ++ [(k, v)], by rw [upd_same, List.map_append]; rfl, pr_append (RowsAt.kp k2 hrs) (.cons (by rw [upd_ne nlt.symm]; exact upd_same) .nil), by rw [List.length_append]; show _ + 1 ≤ _; omega, ?_, fun k' v' => ?_⟩
            · rw [List.pairwise_append]
              refine ⟨so, by simp, fun p hp q hq => ?_⟩
              rw [List.mem_singleton.mp hq]
              obtain ⟨h1, _⟩ := (mem p.1 p.2).mp hp
              obtain ⟨j, hj, ej⟩ := List.mem_iff_getElem.mp h1
              rw [List.getElem_take] at ej
              rw [List.length_take] at hj
              have := (List.pairwise_iff_getElem.mp strict) j i (by omega) hi (by omega)
              rw [ej, (List.getElem?_eq_some_iff.mp hk).2] at this
              exact this
            · rw [List.mem_append, mem, tk1, List.mem_append]
              constructor
              · rintro (⟨h1, h2, h3⟩ | h)
                · exact ⟨.inl h1, h2, h3⟩
                · have h := List.mem_singleton.mp h
                  rw [Prod.mk.injEq] at h
                  rw [h.1, h.2]
                  exact ⟨.inr (by simp), hf, hin⟩
              · rintro ⟨h1, h2, h3⟩
                rcases h1 with h1 | h1
                · exact .inl ⟨h1, h2, h3⟩
                · have h1 := List.mem_singleton.mp h1
                  rw [h1, hf] at h2
                  rw [h1, ← Option.some.inj h2]
                  exact .inr (by simp)
        · have nf : f k = none := by
            cases hf : f k with
            | none => rfl
            | some v => rw [hf] at c3; exact absurd rfl c3
          exact ⟨⟨_, rfl⟩, ka, hra, ts, rs, hla, hrs, Nat.le_succ_of_le lrs, so, no fun ⟨v, h1, _⟩ => by rw [nf] at h1; cases h1⟩
      · refine ⟨⟨_, rfl⟩, ka, hra, ts, rs, hla, hrs, Nat.le_succ_of_le lrs, so, no fun ⟨v, _, h1⟩ => c2 ?_⟩
        unfold inC at h1
        rw [Bool.and_eq_true] at h1
        exact h1.2
    · refine ⟨⟨_, rfl⟩, ka, hra, ts, rs, hla, hrs, Nat.le_succ_of_le lrs, so, no fun ⟨v, _, h1⟩ => c1 ?_⟩
      unfold inC at h1
      rw [Bool.and_eq_true] at h1
      exact h1.1
  · obtain ⟨⟨x0, rfl⟩, ka, hra, ts, rs, hla, hrs, lrs, so, mem⟩ := h
    rw [List.length_map] at lrs
    rw [List.length_map, List.take_length] at mem
    refine ⟨_, rfl, fin l ts rs H' ka hla hrs ⟨so, fun k v => ?_⟩ (by omega) hl⟩
    rw [mem]
    constructor
    · rintro ⟨_, h2, h3⟩
      exact ⟨h2, h3⟩
    · rintro ⟨h2, h3⟩
      refine ⟨(ky k).mpr ?_, h2, h3⟩
      by_cases z : k ∈ lk
      · exact z
      · rw [nonek k z] at h2
        cases h2
/-! ### the records that a view is given -/
def spRecs : Sp := fun vs H Q _ => ∃ (lg c : Addr) (m : Nat) (a b : Str) (gs : List Gr), vs = [.ref lg, .ref c, .int m] ∧ LedAt H lg gs ∧ GsOk gs ∧ H c = some (.tup [.str a, .str b]) ∧ (∀ k, KOk k → inC (a, b) k = true) ∧
  ∀ d kvs H', Kp [] H H' → H' d = some (.dK kvs) → RepI kvs (M gs m) → H d = none → Q (.ref d) H'
theorem sc__law_records : FnScope ["_law_ledger_here", "_law_cover_here", "_law_moment", "_law_records_here", "_law_key_here", "_law_value"] ["_law_ledger_here", "_law_cover_here", "_law_moment"] (defScope (top 40)) := ⟨rfl, rfl, rfl, by decide +kernel, rfl, by decide +kernel, by decide +kernel⟩
theorem c__law_records_x (c__law_at : Cl P w K mg base 1 "_law_at" spAt) (c__law_rows : Cl P w K mg base 1 "_law_rows" spRows) (D : DefIn K mg "_law_records" (top 40) ["_law_ledger_here", "_law_cover_here", "_law_moment"]) : Cl P w K mg base 2 "_law_records" spRecs := by
  refine cl_of D sc__law_records (fun vs H Q E h => ?_) (fun f cdv A outer s H vs Q E hr h => ?_)
  · obtain ⟨lg, c, m, a, b, gs, rfl, _⟩ := h
    rfl
  obtain ⟨lg, c, m, a, b, gs, rfl, hlg, G, hc, all, fin⟩ := h
  have hu := hu_of hr
  refine ⟨_, (pss_cons (ps_set (i := 3) sc__law_records.nd rfl (Or.inl rfl) pe_dnewK)
      (pss_cons (ps_for PassesOwn.never rfl (pi_list (cl_c c__law_rows hr (by decide) (by rfl) (pa_cons (cl_c c__law_at hr (by decide) (by rfl) (pa_cons (pv 0) (pa_cons (pv 2) pa_nil))) (pa_cons (pv 1) pa_nil)))) (pg_tup (by rfl) (pgs_cons (pg_name (i := 4) sc__law_records.nd rfl (Or.inl rfl)) (pgs_cons (pg_name (i := 5) sc__law_records.nd rfl (Or.inl rfl)) pgs_nil)))
        (pss_one (ps_dput hu (pv 3) (pv 4) (pv 5) rfl)))
      (pss_one (ps_ret (pv 3))))), ?_⟩
  intro d hd
  have kd : Kp [] H (upd H d (.dK [])) := Kp.refl.new hd
  refine ⟨_, rfl, _, rfl, lg, m, gs, rfl, hlg.kp kd (by simp), G, fun d2 kvs2 H2 k2 hd2 R2 _ => ?_⟩
  refine ⟨_, rfl, d2, c, a, b, kvs2, _, rfl, hd2, R2, k2.t _ _ (kd.t _ _ hc), fun r ts rs H3 k3 hr3 hrs RO few hrn => ⟨r, rfl, ⟨_, SqL.of hr3⟩, ?_⟩⟩
  have hdd : (upd H d (.dK [])) d = some (.dK []) := upd_same
  have hd3 := k3.k _ _ (k2.k _ _ hdd (by simp)) (by simp)
  have ndr : d ≠ r := ne_of_none (k2.k _ _ hdd (by simp)) hrn
  have lts := Paired.length hrs
  refine for_list (xs := ts.map V.ref) (fun i σ' H' => (∃ x y, σ' = [some (.ref lg), some (.ref c), some (.int m), some (.ref d), x, y]) ∧ Kp [] H H' ∧ Kp [d] H3 H' ∧ H' r = some (.lst (ts.map V.ref)) ∧ ∃ kvs, H' d = some (.dK kvs) ∧ RepI kvs (grp (fun _ => none) ((rs.take i).map fun p => (p.1, some p.2))))
    ⟨⟨_, _, rfl⟩, (kd.trans k2).trans k3, .refl, hr3, [], hd3, rep_nilI⟩ (fun i σ' H' _ h => SqL.of h.2.2.2.1) (fun i x σ' H' hx h => ?_) (fun σ' H' h => ?_)
  · obtain ⟨⟨x0, y0, rfl⟩, ka, kb, hra, kvs, hkv, R⟩ := h
    rw [List.getElem?_map, Option.map_eq_some_iff] at hx
    obtain ⟨t, ht, rfl⟩ := hx
    obtain ⟨p, hp, htp⟩ := paired_at i t hrs ht
    have pm := (RO.mem p.1 p.2).mp (List.mem_of_getElem? hp)
    have kok := M_ok G m p.1 p.2 pm.1
    have fewv : kvs.length ≤ 12 := by
      obtain ⟨l, e, _, _, fw, _⟩ := rep_keys R
      have := congrArg List.length e
      rw [List.length_map, List.length_map] at this
      omega
    refine ⟨t, _, rfl, .inl (.inl (kb.t _ _ htp)), rfl, _, _, rfl, _, _, rfl, rfl, ?_⟩
    refine ⟨_, rfl, _, rfl, _, rfl, d, _, rfl, .inl ⟨kvs, Sum.inr p.1, hkv, rfl, sm1000 (by omega), rfl⟩, ?_⟩
    refine ⟨⟨_, _, rfl⟩, ka.own hd, kb.mut (by simp) hkv (by intro xs z; cases z), by rw [upd_ne ndr.symm]; exact hra, _, upd_same, ?_⟩
    rw [List.take_add_one, hp, List.map_append]
    show RepI _ (grp _ (_ ++ [(p.1, some p.2)]))
    rw [grp_snoc]
    exact rep_putI R kok
  · obtain ⟨⟨x0, y0, rfl⟩, ka, kb, hra, kvs, hkv, R⟩ := h
    refine ⟨_, rfl, fin d kvs H' ka hkv ?_ hd⟩
    rw [List.length_map, lts, List.take_length] at R
    have e : (grp (fun _ => none) (rs.map fun p => (p.1, some p.2))) = M gs m := by
      have e1 : (rs.map fun p => ((p.1, some p.2) : Wr)) = (rs.map (·.1)).map fun k => (k, M gs m k) := by
        rw [List.map_map]
        refine List.map_congr_left fun p hp => ?_
        show (p.1, some p.2) = (p.1, M gs m p.1)
        rw [((RO.mem p.1 p.2).mp hp).1]
      rw [e1]
      funext x
      rw [grp_map]
      split
      · rfl
      · rename_i n
        cases z : M gs m x with
        | none => rfl
        | some v => exact absurd (List.mem_map.mpr ⟨(x, v), (RO.mem x v).mpr ⟨z, all x (M_ok G m x v z)⟩, rfl⟩) n
    rw [e] at R
    exact R
end
end LH
/-! The law's own answers; when two answers are the same. -/
namespace LH
open PySem PySem.Spec L2
open PyProof.Rows (envOfC)
def AnsSz : Ans → Prop
  | .rows rs => rs.length ≤ 12
  | _ => True
theorem isans_of {f : Fn} {q : Qu} {rs : List Row} (R : RowsOf f q.cov rs) : IsAns f q (ansOf q rs) := fun rs' R' => by rw [rows_one R' R]
theorem rank_len (rs : List Row) : (rankOf rs).length = rs.length := by
  unfold rankOf
  have : ∀ (rs rk : List Row), (rs.foldl rank1 rk).length = rk.length + rs.length := by
    intro rs
    induction rs with
    | nil => intro rk; rfl
    | cons p r ih =>
      intro rk
      show (r.foldl rank1 (rank1 rk p)).length = _
      rw [ih]
      unfold rank1
      rw [List.length_append, List.length_append, List.length_take, List.length_drop]
      simp only [List.length_cons, List.length_nil]
      omega
  rw [this]
  simp
theorem anssz_of {q : Qu} {rs : List Row} (h : rs.length ≤ 12) : AnsSz (ansOf q rs) := by
  cases q with
  | get k => cases rs <;> exact trivial
  | count a b => exact trivial
  | sum a b => exact trivial
  | list a b => exact h
  | least a b =>
    show AnsSz (match bestOf rs with | none => .non | some p => .pair p)
    cases bestOf rs <;> exact trivial
  | top n a b =>
    show ((rankOf rs).take n).length ≤ 12
    rw [List.length_take, rank_len]
    omega
  | whr lo hi a b =>
    show (rs.filter _).length ≤ 12
    exact Nat.le_trans (List.length_filter_le _ _) h
section
variable {P : Program} {w : World} {K : PySem.W.Frag} {mg : Str → Option Value} {base : Heap}
/-! ### covers -/
theorem sc__law_cover_of : FnScope ["_law_question_here"] ["_law_question_here"] (defScope (top 33)) := ⟨rfl, rfl, rfl, by decide +kernel, rfl, by decide +kernel, by decide +kernel⟩
theorem c__law_cover_of_x (D : DefIn K mg "_law_cover_of" (top 33) ["_law_question_here"]) : Cl P w K mg base 1 "_law_cover_of" (spCover false) := by
  refine cl_of D sc__law_cover_of (fun vs H Q E h => ?_) (fun f cdv A outer s H vs Q E hr h => ?_)
  · obtain ⟨p, q, rfl, _⟩ := h
    rfl
  obtain ⟨p, q, rfl, hp, hv, k⟩ := h
  have hv := hv rfl
  refine ⟨_, (pss_one (ps_ret (pe_ifExp (pt_cmpR op_eq (pe_ix ix_tup (pv 0) pe_int (fun _ _ => rfl)) pe_str (nomark _)) (pe_tup (pa_cons (pe_ix ix_tup (pv 0) pe_int (fun _ _ => rfl)) (pa_cons (pe_ix ix_tup (pv 0) pe_int (fun _ _ => rfl)) pa_nil))) (pe_tup (pa_cons (pe_ix ix_tup (pv 0) pe_int (fun _ _ => rfl)) (pa_cons (pe_ix ix_tup (pv 0) pe_int (fun _ _ => rfl)) pa_nil)))))), ?_⟩
  have fin : ∀ c, H c = none → Q (.ref c) (upd H c (.tup [.str q.cov.1, .str q.cov.2])) := fun c hc => k c _ (Kp.refl.new hc) upd_same
  cases q with
  | top n a b => cases hv
  | whr lo hi a b => cases hv
  | get a => exact ⟨_, rfl, p, _, _, _, rfl, rfl, .inl (.inl hp), rfl, rfl, true, rfl, iteT ⟨_, rfl, p, _, _, _, rfl, rfl, .inl (.inl hp), rfl, _, rfl, p, _, _, _, rfl, rfl, .inl (.inl hp), rfl, (by show 2 ≤ sizeLine; decide), fun c hc => fin c hc⟩⟩
  | count a b => exact ⟨_, rfl, p, _, _, _, rfl, rfl, .inl (.inl hp), rfl, rfl, false, (by decide), iteF ⟨_, rfl, p, _, _, _, rfl, rfl, .inl (.inl hp), rfl, _, rfl, p, _, _, _, rfl, rfl, .inl (.inl hp), rfl, (by show 2 ≤ sizeLine; decide), fun c hc => fin c hc⟩⟩
  | sum a b => exact ⟨_, rfl, p, _, _, _, rfl, rfl, .inl (.inl hp), rfl, rfl, false, (by decide), iteF ⟨_, rfl, p, _, _, _, rfl, rfl, .inl (.inl hp), rfl, _, rfl, p, _, _, _, rfl, rfl, .inl (.inl hp), rfl, (by show 2 ≤ sizeLine; decide), fun c hc => fin c hc⟩⟩
  | list a b => exact ⟨_, rfl, p, _, _, _, rfl, rfl, .inl (.inl hp), rfl, rfl, false, (by decide), iteF ⟨_, rfl, p, _, _, _, rfl, rfl, .inl (.inl hp), rfl, _, rfl, p, _, _, _, rfl, rfl, .inl (.inl hp), rfl, (by show 2 ≤ sizeLine; decide), fun c hc => fin c hc⟩⟩
  | least a b => exact ⟨_, rfl, p, _, _, _, rfl, rfl, .inl (.inl hp), rfl, rfl, false, (by decide), iteF ⟨_, rfl, p, _, _, _, rfl, rfl, .inl (.inl hp), rfl, _, rfl, p, _, _, _, rfl, rfl, .inl (.inl hp), rfl, (by show 2 ≤ sizeLine; decide), fun c hc => fin c hc⟩⟩
theorem sc__law_view_cover : FnScope ["_law_question_here"] ["_law_question_here"] (defScope (top 42)) := ⟨rfl, rfl, rfl, by decide +kernel, rfl, by decide +kernel, by decide +kernel⟩
theorem c__law_view_cover_x (c__law_cover_of : Cl P w K mg base 1 "_law_cover_of" (spCover false)) (D : DefIn K mg "_law_view_cover" (top 42) ["_law_question_here"]) : Cl P w K mg base 2 "_law_view_cover" (spCover true) := by
  refine cl_of D sc__law_view_cover (fun vs H Q E h => ?_) (fun f cdv A outer s H vs Q E hr h => ?_)
  · obtain ⟨p, q, rfl, _⟩ := h
    rfl
  obtain ⟨p, q, rfl, hp, _, k⟩ := h
  refine ⟨_, (pss_cons (ps_if (pt_cmpR op_eq (pe_ix ix_tup (pv 0) pe_int (fun _ _ => rfl)) pe_str (nomark _)) (pss_one (ps_ret (pe_tup (pa_cons (pe_ix ix_tup (pv 0) pe_int (fun _ _ => rfl)) (pa_cons (pe_ix ix_tup (pv 0) pe_int (fun _ _ => rfl)) pa_nil))))) pss_nil)
      (pss_cons (ps_if (pt_cmpR op_eq (pe_ix ix_tup (pv 0) pe_int (fun _ _ => rfl)) pe_str (nomark _)) (pss_one (ps_ret (pe_tup (pa_cons (pe_ix ix_tup (pv 0) pe_int (fun _ _ => rfl)) (pa_cons (pe_ix ix_tup (pv 0) pe_int (fun _ _ => rfl)) pa_nil))))) pss_nil)
      (pss_one (ps_ret (cl_c c__law_cover_of hr (by decide) (by rfl) (pa_cons (pv 0) pa_nil)))))), ?_⟩
  have fin : ∀ c, H c = none → Q (.ref c) (upd H c (.tup [.str q.cov.1, .str q.cov.2])) := fun c hc => k c _ (Kp.refl.new hc) upd_same
  have other : q.isV = false → tCall (spCover false) [] E0 (tCons (tVar 0) tNil) (start ["_law_question_here"] [V.ref p]) H Q := fun hv => ⟨_, rfl, p, q, rfl, hp, fun _ => hv, k⟩
  cases q with
  | top n a b => exact ⟨_, rfl, p, _, _, _, rfl, rfl, .inl (.inl hp), rfl, rfl, true, (by decide), iteT ⟨_, rfl, p, _, _, _, rfl, rfl, .inl (.inl hp), rfl, _, rfl, p, _, _, _, rfl, rfl, .inl (.inl hp), rfl, (by show 2 ≤ sizeLine; decide), fun c hc => fin c hc⟩⟩
  | whr lo hi a b => exact ⟨_, rfl, p, _, _, _, rfl, rfl, .inl (.inl hp), rfl, rfl, false, (by decide), iteF ⟨_, rfl, p, _, _, _, rfl, rfl, .inl (.inl hp), rfl, rfl, true, (by decide), iteT ⟨_, rfl, p, _, _, _, rfl, rfl, .inl (.inl hp), rfl, _, rfl, p, _, _, _, rfl, rfl, .inl (.inl hp), rfl, (by show 2 ≤ sizeLine; decide), fun c hc => fin c hc⟩⟩⟩
  | get a => exact ⟨_, rfl, p, _, _, _, rfl, rfl, .inl (.inl hp), rfl, rfl, false, (by decide), iteF ⟨_, rfl, p, _, _, _, rfl, rfl, .inl (.inl hp), rfl, rfl, false, (by decide), iteF (other rfl)⟩⟩
  | count a b => exact ⟨_, rfl, p, _, _, _, rfl, rfl, .inl (.inl hp), rfl, rfl, false, (by decide), iteF ⟨_, rfl, p, _, _, _, rfl, rfl, .inl (.inl hp), rfl, rfl, false, (by decide), iteF (other rfl)⟩⟩
  | sum a b => exact ⟨_, rfl, p, _, _, _, rfl, rfl, .inl (.inl hp), rfl, rfl, false, (by decide), iteF ⟨_, rfl, p, _, _, _, rfl, rfl, .inl (.inl hp), rfl, rfl, false, (by decide), iteF (other rfl)⟩⟩
  | list a b => exact ⟨_, rfl, p, _, _, _, rfl, rfl, .inl (.inl hp), rfl, rfl, false, (by decide), iteF ⟨_, rfl, p, _, _, _, rfl, rfl, .inl (.inl hp), rfl, rfl, false, (by decide), iteF (other rfl)⟩⟩
  | least a b => exact ⟨_, rfl, p, _, _, _, rfl, rfl, .inl (.inl hp), rfl, rfl, false, (by decide), iteF ⟨_, rfl, p, _, _, _, rfl, rfl, .inl (.inl hp), rfl, rfl, false, (by decide), iteF (other rfl)⟩⟩
/-! ### a view's question -/
theorem sc__law_view_question : FnScope ["_law_state_here", "_law_first", "_law_last", "_law_kind", "_law_low"] ["_law_state_here"] (defScope (top 41)) := ⟨rfl, rfl, rfl, by decide +kernel, rfl, by decide +kernel, by decide +kernel⟩
theorem c__law_view_question_x (c__law_draw : Cl P w K mg base 3 "_law_draw" spDraw) (c__law_cover : Cl P w K mg base 5 "_law_cover" spCov) (c__law_question : Cl P w K mg base 6 "_law_question" (spQuest false)) (D : DefIn K mg "_law_view_question" (top 41) ["_law_state_here"]) : Cl P w K mg base 7 "_law_view_question" (spQuest true) := by
  refine cl_of D sc__law_view_question (fun vs H Q E h => ?_) (fun f cdv A outer s H vs Q E hr h => ?_)
  · obtain ⟨st, scr, rfl, _⟩ := h
    rfl
  obtain ⟨st, scr, rfl, hst, fin⟩ := h
  refine ⟨_, (pss_cons (ps_asg (cl_c c__law_cover hr (by decide) (by rfl) (pa_cons (pv 0) pa_nil)) (pg_tup (by rfl) (pgs_cons (pg_name (i := 1) sc__law_view_question.nd rfl (Or.inl rfl)) (pgs_cons (pg_name (i := 2) sc__law_view_question.nd rfl (Or.inl rfl)) pgs_nil))))
      (pss_cons (ps_set (i := 3) sc__law_view_question.nd rfl (Or.inl rfl) (cl_c c__law_draw hr (by decide) (by rfl) (pa_cons (pv 0) (pa_cons pe_int pa_nil))))
      (pss_cons (ps_if (pt_cmpR op_eq (pv 3) pe_int (nomark _)) (pss_one (ps_ret (pe_tup (pa_cons pe_str (pa_cons (pe_op op_add pe_int (cl_c c__law_draw hr (by decide) (by rfl) (pa_cons (pv 0) (pa_cons pe_int pa_nil)))) (pa_cons (pv 1) (pa_cons (pv 2) pa_nil))))))) pss_nil)
      (pss_cons (ps_if (pt_cmpR op_eq (pv 3) pe_int (nomark _)) (pss_cons (ps_set (i := 4) sc__law_view_question.nd rfl (Or.inl rfl) (pe_op op_sub (cl_c c__law_draw hr (by decide) (by rfl) (pa_cons (pv 0) (pa_cons pe_int pa_nil))) pe_int))
        (pss_one (ps_ret (pe_tup (pa_cons pe_str (pa_cons (pv 4) (pa_cons (pe_op op_sub (pe_op op_add (pv 4) (cl_c c__law_draw hr (by decide) (by rfl) (pa_cons (pv 0) (pa_cons pe_int pa_nil)))) pe_int) (pa_cons (pv 1) (pa_cons (pv 2) pa_nil))))))))) pss_nil)
      (pss_one (ps_ret (cl_c c__law_question hr (by decide) (by rfl) (pa_cons (pv 0) pa_nil)))))))), ?_⟩
  refine ⟨_, rfl, st, scr, rfl, hst, fun c a b H1 kp1 hst1 hc => ?_⟩
  refine ⟨c, _, rfl, .inl (.inl hc), rfl, _, _, rfl, _, _, rfl, rfl, ?_⟩
  refine ⟨_, rfl, st, scr, 4, rfl, hst1, by decide, by decide, fun v H2 hv k2 hst2 => ?_⟩
  have k12 := kp1.trans k2
  have f3 : ∀ (q : Qu) H3, Kp [st] H2 H3 → StAt H3 st scr → ∀ p, H3 p = none → Q (.ref p) (upd H3 p (.tup q.vals)) := fun q H3 k3 hst3 p hp => fin p q _ (fun z => (by cases z)) ((k12.trans k3).new hp) (hst3.new (Kp.refl.new hp)) upd_same
  refine ⟨_, rfl, rfl, _, rfl, ite2 (fun c0 => ?_) (fun c0 => ?_)⟩
  · refine ⟨_, rfl, st, scr, 9, rfl, hst2, by decide, by decide, fun v3 H3 hv3 k3 hst3 => ?_⟩
    exact ⟨_, _, rfl, rfl, _, rfl, _, rfl, (by show 4 ≤ sizeLine; decide), fun p hp => f3 (.top (1 + v3) a b) H3 k3 hst3 p hp⟩
  · refine ⟨_, rfl, rfl, _, rfl, ite2 (fun c1 => ?_) (fun c1 => ?_)⟩
    · refine ⟨_, rfl, st, scr, 9, rfl, hst2, by decide, by decide, fun v3 H3 hv3 k3 hst3 => ?_⟩
      refine ⟨_, _, rfl, rfl, ?_⟩
      refine ⟨_, rfl, _, rfl, _, rfl, st, scr, 6, rfl, hst3, by decide, by decide, fun v4 H4 hv4 k4 hst4 => ?_⟩
      exact ⟨_, _, rfl, rfl, _, _, rfl, rfl, _, rfl, _, rfl, (by show 5 ≤ sizeLine; decide), fun p hp => f3 (.whr ((v3 : Int) - 4) ((v3 : Int) - 4 + (v4 : Int) - 1) a b) H4 (k3.trans k4) hst4 p hp⟩
    · exact ⟨_, rfl, st, scr, rfl, hst2, fun p q H3 hv3 k3 hst3 hp => fin p q H3 (fun z => (by cases z)) (k12.trans k3) hst3 hp⟩
/-! ### what is asked of a state -/
def spAsk (b : Bool) : Sp := fun vs H Q _ => ∃ (d qa : Addr) (kvs : List (Key × V)) (f : Fn) (q : Qu), vs = [.ref d, .ref qa] ∧ H d = some (.dK kvs) ∧ RepO kvs f ∧ H qa = some (.tup q.vals) ∧ (b = false → q.isV = false) ∧
  ∀ x a H', Kp [] H H' → AnsAt H' x a → IsAns f q a → AnsSz a → Q x H'
theorem row_get {H : Hp} {ts : List Addr} {rs : List Row} (h : RowsAt H ts rs) {i : Nat} {t : Addr} (ht : ts[i]? = some t) : ∃ p, rs[i]? = some p ∧ H t = some (.tup [.str p.1, .int p.2]) := paired_at i t h ht
theorem sc__law_ask : FnScope ["_law_records_here", "_law_question_here", "_law_rows_here", "_law_best", "_law_key_here", "_law_value"] ["_law_records_here", "_law_question_here"] (defScope (top 38)) := ⟨rfl, rfl, rfl, by decide +kernel, rfl, by decide +kernel, by decide +kernel⟩
theorem c__law_ask_x (T : Bl mg) (c__law_rows : Cl P w K mg base 1 "_law_rows" spRows) (c__law_cover_of : Cl P w K mg base 1 "_law_cover_of" (spCover false)) (D : DefIn K mg "_law_ask" (top 38) ["_law_records_here", "_law_question_here"]) : Cl P w K mg base 2 "_law_ask" (spAsk false) := by
  refine cl_of D sc__law_ask (fun vs H Q E h => ?_) (fun f cdv A outer s H vs Q E hr h => ?_)
  · obtain ⟨d, qa, kvs, f, q, rfl, _⟩ := h
    rfl
  obtain ⟨d, qa, kvs, f, q, rfl, hd, R, hq, hv, fin⟩ := h
  have hv := hv rfl
  refine ⟨_, (pss_cons (ps_set (i := 2) sc__law_ask.nd rfl (Or.inl rfl) (cl_c c__law_rows hr (by decide) (by rfl) (pa_cons (pv 0) (pa_cons (cl_c c__law_cover_of hr (by decide) (by rfl) (pa_cons (pv 1) pa_nil)) pa_nil))))
      (pss_cons (ps_if (pt_cmpR op_eq (pe_ix ix_tup (pv 1) pe_int (fun _ _ => rfl)) pe_str (nomark _)) (pss_one (ps_ret (pe_ifExp (pt_cmpR op_gt (pe_callB call_len_seq (by rfl) T.len (by decide +kernel) (pa_cons (pv 2) pa_nil)) pe_int (nomark _)) (pe_ix ix_tup (pe_ix ix_list (pv 2) pe_int (fun _ _ => rfl)) pe_int (fun _ _ => rfl)) pe_non))) pss_nil)
      (pss_cons (ps_if (pt_cmpR op_eq (pe_ix ix_tup (pv 1) pe_int (fun _ _ => rfl)) pe_str (nomark _)) (pss_one (ps_ret (pe_callB call_len_seq (by rfl) T.len (by decide +kernel) (pa_cons (pv 2) pa_nil)))) pss_nil)
      (pss_cons (ps_if (pt_cmpR op_eq (pe_ix ix_tup (pv 1) pe_int (fun _ _ => rfl)) pe_str (nomark _)) (pss_one (ps_ret (pe_callB (cr_sum rfl) (by rfl) T.sum (by decide +kernel) (pa_cons (pe_lc (own := [("_law_key_here", 4), ("_law_value", 5)]) (g := (gTup K 2 (gCons (gName 4) (gCons (gName 5) gNil)))) (tt := tYes) (by rfl) sc__law_ask.nd (pi_list (pv 2)) (blkOk_by (own := [("_law_key_here", 4), ("_law_value", 5)]) (N := ["_law_records_here", "_law_question_here", "_law_rows_here", "_law_best", "_law_key_here", "_law_value"]) (sc := defScope (top 38)) (by decide +kernel)) (fun _ _ _ _ _ => (pg_tup (by rfl) (pgs_cons (pg_name (i := 4) sc__law_ask.nd rfl (Or.inl rfl)) (pgs_cons (pg_name (i := 5) sc__law_ask.nd rfl (Or.inl rfl)) pgs_nil)))) (fun _ _ _ _ _ => pts_nil) (fun _ _ _ _ _ => (pv 5))) pa_nil)))) pss_nil)
      (pss_cons (ps_if (pt_cmpR op_eq (pe_ix ix_tup (pv 1) pe_int (fun _ _ => rfl)) pe_str (nomark _)) (pss_one (ps_ret (pe_callTy call_tuple_of (by rfl) T.tuple (by decide +kernel) (pa_cons (pv 2) pa_nil)))) pss_nil)
      (pss_cons (ps_set (i := 3) sc__law_ask.nd rfl (Or.inl rfl) pe_non)
      (pss_cons (ps_for PassesOwn.never rfl (pi_list (pv 2)) (pg_tup (by rfl) (pgs_cons (pg_name (i := 4) sc__law_ask.nd rfl (Or.inl rfl)) (pgs_cons (pg_name (i := 5) sc__law_ask.nd rfl (Or.inl rfl)) pgs_nil)))
        (pss_one (ps_if (PW.pt (pw_or (pt_cmpR op_isN (pv 3) pe_non (nomark _)) (pw_or1 (pt_cmpR op_lt (pv 5) (pe_ix ix_tup (pv 3) pe_int (fun _ _ => rfl)) (nomark _))))) (pss_one (ps_set (i := 3) sc__law_ask.nd rfl (Or.inl rfl) (pe_tup (pa_cons (pv 4) (pa_cons (pv 5) pa_nil))))) pss_nil)))
      (pss_one (ps_ret (pv 3)))))))))), ?_⟩
  refine ⟨_, rfl, _, rfl, qa, q, rfl, hq, fun _ => hv, fun c H1 k1 hc => ?_⟩
  refine ⟨d, c, q.cov.1, q.cov.2, kvs, f, rfl, k1.k _ _ hd (by simp), R, hc, fun r ts rs H2 k2 hr2 hrs RO few _ => ?_⟩
  have k12 := k1.trans k2
  have hq2 := k12.t _ _ hq
  have lts := Paired.length hrs
  have out : ∀ x H', Kp [] H2 H' → AnsAt H' x (ansOf q rs) → Q x H' := fun x H' kp ha => fin x _ H' (k12.trans kp) ha (isans_of RO) (anssz_of few)
  cases q with
  | top n a b => cases hv
  | whr lo hi a b => cases hv
  | get k =>
    refine ⟨_, rfl, qa, _, _, _, rfl, rfl, .inl (.inl hq2), rfl, rfl, true, (by decide), iteT ?_⟩
    refine ⟨_, rfl, r, _, rfl, .inl (SqL.of hr2), _, _, rfl, rfl, _, rfl, ite2 (fun c0 => ?_) (fun c0 => ?_)⟩
    · cases hrs with
      | nil => exact absurd c0 (by decide)
      | @cons t p ts rs h1 h2 =>
        refine ⟨_, rfl, r, _, 0, .ref t, rfl, rfl, SqL.of hr2, at_of (rfl : (0 : Int) = ((0 : Nat) : Int)) rfl, t, _, 1, .int p.2, rfl, rfl, .inl (.inl h1), rfl, ?_⟩
        exact out _ H2 .refl rfl
    · cases hrs with
      | nil => exact out _ H2 .refl rfl
      | @cons t p ts rs h1 h2 => exact absurd (show decide ((0 : Int) < (((t :: ts).map V.ref).length : Int)) = true from decide_eq_true (by rw [List.length_map, List.length_cons]; omega)) c0
  | count a b =>
    refine ⟨_, rfl, qa, _, _, _, rfl, rfl, .inl (.inl hq2), rfl, rfl, false, (by decide), iteF ?_⟩
    refine ⟨_, rfl, qa, _, _, _, rfl, rfl, .inl (.inl hq2), rfl, rfl, true, (by decide), iteT ?_⟩
    refine ⟨_, rfl, r, _, rfl, .inl (SqL.of hr2), ?_⟩
    rw [List.length_map, lts]
    exact out _ H2 .refl rfl
  | sum a b =>
    refine ⟨_, rfl, qa, _, _, _, rfl, rfl, .inl (.inl hq2), rfl, rfl, false, (by decide), iteF ?_⟩
    refine ⟨_, rfl, qa, _, _, _, rfl, rfl, .inl (.inl hq2), rfl, rfl, false, (by decide), iteF ?_⟩
    refine ⟨_, rfl, qa, _, _, _, rfl, rfl, .inl (.inl hq2), rfl, rfl, true, (by decide), iteT ?_⟩
    refine ⟨_, rfl, r, rfl, ⟨_, SqL.of hr2⟩, fun Dl hD => ?_⟩
    refine ⟨fun i m H' => m = ts.length - i ∧ i ≤ ts.length ∧ Kp [] H2 H' ∧ H' Dl = some (.lst (((rs.take i).map fun p : Row => p.2).map V.int)), ⟨_, rfl, Nat.zero_le _, Kp.refl.new hD, upd_same⟩, fun i m H' W => ?_⟩
    obtain ⟨rfl, hin, k3, hDl⟩ := W
    have hr3 := k3.k _ _ hr2 (by simp)
    by_cases hlt : i < ts.length
    · refine .inr ⟨⟨_, _, SqL.of hr3, by rw [List.getElem?_map, List.getElem?_eq_getElem hlt]; rfl⟩, fun H4 => Kp [] H2 H4 ∧ H4 Dl = some (.lst (((rs.take (i + 1)).map fun p : Row => p.2).map V.int)), fun H4 h => ⟨ts.length - (i + 1), by omega, rfl, hlt, h⟩, fun x H4 y => ?_⟩
      obtain ⟨rfl, y⟩ := y
      have ex := y _ (SqL.of hr3)
      rw [List.getElem?_map, List.getElem?_eq_getElem hlt] at ex
      have ex := Option.some.inj ex
      subst ex
      obtain ⟨p, hp1, hp2⟩ := row_get (hrs.kp k3) (List.getElem?_eq_getElem hlt)
      refine ⟨_, _, rfl, .inl (.inl hp2), rfl, _, _, rfl, _, _, rfl, rfl, rfl, yes_of ?_⟩
      refine ⟨_, rfl, _, hDl, by rw [List.length_map, List.length_map, List.length_take]; exact sm1000 (by omega), ?_⟩
      exact ⟨k3.own hD, by rw [upd_same, List.take_add_one, hp1, List.map_append, List.map_append]; rfl⟩
    · have ei : i = ts.length := by omega
      subst ei
      refine .inl ⟨⟨_, SqL.of hr3, by rw [List.length_map]; exact Nat.le_refl _⟩, ?_⟩
      rw [lts, List.take_length] at hDl
      exact ⟨Dl, _, rfl, SqL.of hDl, out _ H' k3 rfl⟩
  | list a b =>
    refine ⟨_, rfl, qa, _, _, _, rfl, rfl, .inl (.inl hq2), rfl, rfl, false, (by decide), iteF ?_⟩
    refine ⟨_, rfl, qa, _, _, _, rfl, rfl, .inl (.inl hq2), rfl, rfl, false, (by decide), iteF ?_⟩
    refine ⟨_, rfl, qa, _, _, _, rfl, rfl, .inl (.inl hq2), rfl, rfl, false, (by decide), iteF ?_⟩
    refine ⟨_, rfl, qa, _, _, _, rfl, rfl, .inl (.inl hq2), rfl, rfl, true, (by decide), iteT ?_⟩
    refine ⟨_, rfl, r, _, rfl, .inl ⟨SqL.of hr2, fun t ht => ?_⟩⟩
    exact out _ _ (Kp.refl.new ht) ⟨t, ts, rfl, upd_same, RowsAt.kp (Kp.refl.new (F := []) ht) hrs⟩
  | least a b =>
    refine ⟨_, rfl, qa, _, _, _, rfl, rfl, .inl (.inl hq2), rfl, rfl, false, (by decide), iteF ?_⟩
    refine ⟨_, rfl, qa, _, _, _, rfl, rfl, .inl (.inl hq2), rfl, rfl, false, (by decide), iteF ?_⟩
    refine ⟨_, rfl, qa, _, _, _, rfl, rfl, .inl (.inl hq2), rfl, rfl, false, (by decide), iteF ?_⟩
    refine ⟨_, rfl, qa, _, _, _, rfl, rfl, .inl (.inl hq2), rfl, rfl, false, (by decide), iteF ?_⟩
    refine ⟨_, rfl, r, rfl, ⟨_, SqL.of hr2⟩, ?_⟩
    refine for_list (xs := ts.map V.ref) (fun i σ' H' => (∃ x y z, σ' = [some (.ref d), some (.ref qa), some (.ref r), some x, y, z] ∧ AnsAt H' x (match bestOf (rs.take i) with | none => .non | some p => .pair p)) ∧ Kp [] H2 H')
      ⟨⟨_, _, _, rfl, rfl⟩, .refl⟩ (fun i σ' H' _ h => SqL.of (h.2.k _ _ hr2 (by simp))) (fun i x σ' H' hx h => ?_) (fun σ' H' h => ?_)
    · obtain ⟨⟨x0, y0, z0, rfl, hx0⟩, k3⟩ := h
      rw [List.getElem?_map, Option.map_eq_some_iff] at hx
      obtain ⟨t, ht, rfl⟩ := hx
      obtain ⟨p, hp1, hp2⟩ := row_get (hrs.kp k3) ht
      have stp : bestOf (rs.take (i + 1)) = best1 (bestOf (rs.take i)) p := by
        rw [List.take_add_one, hp1]
        exact bestOf_snoc _ _
      rw [stp]
      refine ⟨t, _, rfl, .inl (.inl hp2), rfl, _, _, rfl, _, _, rfl, rfl, ?_⟩
      cases hb : bestOf (rs.take i) with
      | none =>
        rw [hb] at hx0
        have hx0 : x0 = .non := hx0
        subst hx0
        refine ⟨_, rfl, rfl, true, (by decide), iteT ?_⟩
        refine ⟨_, rfl, _, rfl, (by show 2 ≤ sizeLine; decide), fun u hu0 => ?_⟩
        exact ⟨⟨_, _, _, rfl, u, rfl, upd_same⟩, k3.new hu0⟩
      | some q =>
        rw [hb] at hx0
        obtain ⟨u, eu, hu0⟩ := hx0
        subst eu
        refine ⟨_, rfl, rfl, false, rfl, iteF ?_⟩
        refine ⟨_, rfl, _, rfl, u, _, 1, .int q.2, rfl, rfl, .inl (.inl hu0), rfl, _, _, rfl, rfl, _, rfl, ite2 (fun c0 => ?_) (fun c0 => ?_)⟩
        · have c0 : p.2 < q.2 := of_decide_eq_true c0
          have e1 : best1 (some q) p = some p := by
            show (if p.2 < q.2 then some p else some q) = some p
            rw [if_pos c0]
          rw [e1]
          refine ⟨_, rfl, _, rfl, (by show 2 ≤ sizeLine; decide), fun u2 hu2 => ?_⟩
          exact ⟨⟨_, _, _, rfl, u2, rfl, upd_same⟩, k3.new hu2⟩
        · have c0 : ¬ p.2 < q.2 := fun h => c0 (decide_eq_true h)
          have e1 : best1 (some q) p = some q := by
            show (if p.2 < q.2 then some p else some q) = some q
            rw [if_neg c0]
          rw [e1]
          exact ⟨⟨_, _, _, rfl, u, rfl, hu0⟩, k3⟩
    · obtain ⟨⟨x0, y0, z0, rfl, hx0⟩, k3⟩ := h
      rw [List.length_map, lts, List.take_length] at hx0
      exact ⟨_, rfl, out _ H' k3 hx0⟩
end
end LH
/-! The law's answers to a view's questions; when two answers are the same. -/
namespace LH
open PySem PySem.Spec L2
open PyProof.Rows (envOfC)
theorem row_none {H : Hp} {ts : List Addr} {rs : List Row} (h : RowsAt H ts rs) : ts.length = rs.length := Paired.length h
theorem filter_snoc (g : Row → Bool) (rs : List Row) (i : Nat) {p : Row} (h : rs[i]? = some p) : (rs.take (i + 1)).filter g = (rs.take i).filter g ++ (if g p = true then [p] else []) := by
  rw [List.take_add_one, h, List.filter_append]
  congr 1
  show List.filter g [p] = _
  rw [List.filter_cons]
  split <;> rfl
section
variable {P : Program} {w : World} {K : PySem.W.Frag} {mg : Str → Option Value} {base : Heap}
theorem sc__law_ask_view : FnScope ["_law_records_here", "_law_question_here", "_law_rows_here", "_law_ranked", "_law_key_here", "_law_value", "_law_place", "_law_row"] ["_law_records_here", "_law_question_here"] (defScope (top 43)) := ⟨rfl, rfl, rfl, by decide +kernel, rfl, by decide +kernel, by decide +kernel⟩
theorem c__law_ask_view_x (T : Bl mg) (c__law_rows : Cl P w K mg base 1 "_law_rows" spRows) (c__law_view_cover : Cl P w K mg base 2 "_law_view_cover" (spCover true)) (c__law_ask : Cl P w K mg base 2 "_law_ask" (spAsk false)) (D : DefIn K mg "_law_ask_view" (top 43) ["_law_records_here", "_law_question_here"]) : Cl P w K mg base 3 "_law_ask_view" (spAsk true) := by
  refine cl_of D sc__law_ask_view (fun vs H Q E h => ?_) (fun f cdv A outer s H vs Q E hr h => ?_)
  · obtain ⟨d, qa, kvs, f, q, rfl, _⟩ := h
    rfl
  obtain ⟨d, qa, kvs, f, q, rfl, hd, R, hq, _, fin⟩ := h
  refine ⟨_, (pss_cons (ps_set (i := 2) sc__law_ask_view.nd rfl (Or.inl rfl) (cl_c c__law_rows hr (by decide) (by rfl) (pa_cons (pv 0) (pa_cons (cl_c c__law_view_cover hr (by decide) (by rfl) (pa_cons (pv 1) pa_nil)) pa_nil))))
      (pss_cons (ps_if (pt_cmpR op_eq (pe_ix ix_tup (pv 1) pe_int (fun _ _ => rfl)) pe_str (nomark _)) (pss_one (ps_ret (pe_callTy call_tuple_of (by rfl) T.tuple (by decide +kernel) (pa_cons (pe_lc (own := [("_law_row", 7)]) (g := (gName 7)) (tt := (tAnd (tB (tOp (rI0 fun i j => .bl (decide (i ≤ j))) (tOp (rIxT K) (tVar 1) (tC (.int 1))) (tOp (rIxT K) (tVar 7) (tC (.int 1))))) (tB (tOp (rI0 fun i j => .bl (decide (i ≤ j))) (tOp (rIxT K) (tVar 7) (tC (.int 1))) (tOp (rIxT K) (tVar 1) (tC (.int 2))))))) (by rfl) sc__law_ask_view.nd (pi_list (pv 2)) (blkOk_by (own := [("_law_row", 7)]) (N := ["_law_records_here", "_law_question_here", "_law_rows_here", "_law_ranked", "_law_key_here", "_law_value", "_law_place", "_law_row"]) (sc := defScope (top 43)) (by decide +kernel)) (fun _ _ _ _ _ => (pg_name (i := 7) sc__law_ask_view.nd rfl (Or.inl rfl))) (fun _ _ _ _ _ => (pts_one (PW.pt (pw_and (pt_cmpR op_le (pe_ix ix_tup (pv 1) pe_int (fun _ _ => rfl)) (pe_ix ix_tup (pv 7) pe_int (fun _ _ => rfl)) (nomark _)) (pw_and1 (pt_cmpR op_le (pe_ix ix_tup (pv 7) pe_int (fun _ _ => rfl)) (pe_ix ix_tup (pv 1) pe_int (fun _ _ => rfl)) (nomark _))))))) (fun _ _ _ _ _ => (pv 7))) pa_nil)))) pss_nil)
      (pss_cons (ps_if (pt_cmpR op_ne (pe_ix ix_tup (pv 1) pe_int (fun _ _ => rfl)) pe_str (nomark _)) (pss_one (ps_ret (cl_c c__law_ask hr (by decide) (by rfl) (pa_cons (pv 0) (pa_cons (pv 1) pa_nil))))) pss_nil)
      (pss_cons (ps_set (i := 3) sc__law_ask_view.nd rfl (Or.inl rfl) (pe_lst pa_nil))
      (pss_cons (ps_for PassesOwn.never rfl (pi_list (pv 2)) (pg_tup (by rfl) (pgs_cons (pg_name (i := 4) sc__law_ask_view.nd rfl (Or.inl rfl)) (pgs_cons (pg_name (i := 5) sc__law_ask_view.nd rfl (Or.inr rfl)) pgs_nil)))
        (pss_cons (ps_set (i := 6) sc__law_ask_view.nd rfl (Or.inl rfl) (pe_callB call_len_seq (by rfl) T.len (by decide +kernel) (pa_cons (pe_lc (own := [("_law_row", 7)]) (g := (gName 7)) (tt := (tB (tOp (rI0 fun i j => .bl (decide (j ≤ i))) (tOp (rIxT K) (tVar 7) (tC (.int 1))) (tVar 5)))) (by rfl) sc__law_ask_view.nd (pi_list (pv 3)) (blkOk_by (own := [("_law_row", 7)]) (N := ["_law_records_here", "_law_question_here", "_law_rows_here", "_law_ranked", "_law_key_here", "_law_value", "_law_place", "_law_row"]) (sc := defScope (top 43)) (by decide +kernel)) (fun _ _ _ _ _ => (pg_name (i := 7) sc__law_ask_view.nd rfl (Or.inl rfl))) (fun _ _ _ _ _ => (pts_one (pt_cmpR op_ge (pe_ix ix_tup (pv 7) pe_int (fun _ _ => rfl)) (pv 5) (nomark _)))) (fun _ _ _ _ _ => (pv 7))) pa_nil)))
        (pss_one (ps_expr (pe_bm PySem.F.plainAttrs_list PySem.F.slot_list_insert PySem.F.type_list_insert mt_insert (pv 3) (pa_cons (pv 6) (pa_cons (pe_tup (pa_cons (pv 4) (pa_cons (pv 5) pa_nil))) pa_nil)))))))
      (pss_one (ps_ret (pe_callTy call_tuple_of (by rfl) T.tuple (by decide +kernel) (pa_cons (pe_slice sl_list (pv 3) po_none (po_some (pe_ix ix_tup (pv 1) pe_int (fun _ _ => rfl)))) pa_nil))))))))), ?_⟩
  refine ⟨_, rfl, _, rfl, qa, q, rfl, hq, (fun z => by cases z), fun c H1 k1 hc => ?_⟩
  refine ⟨d, c, q.cov.1, q.cov.2, kvs, f, rfl, k1.k _ _ hd (by simp), R, hc, fun r ts rs H2 k2 hr2 hrs RO few _ => ?_⟩
  have k12 := k1.trans k2
  have hq2 := k12.t _ _ hq
  have hd2 := k12.k _ _ hd (by simp)
  have lts := Paired.length hrs
  have out : ∀ x H', Kp [] H2 H' → AnsAt H' x (ansOf q rs) → Q x H' := fun x H' kp ha => fin x _ H' (k12.trans kp) ha (isans_of RO) (anssz_of few)
  have other : q.isV = false → tCall (spAsk false) [] E0 (tCons (tVar 0) (tCons (tVar 1) tNil)) [some (.ref d), some (.ref qa), some (.ref r), none, none, none, none, none] H2 Q := fun hv =>
    ⟨_, rfl, _, rfl, d, qa, kvs, f, q, rfl, hd2, R, hq2, fun _ => hv, fun x a H' kp ha hi hs => fin x a H' (k12.trans kp) ha hi hs⟩
  cases q with
  | get k => exact ⟨_, rfl, qa, _, _, _, rfl, rfl, .inl (.inl hq2), rfl, rfl, false, (by decide), iteF ⟨_, rfl, qa, _, _, _, rfl, rfl, .inl (.inl hq2), rfl, rfl, true, (by decide), iteT (other rfl)⟩⟩
  | count a b => exact ⟨_, rfl, qa, _, _, _, rfl, rfl, .inl (.inl hq2), rfl, rfl, false, (by decide), iteF ⟨_, rfl, qa, _, _, _, rfl, rfl, .inl (.inl hq2), rfl, rfl, true, (by decide), iteT (other rfl)⟩⟩
  | sum a b => exact ⟨_, rfl, qa, _, _, _, rfl, rfl, .inl (.inl hq2), rfl, rfl, false, (by decide), iteF ⟨_, rfl, qa, _, _, _, rfl, rfl, .inl (.inl hq2), rfl, rfl, true, (by decide), iteT (other rfl)⟩⟩
  | list a b => exact ⟨_, rfl, qa, _, _, _, rfl, rfl, .inl (.inl hq2), rfl, rfl, false, (by decide), iteF ⟨_, rfl, qa, _, _, _, rfl, rfl, .inl (.inl hq2), rfl, rfl, true, (by decide), iteT (other rfl)⟩⟩
  | least a b => exact ⟨_, rfl, qa, _, _, _, rfl, rfl, .inl (.inl hq2), rfl, rfl, false, (by decide), iteF ⟨_, rfl, qa, _, _, _, rfl, rfl, .inl (.inl hq2), rfl, rfl, true, (by decide), iteT (other rfl)⟩⟩
  | whr lo hi a b =>
    refine ⟨_, rfl, qa, _, _, _, rfl, rfl, .inl (.inl hq2), rfl, rfl, true, (by decide), iteT ?_⟩
    refine ⟨_, rfl, r, rfl, ⟨_, SqL.of hr2⟩, fun Dl hD => ?_⟩
    refine ⟨fun i m H' => m = ts.length - i ∧ i ≤ ts.length ∧ Kp [] H2 H' ∧ ∃ us : List Addr, H' Dl = some (.lst (us.map V.ref)) ∧ RowsAt H' us ((rs.take i).filter fun r => decide (lo ≤ r.2) && decide (r.2 ≤ hi)), ⟨_, rfl, Nat.zero_le _, Kp.refl.new hD, [], upd_same, .nil⟩, fun i m H' W => ?_⟩
    obtain ⟨rfl, hin, k3, us, hus, hrw⟩ := W
    have hr3 := k3.k _ _ hr2 (by simp)
    by_cases hlt : i < ts.length
    · refine .inr ⟨⟨_, _, SqL.of hr3, by rw [List.getElem?_map, List.getElem?_eq_getElem hlt]; rfl⟩, fun H4 => Kp [] H2 H4 ∧ ∃ us : List Addr, H4 Dl = some (.lst (us.map V.ref)) ∧ RowsAt H4 us ((rs.take (i + 1)).filter fun r => decide (lo ≤ r.2) && decide (r.2 ≤ hi)), fun H4 h => ⟨ts.length - (i + 1), by omega, rfl, hlt, h⟩, fun x H4 y => ?_⟩
      obtain ⟨rfl, y⟩ := y
      have ex := y _ (SqL.of hr3)
      rw [List.getElem?_map, List.getElem?_eq_getElem hlt] at ex
      have ex := Option.some.inj ex
      subst ex
      obtain ⟨p, hp1, hp2⟩ := row_get (hrs.kp k3) (List.getElem?_eq_getElem hlt)
      have hq4 := k3.t _ _ hq2
      rw [filter_snoc _ _ _ hp1]
      have no : (decide (lo ≤ p.2) && decide (p.2 ≤ hi)) = false → Kp [] H2 H4 ∧ ∃ us : List Addr, H4 Dl = some (.lst (us.map V.ref)) ∧ RowsAt H4 us (((rs.take i).filter fun r => decide (lo ≤ r.2) && decide (r.2 ≤ hi)) ++ (if (decide (lo ≤ p.2) && decide (p.2 ≤ hi)) = true then [p] else [])) := fun e => by
        rw [e, if_neg (by decide), List.append_nil]
        exact ⟨k3, us, hus, hrw⟩
      refine ⟨rfl, ?_⟩
      refine ⟨_, rfl, qa, _, 1, .int lo, rfl, rfl, .inl (.inl hq4), rfl, _, rfl, _, _, 1, .int p.2, rfl, rfl, .inl (.inl hp2), rfl, _, _, rfl, rfl, _, rfl, ite2 (fun c1 => ?_) (fun c1 => ?_)⟩
      · refine ⟨_, rfl, _, _, 1, .int p.2, rfl, rfl, .inl (.inl hp2), rfl, _, rfl, qa, _, 2, .int hi, rfl, rfl, .inl (.inl hq4), rfl, _, _, rfl, rfl, _, rfl, ite2 (fun c2 => ?_) (fun c2 => ?_)⟩
        · have e : (decide (lo ≤ p.2) && decide (p.2 ≤ hi)) = true := by rw [show decide (lo ≤ p.2) = true from c1, show decide (p.2 ≤ hi) = true from c2]; rfl
          have lus := Paired.length hrw
          have lfl := List.length_filter_le (fun r : Row => decide (lo ≤ r.2) && decide (r.2 ≤ hi)) (rs.take i)
          rw [List.length_take] at lfl
          refine ⟨_, rfl, _, hus, by rw [List.length_map, lus]; exact sm1000 (by omega), ?_⟩
          have k4 : Kp [Dl] H4 (upd H4 Dl (.lst (us.map V.ref ++ [V.ref ts[i]]))) := Kp.refl.mut (by simp) hus (by intro xs z; cases z)
          rw [e, if_pos rfl]
          exact ⟨k3.own hD, us ++ [ts[i]], by rw [upd_same, List.map_append]; rfl, pr_append (RowsAt.kp k4 hrw) (.cons (k4.t _ _ hp2) .nil)⟩
        · exact no (by rw [show decide (p.2 ≤ hi) = false from Bool.eq_false_iff.mpr c2]; exact Bool.and_false _)
      · exact no (by rw [show decide (lo ≤ p.2) = false from Bool.eq_false_iff.mpr c1]; rfl)
    · have ei : i = ts.length := by omega
      subst ei
      refine .inl ⟨⟨_, SqL.of hr3, by rw [List.length_map]; exact Nat.le_refl _⟩, ?_⟩
      rw [lts, List.take_length] at hrw
      exact ⟨Dl, _, rfl, .inl ⟨SqL.of hus, fun t ht => out _ _ (k3.new ht) ⟨t, us, rfl, upd_same, RowsAt.kp (Kp.refl.new (F := []) ht) hrw⟩⟩⟩
  | top n a b =>
    refine ⟨_, rfl, qa, _, _, _, rfl, rfl, .inl (.inl hq2), rfl, rfl, false, (by decide), iteF ?_⟩
    refine ⟨_, rfl, qa, _, _, _, rfl, rfl, .inl (.inl hq2), rfl, rfl, false, (by decide), iteF ?_⟩
    refine ⟨Nat.zero_le _, fun l hl => ?_⟩
    have kl : Kp [] H2 (upd H2 l (.lst [])) := Kp.refl.new hl
    have nrl : r ≠ l := ne_of_none hr2 hl
    refine ⟨_, rfl, r, rfl, ⟨_, SqL.of (kl.k _ _ hr2 (by simp))⟩, ?_⟩
    refine for_list (xs := ts.map V.ref) (fun i σ' H' => (∃ x y z, σ' = [some (.ref d), some (.ref qa), some (.ref r), some (.ref l), x, y, z, none]) ∧ Kp [] H2 H' ∧ ∃ us : List Addr, H' l = some (.lst (us.map V.ref)) ∧ RowsAt H' us (rankOf (rs.take i)))
      ⟨⟨_, _, _, rfl⟩, kl, [], upd_same, .nil⟩ (fun i σ' H' _ h => SqL.of (h.2.1.k _ _ hr2 (by simp))) (fun i x σ' H' hx h => ?_) (fun σ' H' h => ?_)
    · obtain ⟨⟨x0, y0, z0, rfl⟩, k3, us, hus, hrw⟩ := h
      rw [List.getElem?_map, Option.map_eq_some_iff] at hx
      obtain ⟨t, ht, rfl⟩ := hx
      obtain ⟨p, hp1, hp2⟩ := row_get (hrs.kp k3) ht
      have stp : rankOf (rs.take (i + 1)) = rank1 (rankOf (rs.take i)) p := by
        rw [List.take_add_one, hp1]
        exact rankOf_snoc _ _
      have lrk := rank_len (rs.take i)
      rw [List.length_take] at lrk
      rw [stp]
      generalize rankOf (rs.take i) = rk at hrw lrk ⊢
      have lus := Paired.length hrw
      refine ⟨t, _, rfl, .inl (.inl hp2), rfl, _, _, rfl, _, _, rfl, rfl, ?_⟩
      refine ⟨_, rfl, l, rfl, ⟨_, SqL.of hus⟩, fun D2 hD2 => ?_⟩
      refine ⟨fun j m H4 => m = us.length - j ∧ j ≤ us.length ∧ Kp [] H' H4 ∧ ∃ xs : List V, H4 D2 = some (.lst xs) ∧ xs.length = ((rk.take j).filter fun r => decide (p.2 ≤ r.2)).length, ⟨_, rfl, Nat.zero_le _, Kp.refl.new hD2, [], upd_same, rfl⟩, fun j m H4 W => ?_⟩
      obtain ⟨rfl, hjn, k4, xs, hxs, lxs⟩ := W
      have hl4 := k4.k _ _ hus (by simp)
      by_cases hlt : j < us.length
      · refine .inr ⟨⟨_, _, SqL.of hl4, by rw [List.getElem?_map, List.getElem?_eq_getElem hlt]; rfl⟩, fun H5 => Kp [] H' H5 ∧ ∃ xs : List V, H5 D2 = some (.lst xs) ∧ xs.length = ((rk.take (j + 1)).filter fun r => decide (p.2 ≤ r.2)).length, fun H5 h => ⟨us.length - (j + 1), by omega, rfl, hlt, h⟩, fun x H5 y => ?_⟩
        obtain ⟨rfl, y⟩ := y
        have ex := y _ (SqL.of hl4)
        rw [List.getElem?_map, List.getElem?_eq_getElem hlt] at ex
        have ex := Option.some.inj ex
        subst ex
        obtain ⟨g, hg1, hg2⟩ := row_get (hrw.kp k4) (List.getElem?_eq_getElem hlt)
        rw [filter_snoc _ _ _ hg1]
        refine ⟨rfl, ?_⟩
        refine ⟨_, rfl, _, _, 1, .int g.2, rfl, rfl, .inl (.inl hg2), rfl, _, rfl, _, _, rfl, rfl, _, rfl, ite2 (fun c1 => ?_) (fun c1 => ?_)⟩
        · have e : decide (p.2 ≤ g.2) = true := c1
          have lfl := List.length_filter_le (fun r : Row => decide (p.2 ≤ r.2)) (rk.take j)
          rw [List.length_take] at lfl
          refine ⟨_, rfl, _, hxs, by rw [lxs]; exact sm1000 (by omega), ?_⟩
          rw [e, if_pos rfl]
          exact ⟨k4.own hD2, _, upd_same, by rw [List.length_append, List.length_append, lxs]; rfl⟩
        · have e : decide (p.2 ≤ g.2) = false := Bool.eq_false_iff.mpr c1
          rw [e, if_neg (by decide), List.append_nil]
          exact ⟨k4, xs, hxs, lxs⟩
      · have ej : j = us.length := by omega
        subst ej
        refine .inl ⟨⟨_, SqL.of hl4, by rw [List.length_map]; exact Nat.le_refl _⟩, ?_⟩
        rw [lus, List.take_length] at lxs
        have lfl := List.length_filter_le (fun r : Row => decide (p.2 ≤ r.2)) rk
        refine ⟨D2, _, rfl, .inl (SqL.of hxs), ?_⟩
        rw [lxs]
        refine ⟨_, rfl, .inl ⟨rfl, _, SqL.of hl4⟩, _, rfl, _, rfl, _, rfl, (by show 2 ≤ sizeLine; decide), fun u hu0 => ?_⟩
        have nlu : l ≠ u := ne_of_none hl4 hu0
        have hl5 : (upd H4 u (.tup [.str p.1, .int p.2])) l = some (.lst (us.map V.ref)) := by rw [upd_ne nlu]; exact hl4
        refine ⟨l, _, (((rk.filter fun r => decide (p.2 ≤ r.2)).length : Nat) : Int), .ref u, rfl, rfl, hl5, by rw [List.length_map, lus]; exact sm1000 (by omega), by omega, by omega, ?_⟩
        have k6 : Kp [l] H4 (upd (upd H4 u (.tup [.str p.1, .int p.2])) l (.lst ((us.map V.ref).take (rk.filter fun r => decide (p.2 ≤ r.2)).length ++ [V.ref u] ++ (us.map V.ref).drop (rk.filter fun r => decide (p.2 ≤ r.2)).length))) := (Kp.refl.new hu0).mut (by simp) hl5 (by intro xs z; cases z)
        refine ⟨⟨_, _, _, rfl⟩, ((k3.trans k4).new hu0).own hl, us.take (rk.filter fun r => decide (p.2 ≤ r.2)).length ++ [u] ++ us.drop (rk.filter fun r => decide (p.2 ≤ r.2)).length, ?_, ?_⟩
        · rw [upd_same, List.map_append, List.map_append, List.map_take, List.map_drop]
          rfl
        · have hrw4 := RowsAt.kp k6 (hrw.kp k4)
          exact pr_append (pr_append (pr_take _ hrw4) (.cons (by rw [upd_ne nlu.symm]; exact upd_same) .nil)) (pr_drop _ hrw4)
    · obtain ⟨⟨x0, y0, z0, rfl⟩, k3, us, hus, hrw⟩ := h
      rw [List.length_map, lts, List.take_length] at hrw
      have hq4 := k3.t _ _ hq2
      refine ⟨_, rfl, _, rfl, qa, _, 1, .int n, rfl, rfl, .inl (.inl hq4), rfl, n, rfl, l, _, rfl, SqL.of hus, fun u hu0 => ?_⟩
      rw [cut_head, ← List.map_take]
      refine ⟨u, _, rfl, .inl ⟨SqL.of upd_same, fun t ht => ?_⟩⟩
      have k5 : Kp [] H' (upd (upd H' u (.lst ((us.take n).map V.ref))) t (.tup ((us.take n).map V.ref))) := (Kp.refl.new hu0).new ht
      exact out _ _ (k3.trans k5) ⟨t, us.take n, rfl, upd_same, pr_take n (RowsAt.kp k5 hrw)⟩
/-! ### the same -/
def spTells : Sp := fun vs H Q _ => ∃ a b : Bool, vs = [.bl a, .bl b] ∧ Q (.bl (decide (a = b))) H
theorem sc__law_tells : FnScope ["_law_actual", "_law_due"] ["_law_actual", "_law_due"] (defScope (top 29)) := ⟨rfl, rfl, rfl, by decide +kernel, rfl, by decide +kernel, by decide +kernel⟩
theorem c__law_tells_x (D : DefIn K mg "_law_tells" (top 29) ["_law_actual", "_law_due"]) : Cl P w K mg base 1 "_law_tells" spTells := by
  refine cl_of D sc__law_tells (fun vs H Q E h => ?_) (fun f cdv A outer s H vs Q E hr h => ?_)
  · obtain ⟨a, b, rfl, _⟩ := h
    rfl
  obtain ⟨a, b, rfl, fin⟩ := h
  refine ⟨_, (pss_cons (ps_if (pt_val (pv 1)) (pss_one (ps_ret (pe_cmpR op_isBl (pv 0) pe_bl (nomark _)))) pss_nil)
      (pss_one (ps_ret (pe_cmpR op_isBl (pv 0) pe_bl (nomark _))))), ?_⟩
  cases b with
  | true => exact ⟨_, rfl, true, rfl, iteT ⟨_, rfl, _, _, rfl, rfl, fin⟩⟩
  | false => exact ⟨_, rfl, false, rfl, iteF ⟨_, rfl, _, _, rfl, rfl, fin⟩⟩
def spIsInt : Sp := fun vs H Q _ => ∃ i : Int, vs = [.int i] ∧ Q (.bl true) H
theorem sc__law_is_integer : FnScope ["_law_actual"] ["_law_actual"] (defScope (top 28)) := ⟨rfl, rfl, rfl, by decide +kernel, rfl, by decide +kernel, by decide +kernel⟩
theorem c__law_is_integer_x (T : Bl mg) (D : DefIn K mg "_law_is_integer" (top 28) ["_law_actual"]) : Cl P w K mg base 1 "_law_is_integer" spIsInt := by
  refine cl_of D sc__law_is_integer (fun vs H Q E h => ?_) (fun f cdv A outer s H vs Q E hr h => ?_)
  · obtain ⟨i, rfl, _⟩ := h
    rfl
  obtain ⟨i, rfl, fin⟩ := h
  refine ⟨_, (pss_one (ps_ret (pe_and (pe_callB call_isi (by rfl) T.isinstance (by decide +kernel) (pa_cons (pv 0) (pa_cons (pe_bltn (v := .ty "int") (u := .type "int") (by rfl) T.int (by decide +kernel) rfl) pa_nil))) (pe_one (pe_not (pe_callB call_isi (by rfl) T.isinstance (by decide +kernel) (pa_cons (pv 0) (pa_cons (pe_bltn (v := .ty "bool") (u := .type "bool") (by rfl) T.bool (by decide +kernel) rfl) pa_nil)))))))), ?_⟩
  exact ⟨_, rfl, _, _, _, _, true, rfl, .ty _, .base (.int i), rfl, true, rfl, iteT ⟨_, rfl, _, _, _, _, false, rfl, .ty _, .base (.int i), rfl, false, rfl, fin⟩⟩
/-- plain values that are the same -/
def Plain1 (x y : V) : Prop := (x = .non ∧ y = .non) ∨ (∃ i, x = .int i ∧ y = .int i) ∨ ∃ s, x = .str s ∧ y = .str s
/-- plain, or tuples whose items are as R says -/
def Lift (R : Hp → V → V → Prop) (H : Hp) (x y : V) : Prop := Plain1 x y ∨ ∃ (a b : Addr) (xs ys : List V), x = .ref a ∧ y = .ref b ∧ H a = some (.tup xs) ∧ H b = some (.tup ys) ∧ xs.length = ys.length ∧ xs.length ≤ 100 ∧ ∀ (i : Nat) (u v : V), xs[i]? = some u → ys[i]? = some v → R H u v
def KpR (R : Hp → V → V → Prop) : Prop := ∀ H H' x y, Kp [] H H' → R H x y → R H' x y
theorem kpr_no : KpR fun _ _ _ => False := fun _ _ _ _ _ h => h
theorem kpr_lift {R : Hp → V → V → Prop} (h : KpR R) : KpR (Lift R) := fun H H' x y k h1 => by
  rcases h1 with h1 | ⟨a, b, xs, ys, e1, e2, h1, h2, h3, h4, h5⟩
  · exact .inl h1
  · exact .inr ⟨a, b, xs, ys, e1, e2, k.t _ _ h1, k.t _ _ h2, h3, h4, fun i u v p q => h _ _ _ _ k (h5 i u v p q)⟩
def spSame (R : Hp → V → V → Prop) : Sp := fun vs H Q _ => ∃ x y : V, vs = [x, y] ∧ R H x y ∧ ∀ H', Kp [] H H' → Q (.bl true) H'
theorem sc__law_same : FnScope ["_law_actual", "_law_expected", "_law_k"] ["_law_actual", "_law_expected"] (defScope (top 39)) := ⟨rfl, rfl, rfl, by decide +kernel, rfl, by decide +kernel, by decide +kernel⟩
theorem c__law_same_x {R : Hp → V → V → Prop} {k : Nat} (hR : KpR R) (hk : 1 ≤ k) (T : Bl mg) (c__law_tells : Cl P w K mg base 1 "_law_tells" spTells) (c__law_is_integer : Cl P w K mg base 1 "_law_is_integer" spIsInt) (c__law_same : Cl P w K mg base k "_law_same" (spSame R)) (D : DefIn K mg "_law_same" (top 39) ["_law_actual", "_law_expected"]) :
    Cl P w K mg base (k + 1) "_law_same" (spSame (Lift R)) := by
  refine cl_of D sc__law_same (fun vs H Q E h => ?_) (fun f cdv A outer s H vs Q E hr h => ?_)
  · obtain ⟨x, y, rfl, _⟩ := h
    rfl
  obtain ⟨x, y, rfl, h, fin⟩ := h
  refine ⟨_, (pss_cons (ps_if (pt_val (pe_callB call_isiT (by rfl) T.isinstance (by decide +kernel) (pa_cons (pv 1) (pa_cons (pe_tup (pa_cons (pe_bltn (v := .ty "tuple") (u := .type "tuple") (by rfl) T.tuple (by decide +kernel) rfl) (pa_cons (pe_bltn (v := .ty "list") (u := .type "list") (by rfl) T.list (by decide +kernel) rfl) pa_nil))) pa_nil)))) (pss_cons (ps_if (PW.pt (pw_or (pt_not (pt_val (cl_c c__law_tells hr (by omega) (by rfl) (pa_cons (pe_callB call_isi (by rfl) T.isinstance (by decide +kernel) (pa_cons (pv 0) (pa_cons (pe_bltn (v := .ty "tuple") (u := .type "tuple") (by rfl) T.tuple (by decide +kernel) rfl) pa_nil))) (pa_cons (pe_callB call_isi (by rfl) T.isinstance (by decide +kernel) (pa_cons (pv 1) (pa_cons (pe_bltn (v := .ty "tuple") (u := .type "tuple") (by rfl) T.tuple (by decide +kernel) rfl) pa_nil))) pa_nil))))) (pw_or1 (pt_not (pt_val (pe_callB call_isiT (by rfl) T.isinstance (by decide +kernel) (pa_cons (pv 0) (pa_cons (pe_tup (pa_cons (pe_bltn (v := .ty "tuple") (u := .type "tuple") (by rfl) T.tuple (by decide +kernel) rfl) (pa_cons (pe_bltn (v := .ty "list") (u := .type "list") (by rfl) T.list (by decide +kernel) rfl) pa_nil))) pa_nil)))))))) (pss_one (ps_ret pe_bl)) pss_nil)
        (pss_cons (ps_if (pt_cmpR op_ne (pe_callB call_len_seq (by rfl) T.len (by decide +kernel) (pa_cons (pv 0) pa_nil)) (pe_callB call_len_seq (by rfl) T.len (by decide +kernel) (pa_cons (pv 1) pa_nil)) (nomark _)) (pss_one (ps_ret pe_bl)) pss_nil)
        (pss_cons (ps_for PassesOwn.never rfl (pi_range1 (by rfl) T.range (pa_cons (pe_callB call_len_seq (by rfl) T.len (by decide +kernel) (pa_cons (pv 1) pa_nil)) pa_nil)) (pg_name (i := 2) sc__law_same.nd rfl (Or.inl rfl))
          (pss_one (ps_if (pt_not (pt_val (cl_c c__law_same hr (by omega) (by rfl) (pa_cons (pe_ix ix_tup (pv 0) (pv 2) (fun _ _ => rfl)) (pa_cons (pe_ix ix_tup (pv 1) (pv 2) (fun _ _ => rfl)) pa_nil))))) (pss_one (ps_ret pe_bl)) pss_nil)))
        (pss_one (ps_ret pe_bl))))) pss_nil)
      (pss_cons (ps_if (pt_cmpR op_isN (pv 1) pe_non (nomark _)) (pss_one (ps_ret (pe_cmpR op_isN (pv 0) pe_non (nomark _)))) pss_nil)
      (pss_cons (ps_if (pt_val (pe_callB call_isi (by rfl) T.isinstance (by decide +kernel) (pa_cons (pv 1) (pa_cons (pe_bltn (v := .ty "str") (u := .type "str") (by rfl) T.str (by decide +kernel) rfl) pa_nil)))) (pss_one (ps_ret (pe_and (pe_callB call_isi (by rfl) T.isinstance (by decide +kernel) (pa_cons (pv 0) (pa_cons (pe_bltn (v := .ty "str") (u := .type "str") (by rfl) T.str (by decide +kernel) rfl) pa_nil))) (pe_one (pe_cmpR op_eq (pv 0) (pv 1) (nomark _)))))) pss_nil)
      (pss_one (ps_ret (pe_and (cl_c c__law_is_integer hr (by omega) (by rfl) (pa_cons (pv 0) pa_nil)) (pe_one (pe_cmpR op_eq (pv 0) (pv 1) (nomark _))))))))), ?_⟩
  rcases h with h | ⟨a, b, xs, ys, rfl, rfl, ha, hb, len, hun, hel⟩
  · rcases h with ⟨rfl, rfl⟩ | ⟨i, rfl, rfl⟩ | ⟨z, rfl, rfl⟩
    · refine ⟨_, rfl, (by show 2 ≤ sizeLine; decide), fun p hp => ⟨_, p, _, _, [.type "tuple", .type "list"], false, rfl, upd_same, .cons (.ty _) (.cons (.ty _) .nil), .base .non, rfl, false, rfl, iteF ?_⟩⟩
      exact ⟨_, rfl, rfl, true, (by decide), iteT ⟨_, rfl, rfl, fin _ (Kp.refl.new hp)⟩⟩
    · refine ⟨_, rfl, (by show 2 ≤ sizeLine; decide), fun p hp => ⟨_, p, _, _, [.type "tuple", .type "list"], false, rfl, upd_same, .cons (.ty _) (.cons (.ty _) .nil), .base (.int i), rfl, false, rfl, iteF ?_⟩⟩
      refine ⟨_, rfl, rfl, false, rfl, iteF ?_⟩
      refine ⟨_, rfl, _, _, _, _, false, rfl, .ty _, .base (.int i), rfl, false, rfl, iteF ?_⟩
      refine ⟨_, rfl, i, rfl, true, rfl, iteT ⟨_, rfl, _, rfl, rfl, ?_⟩⟩
      rw [decide_eq_true rfl]
      exact fin _ (Kp.refl.new hp)
    · refine ⟨_, rfl, (by show 2 ≤ sizeLine; decide), fun p hp => ⟨_, p, _, _, [.type "tuple", .type "list"], false, rfl, upd_same, .cons (.ty _) (.cons (.ty _) .nil), .base (.str z), rfl, false, rfl, iteF ?_⟩⟩
      refine ⟨_, rfl, rfl, false, rfl, iteF ?_⟩
      refine ⟨_, rfl, _, _, _, _, true, rfl, .ty _, .base (.str z), rfl, true, rfl, iteT ?_⟩
      refine ⟨_, rfl, _, _, _, _, true, rfl, .ty _, .base (.str z), rfl, true, rfl, iteT ⟨_, rfl, _, rfl, rfl, ?_⟩⟩
      rw [decide_eq_true rfl]
      exact fin _ (Kp.refl.new hp)
  · refine ⟨_, rfl, (by show 2 ≤ sizeLine; decide), fun p hp => ⟨_, p, _, _, [.type "tuple", .type "list"], true, rfl, upd_same, .cons (.ty _) (.cons (.ty _) .nil), .base (.tup ((Kp.refl.new (F := []) hp).t _ _ hb)), rfl, true, rfl, iteT ?_⟩⟩
    have k1 : Kp [] H (upd H p (.tup [.ty "tuple", .ty "list"])) := Kp.refl.new hp
    generalize upd H p (.tup [.ty "tuple", .ty "list"]) = H1 at k1 ⊢
    have ha1 := k1.t _ _ ha
    have hb1 := k1.t _ _ hb
    refine ⟨_, rfl, _, _, _, _, true, rfl, .ty _, .base (.tup ha1), rfl, _, rfl, _, _, _, _, true, rfl, .ty _, .base (.tup hb1), rfl, true, true, rfl, true, rfl, ?_⟩
    refine ⟨_, rfl, (by show 2 ≤ sizeLine; decide), fun p2 hp2 => ⟨_, p2, _, _, [.type "tuple", .type "list"], true, rfl, upd_same, .cons (.ty _) (.cons (.ty _) .nil), .base (.tup ((Kp.refl.new (F := []) hp2).t _ _ ha1)), rfl, true, rfl, ?_⟩⟩
    have k2 : Kp [] H (upd H1 p2 (.tup [.ty "tuple", .ty "list"])) := k1.new hp2
    generalize upd H1 p2 (.tup [.ty "tuple", .ty "list"]) = H2 at k2 ⊢
    have ha2 := k2.t _ _ ha
    have hb2 := k2.t _ _ hb
    refine ⟨_, rfl, a, xs, rfl, .inr (.inl (.inl ha2)), _, rfl, b, ys, rfl, .inr (.inl (.inl hb2)), rfl, false, (by rw [len, decide_eq_true rfl]; rfl), iteF ?_⟩
    refine ⟨_, rfl, b, ys, rfl, .inr (.inl (.inl hb2)), (ys.length : Int), rfl, by omega, by omega, for_range (lo := 0) (n := ((ys.length : Int)).toNat) (fun i σ' H' => (∃ x : Option V, σ' = [some (.ref a), some (.ref b), x]) ∧ Kp [] H H') ⟨⟨_, rfl⟩, k2⟩ (fun i σ' H' hi h => ?_) (fun σ' H' h => ?_)⟩
    · obtain ⟨⟨x0, rfl⟩, k3⟩ := h
      have hi : i < ys.length := by omega
      have hx : i < xs.length := by omega
      have hr0 : R H' xs[i] ys[i] := hR _ _ _ _ k3 (hel i _ _ (List.getElem?_eq_getElem hx) (List.getElem?_eq_getElem hi))
      refine ⟨_, rfl, _, rfl, a, xs, _, xs[i], rfl, rfl, .inl (.inl (k3.t _ _ ha)), at_of (Int.zero_add _) (List.getElem?_eq_getElem hx), _, rfl, _, rfl, b, ys, _, ys[i], rfl, rfl, .inl (.inl (k3.t _ _ hb)), at_of (Int.zero_add _) (List.getElem?_eq_getElem hi), _, _, rfl, hr0, fun H4 k4 => ⟨true, rfl, ?_⟩⟩
      exact ⟨⟨_, rfl⟩, k3.trans k4⟩
    · exact fin H' h.2
theorem pair_same {R : Hp → V → V → Prop} {H : Hp} {a b : Addr} {p : Row} (ha : H a = some (.tup [.str p.1, .int p.2])) (hb : H b = some (.tup [.str p.1, .int p.2])) : Lift (Lift R) H (.ref a) (.ref b) :=
  .inr ⟨a, b, _, _, rfl, rfl, ha, hb, rfl, (by show 2 ≤ 100; decide), fun i u v h1 h2 => .inl (by
    match i, h1, h2 with
    | 0, h1, h2 => cases h1; cases h2; exact .inr (.inr ⟨_, rfl, rfl⟩)
    | 1, h1, h2 => cases h1; cases h2; exact .inr (.inl ⟨_, rfl, rfl⟩)
    | n + 2, h1, h2 => cases h1)⟩
theorem ans_same {R : Hp → V → V → Prop} {H : Hp} {x y : V} {a : Ans} (hx : AnsAt H x a) (hy : AnsAt H y a) (hz : AnsSz a) : Lift (Lift (Lift R)) H x y := by
  cases a with
  | non => exact .inl (.inl ⟨hx, hy⟩)
  | int i => exact .inl (.inr (.inl ⟨i, hx, hy⟩))
  | pair p =>
    obtain ⟨t, rfl, ht⟩ := hx
    obtain ⟨u, rfl, hu⟩ := hy
    exact pair_same (R := Lift R) ht hu
  | rows rs =>
    obtain ⟨t, ts, rfl, ht, hts⟩ := hx
    obtain ⟨u, us, rfl, hu, hus⟩ := hy
    have l1 := Paired.length hts
    have l2 := Paired.length hus
    have hz : rs.length ≤ 12 := hz
    refine .inr ⟨t, u, _, _, rfl, rfl, ht, hu, by rw [List.length_map, List.length_map, l1, l2], by rw [List.length_map, l1]; omega, fun i v v' h1 h2 => ?_⟩
    rw [List.getElem?_map, Option.map_eq_some_iff] at h1 h2
    obtain ⟨t1, e1, rfl⟩ := h1
    obtain ⟨u1, e2, rfl⟩ := h2
    obtain ⟨p, hp1, hp2⟩ := row_get hts e1
    obtain ⟨p', hp3, hp4⟩ := row_get hus e2
    rw [hp1] at hp3
    cases hp3
    exact pair_same (R := R) hp2 hp4
end
end LH
/-! The law looks at the board. -/
namespace LH
open PySem PySem.Spec L2
open PyProof.Rows (envOfC)
theorem all_keys : ∀ k, KOk k → inC ("", "zzzzzzzz") k = true := by
  have h : ∀ k ∈ keys12, inC ("", "zzzzzzzz") k = true := by decide
  exact h
theorem keys_so : keys12.Pairwise fun a b => klt a b = true := by decide
theorem rows_ex {f : Fn} (h : OkF f) (c : Cov) : ∃ rs, RowsOf f c rs := by
  refine ⟨keys12.filterMap fun k => if inC c k = true then (f k).map fun v => (k, v) else none, ?_, fun k v => ?_⟩
  · rw [List.pairwise_filterMap]
    refine keys_so.imp fun {a b} hab p hp q hq => ?_
    split at hp
    · split at hq
      · obtain ⟨v, _, rfl⟩ := Option.map_eq_some_iff.mp hp
        obtain ⟨v', _, rfl⟩ := Option.map_eq_some_iff.mp hq
        exact hab
      · cases hq
    · cases hp
  · rw [List.mem_filterMap]
    constructor
    · rintro ⟨x, _, e⟩
      split at e
      · rename_i hc
        obtain ⟨v', hv, ev⟩ := Option.map_eq_some_iff.mp e
        rw [Prod.mk.injEq] at ev
        rw [← ev.1, ← ev.2]
        exact ⟨hv, hc⟩
      · cases e
    · rintro ⟨h1, h2⟩
      exact ⟨k, h k v h1, by rw [if_pos h2, h1]; rfl⟩
theorem isans_one {f : Fn} {q : Qu} {a b : Ans} (h : OkF f) (ha : IsAns f q a) (hb : IsAns f q b) : a = b := by
  obtain ⟨rs, R⟩ := rows_ex h q.cov
  rw [ha rs R, hb rs R]
theorem ints_eqv : ∀ ns : List Int, PyData.eqvAll (ns.map PyData.int) (ns.map PyData.int) = true
  | [] => rfl
  | n :: r => by
    show (n == n && PyData.eqvAll (r.map PyData.int) (r.map PyData.int)) = true
    rw [ints_eqv r]
    simp
theorem ints_lay : ∀ ns : List Int, PyData.canLayAll0 (ns.map PyData.int) = true
  | [] => rfl
  | n :: r => by
    show (true && PyData.canLayAll0 (r.map PyData.int)) = true
    rw [ints_lay r]
    rfl
theorem ints_dp : ∀ ns : List Int, PyData.depthAll (ns.map PyData.int) = 0
  | [] => rfl
  | n :: r => by
    show max 0 (PyData.depthAll (r.map PyData.int)) = 0
    rw [ints_dp r]
    rfl
theorem ints_shaped (ns : List Int) : SeqAt.shaped (.list (ns.map PyData.int)) = true := by
  show (PyData.canLayAll0 (ns.map PyData.int) && decide (PyData.depthAll (ns.map PyData.int) + 1 ≤ 64)) = true
  rw [ints_lay, ints_dp]
  rfl
theorem ints_all {K : PySem.W.Frag} {H : Hp} : ∀ ns : List Int, DpAll K H (ns.map V.int) (ns.map PyData.int)
  | [] => .nil
  | n :: r => .cons (.int n) (ints_all r)
theorem kp_lock {H H' : Hp} {d : Addr} {u : HO} {od : Obj} (hd : H d = some u) (nt : ∀ xs, u ≠ .tup xs) (k : Kp [] (upd H d (.frz od u)) H') : Kp [] H (upd H' d u) := by
  have e : upd H' d u = upd H' d u := rfl
  have hd' : H' d = some (.frz od u) := k.k _ _ upd_same (by simp)
  refine ⟨fun a o h _ => ?_, fun a xs h => ?_, fun a h => ?_⟩
  · by_cases z : a = d
    · subst z; rw [upd_same, ← hd]; exact h
    · rw [upd_ne z]; exact k.k _ _ (by rw [upd_ne z]; exact h) (by simp)
  · by_cases z : a = d
    · subst z; rw [hd] at h; exact absurd (Option.some.inj h) (nt xs)
    · rw [upd_ne z]; exact k.t _ _ (by rw [upd_ne z]; exact h)
  · by_cases z : a = d
    · subst z; rw [upd_same] at h; cases h
    · rw [upd_ne z] at h
      have := k.d _ h
      rw [upd_ne z] at this
      exact this
theorem for_keys {d : Addr} {o : Obj} {kvs : List (Key × V)} {g : TG} {tb : TS} {D : Ends} {σ : L2.St} {H : Hp} (Pv : Nat → L2.St → Hp → Prop) (h0 : Pv 0 σ H) (hl : ∀ i σ H, Pv i σ H → H d = some (.frz o (.dK kvs)))
    (hs : ∀ (i : Nat) (k : Key) (v : V) σ H, kvs[i]? = some (k, v) → Pv i σ H → g (kV k) σ H fun σ2 H2 => tb { D with nx := Pv (i + 1), ct := Pv (i + 1), bk := D.nx } σ2 H2) (hd : ∀ σ H, Pv kvs.length σ H → D.nx σ H) :
    ∃ W : Nat → Nat → L2.St → Hp → Prop, (∃ m, W 0 m σ H) ∧ ∀ i m σ H, W i m σ H →
      ((Itk d o kvs).stop i H ∧ D.nx σ H) ∨ ((Itk d o kvs).go i H ∧ ∃ N : L2.St → Hp → Prop, (∀ σ' H', N σ' H' → ∃ m', m' < m ∧ W (i + 1) m' σ' H') ∧ ∀ x H', (Itk d o kvs).yld i H x H' → g x σ H' fun σ2 H2 => tb { D with nx := N, ct := N, bk := D.nx } σ2 H2) := by
  refine ⟨fun i m σ H => m = kvs.length - i ∧ i ≤ kvs.length ∧ Pv i σ H, ⟨kvs.length, by simp, Nat.zero_le _, h0⟩, ?_⟩
  rintro i m σ H ⟨rfl, hi, p⟩
  by_cases hlt : i < kvs.length
  · refine .inr ⟨⟨hl i σ H p, hlt⟩, Pv (i + 1), fun σ' H' p' => ⟨kvs.length - (i + 1), by omega, rfl, hlt, p'⟩, fun x H' y => ?_⟩
    obtain ⟨e, k, v, h1, e2⟩ := y
    subst e e2
    exact hs i k v σ _ h1 p
  · have e : i = kvs.length := by omega
    subst e
    exact .inl ⟨⟨hl _ σ H p, Nat.le_refl _⟩, hd σ H p⟩
theorem val_at : ∀ {kvs : List (Key × V)} {k : Key} {v : V}, (kvs.map (·.1)).Nodup → (k, v) ∈ kvs → valV kvs k = some v
  | p :: r, k, v, nd, h => by
    rw [List.map_cons, List.nodup_cons] at nd
    rcases List.mem_cons.mp h with h | h
    · subst h; exact valV_pos rfl
    · have n : ¬ p.1 = k := fun z => nd.1 (by rw [z]; exact List.mem_map.mpr ⟨(k, v), h, rfl⟩)
      rw [valV_neg n]
      exact val_at nd.2 h
/-- the questions' dict -/
def QsAt (H : Hp) (qs : Addr) (L : List (Int × Qu)) : Prop := ∃ kvs : List (Key × V), H qs = some (.dK kvs) ∧ Paired (fun (kv : Key × V) (t : Int × Qu) => kv.1 = Sum.inl t.1 ∧ ∃ a, kv.2 = .ref a ∧ H a = some (.tup t.2.vals)) kvs L
theorem qs_pair {F : List Addr} {H H' : Hp} {kvs : List (Key × V)} {L : List (Int × Qu)} (k : Kp F H H') (h : Paired (fun (kv : Key × V) (t : Int × Qu) => kv.1 = Sum.inl t.1 ∧ ∃ a, kv.2 = .ref a ∧ H a = some (.tup t.2.vals)) kvs L) :
    Paired (fun (kv : Key × V) (t : Int × Qu) => kv.1 = Sum.inl t.1 ∧ ∃ a, kv.2 = .ref a ∧ H' a = some (.tup t.2.vals)) kvs L := Paired.mapP h fun _ _ ⟨e, a, e2, q⟩ => ⟨e, a, e2, k.t _ _ q⟩
theorem QsAt.kp {F : List Addr} {H H' : Hp} {qs : Addr} {L : List (Int × Qu)} (k : Kp F H H') (hn : qs ∉ F) (h : QsAt H qs L) : QsAt H' qs L := by
  obtain ⟨kvs, h1, h2⟩ := h
  exact ⟨kvs, k.k _ _ h1 hn, qs_pair k h2⟩
theorem qs_keys : ∀ {H : Hp} {kvs : List (Key × V)} {L : List (Int × Qu)}, Paired (fun (kv : Key × V) (t : Int × Qu) => kv.1 = Sum.inl t.1 ∧ ∃ a, kv.2 = .ref a ∧ H a = some (.tup t.2.vals)) kvs L → kvs.map (·.1) = (L.map (·.1)).map Sum.inl
  | _, [], [], .nil => rfl
  | _, kv :: kvs, t :: L, .cons h r => by rw [List.map_cons, List.map_cons, List.map_cons, h.1, qs_keys r]
section
variable {P : Program} {w : World} {K : PySem.W.Frag} {mg : Str → Option Value} {base : Heap} {cl : ClsOf} {Cb CF CN : Addr}
def spRight (cl : ClsOf) (Cb : Addr) : Sp := fun vs H Q _ => ∃ (b lg qs : Addr) (gs : List Gr) (B : BS), vs = [.ref b, .ref lg, .ref qs] ∧ BoardAt cl Cb gs H b B ∧ LedAt H lg gs ∧ QsAt H qs (B.vs.map fun e => (e.num, e.q)) ∧ qs ∉ bfoot b B ∧ qs ≠ lg ∧ ∀ H', Kp [] H H' → Q (.bl true) H'
theorem sc__law_all_right : FnScope ["_law_board", "_law_ledger_here", "_law_questions", "_law_number_here", "_law_answer", "_law_moment", "_law_records_here"] ["_law_board", "_law_ledger_here", "_law_questions"] (defScope (top 44)) := ⟨rfl, rfl, rfl, by decide +kernel, rfl, by decide +kernel, by decide +kernel⟩
theorem c__law_all_right_x {R : Hp → V → V → Prop} (T : Bl mg) (m_Board_numbers : Mt P w K mg base 1 Cb "numbers" (spNumbers cl Cb)) (m_Board_mark : Mt P w K mg base 1 Cb "mark" (spMark cl Cb)) (m_Board_answer : MtX P w K mg base 2 Cb "answer" (spAnsB cl Cb CN))
    (c__law_records : Cl P w K mg base 2 "_law_records" spRecs) (c__law_ask_view : Cl P w K mg base 3 "_law_ask_view" (spAsk true)) (c__law_same : Cl P w K mg base 4 "_law_same" (spSame (Lift (Lift (Lift R)))))
    (D : DefIn K mg "_law_all_right" (top 44) ["_law_board", "_law_ledger_here", "_law_questions"]) : Cl P w K mg base 5 "_law_all_right" (spRight cl Cb) := by
  refine cl_of D sc__law_all_right (fun vs H Q E h => ?_) (fun f cdv A outer s H vs Q E hr h => ?_)
  · obtain ⟨b, lg, qs, gs, B, rfl, _⟩ := h
    rfl
  obtain ⟨b, lg, qs, gs, B, rfl, A0, hlg, ⟨kvs, hqs, pq⟩, nqs, nql, fin⟩ := h
  have hu := hu_of hr
  refine ⟨_, (pss_cons (ps_if (pt_cmpR (op_neD hr.units) (mt_m0 m_Board_numbers hr (by decide) (pv 0)) (pe_callB cr_sorted (by rfl) T.sorted (by decide +kernel) (pa_cons (pe_callTy (call_listD rfl) (by rfl) T.list (by decide +kernel) (pa_cons (pv 2) pa_nil)) pa_nil)) (nomark _)) (pss_one (ps_ret pe_bl)) pss_nil)
      (pss_cons (ps_lock (ps_for PassesOwn.never rfl (pi_keys (pv 2)) (pg_name (i := 3) sc__law_all_right.nd rfl (Or.inl rfl))
        (pss_cons (ps_asg (mt_x m_Board_answer hr (by decide) (pv 0) (pa_cons (pv 3) pa_nil)) (pg_tup (by rfl) (pgs_cons (pg_name (i := 4) sc__law_all_right.nd rfl (Or.inl rfl)) (pgs_cons (pg_name (i := 5) sc__law_all_right.nd rfl (Or.inl rfl)) pgs_nil))))
        (pss_cons (ps_if (pt_not (pt_chain op_le op_le (mt_m0 m_Board_mark hr (by decide) (pv 0)) (pv 5) (pe_callB call_len_seq (by rfl) T.len (by decide +kernel) (pa_cons (pv 1) pa_nil)))) (pss_one (ps_ret pe_bl)) pss_nil)
        (pss_cons (ps_set (i := 6) sc__law_all_right.nd rfl (Or.inl rfl) (cl_c c__law_records hr (by decide) (by rfl) (pa_cons (pv 1) (pa_cons (pe_tup (pa_cons pe_str (pa_cons pe_str pa_nil))) (pa_cons (pv 5) pa_nil)))))
        (pss_one (ps_if (pt_not (pt_val (cl_c c__law_same hr (by decide) (by rfl) (pa_cons (pv 4) (pa_cons (cl_c c__law_ask_view hr (by decide) (by rfl) (pa_cons (pv 6) (pa_cons (pe_dget hu (pv 2) (pv 3) (fun _ _ => rfl)) pa_nil))) pa_nil))))) (pss_one (ps_ret pe_bl)) pss_nil)))))))
      (pss_one (ps_ret pe_bl)))), ?_⟩
  obtain ⟨dx, hob⟩ := A0.ob
  refine ⟨_, rfl, b, dx, _, rfl, hob, rfl, b, gs, B, rfl, A0, fun ys p H1 hperm hso k1 hp => ?_⟩
  have hqs1 := k1.k _ _ hqs (by simp)
  have keys := qs_keys pq
  have eks : (kvs.map fun kv => kV kv.1) = (B.vs.map (·.num)).map V.int := by
    have := congrArg (List.map kV) keys
    rw [List.map_map, List.map_map, List.map_map, List.map_map] at this
    rw [List.map_map]
    exact this
  refine ⟨_, rfl, qs, kvs, rfl, .inl hqs1, fun p2 hp2 => ?_⟩
  have k2 : Kp [] H1 (upd H1 p2 (.lst (kvs.map fun kv => kV kv.1))) := Kp.refl.new hp2
  refine ⟨p2, B.vs.map (·.num), rfl, SqL.of (by rw [← eks]; exact upd_same), by rw [List.length_map]; exact A0.few, fun ys2 p3 hperm2 hso2 hp3 => ?_⟩
  have e : ys = ys2 := List.Perm.eq_of_pairwise (fun a b _ _ h1 h2 => Int.le_antisymm h1 h2) hso hso2 (hperm.trans hperm2.symm)
  subst e
  have k3 : Kp [] (upd H1 p2 (.lst (kvs.map fun kv => kV kv.1))) (upd (upd H1 p2 (.lst (kvs.map fun kv => kV kv.1))) p3 (.lst (ys.map V.int))) := Kp.refl.new hp3
  refine ⟨.list (ys.map PyData.int), .list (ys.map PyData.int), .lst (SqL.of (k3.k _ _ (k2.k _ _ hp (by simp)) (by simp))) (ints_all ys), .lst (SqL.of upd_same) (ints_all ys), ints_shaped ys, ints_shaped ys, false, ?_, iteF ?_⟩
  · show V.bl (!PyData.eqvAll (ys.map PyData.int) (ys.map PyData.int)) = _
    rw [ints_eqv]
    rfl
  have k123 := (k1.trans k2).trans k3
  generalize upd (upd H1 p2 (.lst (kvs.map fun kv => kV kv.1))) p3 (.lst (ys.map V.int)) = H3 at k123 ⊢
  have hqs3 := k123.k _ _ hqs (by simp)
  refine ⟨qs, _, hqs3, trivial, fun od => ?_⟩
  have kL : Kp [qs] H3 (upd H3 qs (.frz od (.dK kvs))) := Kp.refl.mut (by simp) hqs3 (by intro xs z; cases z)
  have AL := board_kp (board_kp A0 k123 (by simp)) kL (fun a ha z => nqs (by rw [← List.mem_singleton.mp z]; exact ha))
  have LL := (hlg.kp k123 (by simp)).kp kL (by simpa using nql.symm)
  have PL := qs_pair kL (qs_pair k123 pq)
  have lenq := Paired.length pq
  refine ⟨_, rfl, qs, od, rfl, .inl ⟨kvs, upd_same, ?_⟩⟩
  refine for_keys (fun i σ' H' => (∃ x1 x2 x3 x4, σ' = [some (.ref b), some (.ref lg), some (.ref qs), x1, x2, x3, x4]) ∧ Kp [] (upd H3 qs (.frz od (.dK kvs))) H') ⟨⟨_, _, _, _, rfl⟩, .refl⟩ (fun i σ' H' h => h.2.k _ _ upd_same (by simp)) (fun i k v σ' H' hkv h => ?_) (fun σ' H' h => ?_)
  · obtain ⟨⟨x1, x2, x3, x4, rfl⟩, ka⟩ := h
    obtain ⟨t, ht, ek, qa, ev, hqa⟩ := paired_at i (k, v) PL hkv
    rw [List.getElem?_map, Option.map_eq_some_iff] at ht
    obtain ⟨en, hen, et⟩ := ht
    subst et
    have ek : k = Sum.inl en.num := ek
    have ev : v = .ref qa := ev
    subst ek ev
    have hmem : en ∈ B.vs := List.mem_of_getElem? hen
    have Aa := board_kp AL ka (by simp)
    obtain ⟨dxa, hoba⟩ := Aa.ob
    refine ⟨_, rfl, b, dxa, _, rfl, hoba, rfl, _, rfl, b, gs, B, en.num, rfl, Aa, .inl ⟨en, hmem, rfl, fun t x a H4 k4 ht4 hax hia => ?_⟩⟩
    refine ⟨t, _, rfl, .inl (.inl ht4), rfl, _, _, rfl, _, _, rfl, rfl, ?_⟩
    have Ab := board_kp Aa k4 (by simp)
    obtain ⟨dxb, hobb⟩ := Ab.ob
    obtain ⟨_, h1, h2⟩ := Ab.vw en hmem
    have LLb := (LL.kp ka (by simp)).kp k4 (by simp)
    obtain ⟨cs, hcs, pcs⟩ := LLb
    have lcs := Paired.length pcs
    refine ⟨_, rfl, b, dxb, _, rfl, hobb, rfl, b, gs, B, rfl, Ab, _, rfl, _, _, rfl, rfl, true, congrArg V.bl (decide_eq_true (Int.ofNat_le.mpr h1)), iteT ⟨_, rfl, lg, _, rfl, .inl (SqL.of hcs), _, _, rfl, rfl, true, by rw [List.length_map, lcs]; exact congrArg V.bl (decide_eq_true (Int.ofNat_le.mpr h2)), ?_⟩⟩
    refine ⟨_, rfl, (by show 2 ≤ sizeLine; decide), fun c hc => ?_⟩
    have k5 : Kp [] H4 (upd H4 c (.tup [.str "", .str "zzzzzzzz"])) := Kp.refl.new hc
    refine ⟨_, rfl, lg, c, en.mom, "", "zzzzzzzz", gs, rfl, ((LL.kp ka (by simp)).kp k4 (by simp)).kp k5 (by simp), A0.gk, upd_same, all_keys, fun d dkvs H6 k6 hd6 R6 _ => ?_⟩
    have k46 := (k4.trans k5).trans k6
    have hq6 := (ka.trans k46).k _ _ (upd_same (H := H3) (a := qs) (o := .frz od (.dK kvs))) (by simp)
    have hqa6 := (ka.trans k46).t _ _ hqa
    have nodq : (kvs.map (·.1)).Nodup := by
      rw [keys, List.map_map]
      have := A0.nd
      rw [show (B.vs.map fun e => (e.num, e.q)).map ((Sum.inl : Int → Key) ∘ fun x => x.1) = (B.vs.map (·.num)).map Sum.inl by rw [List.map_map, List.map_map]; rfl]
      exact List.Pairwise.map _ (fun a b h z => h (Sum.inl.inj z)) this
    have hval : valV kvs (Sum.inl en.num) = some (.ref qa) := val_at nodq (List.mem_of_getElem? hkv)
    refine ⟨_, rfl, _, rfl, _, rfl, _, rfl, qs, .ref qa, rfl, .inl ⟨kvs, Sum.inl en.num, .inr ⟨od, hq6⟩, rfl, hval.symm⟩, d, qa, dkvs, _, en.q, rfl, hd6, R6.o, hqa6, (fun z => by cases z), fun x2 a2 H7 k7 hax2 hia2 hsz => ?_⟩
    have ea := isans_one (M_ok A0.gk en.mom) hia hia2
    subst ea
    refine ⟨x, x2, rfl, ans_same ((hax.kp ((k5.trans k6).trans k7))) hax2 hsz, fun H8 k8 => ⟨true, rfl, ?_⟩⟩
    exact ⟨⟨_, _, _, _, rfl⟩, ((ka.trans k46).trans k7).trans k8⟩
  · have hqf := h.2.k _ _ (upd_same (H := H3) (a := qs) (o := .frz od (.dK kvs))) (by simp)
    refine ⟨hqf, ?_⟩
    exact fin _ (k123.trans (kp_lock hqs3 (by intro xs z; cases z) h.2))
end
end LH
/-! What the board refuses; a view that the law adds. -/
namespace LH
open PySem PySem.Spec L2
open PyProof.Rows (envOfC)
structure ErrT (K : PySem.W.Frag) (C : Addr) : Prop where
  ex : ExcC K C
  me : PySem.W.exmOne K (.ref C) (.ref C) = some true
  ve : PySem.W.kitOne K (.ref C) (.type "ValueError") = some true
theorem pss_dep {X : Cx} {b : List Stmt} {p : Prop} {t : TS} (h : p → PSs X b t) : PSs X b (fun D σ H => p ∧ t D σ H) := ⟨fun pins s σ H D I hw => (h hw.1).run pins s σ H D I hw.2⟩
section
variable {P : Program} {w : World} {K : PySem.W.Frag} {mg : Str → Option Value} {base : Heap} {cl : ClsOf} {Cb CF CN : Addr}
def spRefused (cl : ClsOf) (Cb : Addr) : Sp := fun vs H Q _ => ∃ (b : Addr) (gs : List Gr) (B : BS) (num : Int) (x : V) (kn : Bool), vs = [.ref b, .int num, x, .bl kn] ∧ BoardAt cl Cb gs H b B ∧ (kn = true → num ∈ B.vs.map (·.num)) ∧ (kn = false → num ∉ B.vs.map (·.num)) ∧ ∀ H', Kp [] H H' → Q (.bl true) H'
theorem sc__law_refused : FnScope ["_law_board", "_law_number_here", "_law_question_here", "_law_known", "e"] ["_law_board", "_law_number_here", "_law_question_here", "_law_known"] (defScope (top 45)) := ⟨rfl, rfl, rfl, by decide +kernel, rfl, by decide +kernel, by decide +kernel⟩
theorem c__law_refused_x (T : Bl mg) (m_Board_add : MtX P w K mg base 8 Cb "add" (spAddB cl Cb CF)) (m_Board_answer : MtX P w K mg base 2 Cb "answer" (spAnsB cl Cb CN)) (EF : ErrOk K mg "Full" CF) (EN : ErrOk K mg "NotFound" CN) (TF : ErrT K CF) (TN : ErrT K CN)
    (NF : PySem.W.exmOne K (.ref CN) (.ref CF) = some false) (D : DefIn K mg "_law_refused" (top 45) ["_law_board", "_law_number_here", "_law_question_here", "_law_known"]) : Cl P w K mg base 9 "_law_refused" (spRefused cl Cb) := by
  refine cl_of D sc__law_refused (fun vs H Q E h => ?_) (fun f cdv A outer s H vs Q E hr h => ?_)
  · obtain ⟨b, gs, B, num, x, kn, rfl, _⟩ := h
    rfl
  obtain ⟨b, gs, B, num, x, kn, rfl, A0, hk, hn, fin⟩ := h
  have hu := hu_of hr
  obtain ⟨dx, hob⟩ := A0.ob
  refine ⟨_, pss_cons (ps_try_two (i := 4)
      (tb := fun W => tIfS (tB (tVar 3)) (tDrop (tMethW Cb "add" (spAddB cl Cb CF) W (tVar 0) (tCons (tVar 1) (tCons (tVar 2) (tCons tDNewK (tCons (tC (.int 0)) tNil)))))) (tDrop (tMethW Cb "answer" (spAnsB cl Cb CN) W (tVar 0) (tCons (tVar 1) tNil))))
      (ts1 := fun a cls d D σ H => (cls = .ref CF ∧ d = none) ∧ tRet (tAndV (tVar 3) (tCB (rIsE K CF a) (tCons (tVar 4) (tCons (tC (.ty "ValueError")) tNil)))) D σ H)
      (ts2 := fun a cls d D σ H => (cls = .ref CN ∧ d = none) ∧ tRet (tAndV (tNotV (tVar 3)) (tCB (rIsE K CN a) (tCons (tVar 4) (tCons (tC (.ty "ValueError")) tNil)))) D σ H)
      rfl rfl sc__law_refused.nd rfl rfl ⟨by rfl, by decide, .inl EF.g⟩ ⟨by rfl, by decide, .inl EN.g⟩
      (fun W pn xe tk _ => pss_one (ps_if (pt_val (pv 3))
        (pss_one (ps_expr (mt_w tk m_Board_add hr (by decide) (pv 0) (pa_cons (pv 1) (pa_cons (pv 2) (pa_cons pe_dnewK (pa_cons pe_int pa_nil)))))))
        (pss_one (ps_expr (mt_w tk m_Board_answer hr (by decide) (pv 0) (pa_cons (pv 1) pa_nil))))))
      (fun a oe cls d pn z v => pss_dep fun h => pss_one (ps_ret (pe_and (pv 3) (pe_one (pe_callB (call_isE TF.ex (by obtain ⟨rfl, rfl⟩ := h; exact z) v) (by rfl) T.isinstance (by decide +kernel) (pa_cons (pv 4) (pa_cons (pe_bltn (v := .ty "ValueError") (u := .type "ValueError") (by rfl) T.ValueError (by decide +kernel) rfl) pa_nil)))))))
      (fun a oe cls d pn z v => pss_dep fun h => pss_one (ps_ret (pe_and (pe_not (pv 3)) (pe_one (pe_callB (call_isE TN.ex (by obtain ⟨rfl, rfl⟩ := h; exact z) v) (by rfl) T.isinstance (by decide +kernel) (pa_cons (pv 4) (pa_cons (pe_bltn (v := .ty "ValueError") (u := .type "ValueError") (by rfl) T.ValueError (by decide +kernel) rfl) pa_nil))))))))
      (pss_one (ps_ret pe_bl)), ?_⟩
  cases kn with
  | true =>
    refine ⟨_, rfl, true, rfl, iteT ?_⟩
    refine ⟨_, rfl, b, dx, _, rfl, hob, rfl, _, rfl, _, rfl, fun d hd => ?_⟩
    have k1 : Kp [] H (upd H d (.dK [])) := Kp.refl.new hd
    refine ⟨b, gs, B, num, _, _, _, rfl, board_kp A0 k1 (by simp), .inl ⟨hk rfl, ?_⟩⟩
    refine ⟨true, TF.me, fun _ a ha => ⟨⟨rfl, rfl⟩, ?_⟩, fun z => by cases z⟩
    exact ⟨_, rfl, true, rfl, iteT ⟨_, rfl, .ty "ValueError", .type "ValueError", true, rfl, fun u r => r, TF.ve, fin _ k1⟩⟩
  | false =>
    refine ⟨_, rfl, false, rfl, iteF ?_⟩
    refine ⟨_, rfl, b, dx, _, rfl, hob, rfl, _, rfl, b, gs, B, num, rfl, A0, .inr ⟨hn rfl, ?_⟩⟩
    refine ⟨false, NF, (fun z => by cases z), fun _ => ⟨TN.me, fun a ha => ⟨⟨rfl, rfl⟩, ?_⟩⟩⟩
    exact ⟨_, rfl, _, rfl, true, rfl, iteT ⟨_, rfl, .ty "ValueError", .type "ValueError", true, rfl, fun u r => r, TN.ve, fin _ .refl⟩⟩
/-! ### added -/
def spAdded (cl : ClsOf) (Cb : Addr) : Sp := fun vs H Q _ => ∃ (st scr b lg qs : Addr) (gs : List Gr) (B : BS) (num : Int), vs = [.ref st, .ref b, .ref lg, .ref qs, .int num] ∧ StAt H st scr ∧ BoardAt cl Cb gs H b B ∧ LedAt H lg gs ∧ QsAt H qs (B.vs.map fun e => (e.num, e.q)) ∧
  st ∉ bfoot b B ∧ scr ∉ bfoot b B ∧ qs ∉ bfoot b B ∧ lg ∉ bfoot b B ∧ st ≠ lg ∧ st ≠ qs ∧ scr ≠ qs ∧ qs ≠ lg ∧ num ∉ B.vs.map (·.num) ∧ B.vs.length < 63 ∧
  ∀ H' B', StAt H' st scr → BoardAt cl Cb gs H' b B' → LedAt H' lg gs → QsAt H' qs (B'.vs.map fun e => (e.num, e.q)) → Kp (st :: qs :: bfoot b B) H H' → (∀ a ∈ bfoot b B', a ∈ bfoot b B ∨ H a = none) → B.n ≤ B'.n → (∀ e ∈ B'.vs, e.num = num ∨ e.num ∈ B.vs.map (·.num)) → B'.vs.length ≤ B.vs.length + 1 → Q (.bl true) H'
theorem qs_put {H : Hp} {kvs : List (Key × V)} {L : List (Int × Qu)} {num : Int} {q : Qu} {qa : Addr} (h : Paired (fun (kv : Key × V) (t : Int × Qu) => kv.1 = Sum.inl t.1 ∧ ∃ a, kv.2 = .ref a ∧ H a = some (.tup t.2.vals)) kvs L) (hn : num ∉ L.map (·.1)) (hq : H qa = some (.tup q.vals)) :
    Paired (fun (kv : Key × V) (t : Int × Qu) => kv.1 = Sum.inl t.1 ∧ ∃ a, kv.2 = .ref a ∧ H a = some (.tup t.2.vals)) (putK kvs (Sum.inl num) (.ref qa)) (L ++ [(num, q)]) := by
  rw [put_new]
  · exact pr_append h (.cons ⟨rfl, qa, rfl, hq⟩ .nil)
  · rw [qs_keys h]
    intro z
    obtain ⟨i, hi, e⟩ := List.mem_map.mp z
    cases e
    exact hn hi
theorem sc__law_added : FnScope ["_law_state_here", "_law_board", "_law_ledger_here", "_law_questions", "_law_number_here", "_law_question_here", "_law_moment", "_law_records_here", "_law_mark", "_law_stands"] ["_law_state_here", "_law_board", "_law_ledger_here", "_law_questions", "_law_number_here"] (defScope (top 46)) := ⟨rfl, rfl, rfl, by decide +kernel, rfl, by decide +kernel, by decide +kernel⟩
theorem c__law_added_x (T : Bl mg) (c__law_view_question : Cl P w K mg base 7 "_law_view_question" (spQuest true)) (c__law_draw : Cl P w K mg base 3 "_law_draw" spDraw) (c__law_records : Cl P w K mg base 2 "_law_records" spRecs) (m_Board_mark : Mt P w K mg base 1 Cb "mark" (spMark cl Cb))
    (m_Board_add : MtX P w K mg base 8 Cb "add" (spAddB cl Cb CF)) (c__law_tells : Cl P w K mg base 1 "_law_tells" spTells) (c__law_refused : Cl P w K mg base 9 "_law_refused" (spRefused cl Cb)) (D : DefIn K mg "_law_added" (top 46) ["_law_state_here", "_law_board", "_law_ledger_here", "_law_questions", "_law_number_here"]) : Cl P w K mg base 10 "_law_added" (spAdded cl Cb) := by
  refine cl_of D sc__law_added (fun vs H Q E h => ?_) (fun f cdv A outer s H vs Q E hr h => ?_)
  · obtain ⟨st, scr, b, lg, qs, gs, B, num, rfl, _⟩ := h
    rfl
  obtain ⟨st, scr, b, lg, qs, gs, B, num, rfl, hst, A0, hlg, hqs, n1, n2, n3, n4, n5, n6, n7, n8, hnin, h63, fin⟩ := h
  have hu := hu_of hr
  refine ⟨_, (pss_cons (ps_set (i := 5) sc__law_added.nd rfl (Or.inl rfl) (cl_c c__law_view_question hr (by decide) (by rfl) (pa_cons (pv 0) pa_nil)))
      (pss_cons (ps_set (i := 6) sc__law_added.nd rfl (Or.inl rfl) (cl_c c__law_draw hr (by decide) (by rfl) (pa_cons (pv 0) (pa_cons (pe_op op_add (pe_callB call_len_seq (by rfl) T.len (by decide +kernel) (pa_cons (pv 2) pa_nil)) pe_int) pa_nil))))
      (pss_cons (ps_set (i := 7) sc__law_added.nd rfl (Or.inl rfl) (cl_c c__law_records hr (by decide) (by rfl) (pa_cons (pv 2) (pa_cons (pe_tup (pa_cons pe_str (pa_cons pe_str pa_nil))) (pa_cons (pv 6) pa_nil)))))
      (pss_cons (ps_set (i := 8) sc__law_added.nd rfl (Or.inl rfl) (mt_m0 m_Board_mark hr (by decide) (pv 1)))
      (pss_cons (ps_set (i := 9) sc__law_added.nd rfl (Or.inl rfl) (mt_x m_Board_add hr (by decide) (pv 1) (pa_cons (pv 4) (pa_cons (pv 5) (pa_cons (pv 7) (pa_cons (pv 6) pa_nil))))))
      (pss_cons (ps_if (pt_not (pt_val (cl_c c__law_tells hr (by decide) (by rfl) (pa_cons (pv 9) (pa_cons (pe_cmpR op_ge (pv 6) (pv 8) (nomark _)) pa_nil))))) (pss_one (ps_ret pe_bl)) pss_nil)
      (pss_cons (ps_if (pt_val (pv 9)) (pss_cons (ps_dput hu (pv 3) (pv 4) (pv 5) rfl)
        (pss_one (ps_ret (cl_c c__law_refused hr (by decide) (by rfl) (pa_cons (pv 1) (pa_cons (pv 4) (pa_cons (pv 5) (pa_cons pe_bl pa_nil)))))))) pss_nil)
      (pss_one (ps_ret (cl_c c__law_refused hr (by decide) (by rfl) (pa_cons (pv 1) (pa_cons (pv 4) (pa_cons (pv 5) (pa_cons pe_bl pa_nil)))))))))))))), ?_⟩
  refine ⟨_, rfl, st, scr, rfl, hst, fun qa q H1 _ k1 hst1 hqa => ?_⟩
  have A1 := board_kp A0 k1 (fun a ha z => n1 (by rw [← List.mem_singleton.mp z]; exact ha))
  have hlg1 := hlg.kp k1 (by simpa using n5.symm)
  obtain ⟨cs, hcs, pcs⟩ := id hlg1
  have lcs := Paired.length pcs
  have gn := A0.gk.few
  refine ⟨_, rfl, _, rfl, lg, _, rfl, .inl (SqL.of hcs), _, _, rfl, rfl, st, scr, gs.length + 1, by rw [List.length_map, lcs]; rfl, hst1, by omega, by omega, fun mo H2 hmo k2 hst2 => ?_⟩
  have A2 := board_kp A1 k2 (fun a ha z => n1 (by rw [← List.mem_singleton.mp z]; exact ha))
  have hlg2 := hlg1.kp k2 (by simpa using n5.symm)
  refine ⟨_, rfl, (by show 2 ≤ sizeLine; decide), fun c hc => ?_⟩
  have k3 : Kp [] H2 (upd H2 c (.tup [.str "", .str "zzzzzzzz"])) := Kp.refl.new hc
  refine ⟨_, rfl, lg, c, mo, "", "zzzzzzzz", gs, rfl, hlg2.kp k3 (by simp), A0.gk, upd_same, all_keys, fun d dkvs H4 k4 hd4 R4 hd3 => ?_⟩
  have k34 := k3.trans k4
  have A4 := board_kp A2 k34 (by simp)
  have hst4 := hst2.new k34
  have hlg4 := hlg2.kp k34 (by simp)
  obtain ⟨dx4, hob4⟩ := A4.ob
  have k04 : Kp [st] H H4 := (k1.trans k2).trans k34.nil
  have hqs4 := hqs.kp k04 (by simpa using n6.symm)
  have hd2 : H2 d = none := k3.d _ hd3
  refine ⟨_, rfl, b, dx4, _, rfl, hob4, rfl, b, gs, B, rfl, A4, ?_⟩
  have ndb : d ∉ bfoot b B := fun z => board_some A2 z hd2
  refine ⟨_, rfl, b, dx4, _, rfl, hob4, rfl, _, rfl, _, rfl, _, rfl, _, rfl, b, gs, B, num, _, _, _, rfl, A4, .inr ⟨q, qa, d, dkvs, mo, rfl, rfl, rfl, hnin, (k2.trans k34.nil).t _ _ hqa, hd4, ndb, R4, by omega, h63, fun hlt => ?_, fun hle H5 B5 A5 k5 fr5 eq5 hn5 => ?_⟩⟩
  · have e1 : decide ((B.n : Int) ≤ (mo : Int)) = false := decide_eq_false (by omega)
    refine ⟨_, rfl, _, rfl, _, rfl, _, _, rfl, rfl, false, _, rfl, true, by rw [e1]; rfl, iteF ?_⟩
    refine ⟨_, rfl, false, rfl, iteF ?_⟩
    refine ⟨_, rfl, _, rfl, _, rfl, b, gs, B, num, _, false, rfl, A4, (fun z => by cases z), fun _ => hnin, fun H6 k6 => ?_⟩
    have k06 := k04.trans k6.nil
    exact fin H6 B (hst4.new k6) (board_kp A4 k6 (by simp)) (hlg4.kp k6 (by simp)) (hqs4.kp k6 (by simp)) (k06.mono fun x hx => by rw [List.mem_singleton.mp hx]; simp) (fun a ha => .inl ha) (Nat.le_refl _) (fun e he => .inr (List.mem_map.mpr ⟨e, he, rfl⟩)) (Nat.le_succ _)
  · have e1 : decide ((B.n : Int) ≤ (mo : Int)) = true := decide_eq_true (by omega)
    refine ⟨_, rfl, _, rfl, _, rfl, _, _, rfl, rfl, true, _, rfl, true, by rw [e1]; rfl, iteF ?_⟩
    refine ⟨_, rfl, true, rfl, iteT ?_⟩
    have hst5 := hst4.kp k5 n1 n2
    have hlg5 := hlg4.kp k5 n4
    obtain ⟨kvs, hkv, pk⟩ := hqs4.kp k5 n3
    have hqa5 := k5.t _ _ ((k2.trans k34.nil).t _ _ hqa)
    have fewq := Paired.length pk
    rw [List.length_map] at fewq
    have hnq : num ∉ (B.vs.map fun e => (e.num, e.q)).map (·.1) := by rw [List.map_map]; exact hnin
    refine ⟨_, rfl, _, rfl, _, rfl, qs, _, rfl, .inl ⟨kvs, Sum.inl num, hkv, rfl, sm1000 (by omega), rfl⟩, ?_⟩
    have k6 : Kp [qs] H5 (upd H5 qs (.dK (putK kvs (Sum.inl num) (.ref qa)))) := Kp.refl.mut (by simp) hkv (by intro xs z; cases z)
    have nq5 : qs ∉ bfoot b B5 := fun z => by
      rcases fr5 qs z with h | h
      · exact n3 h
      · obtain ⟨kv4, h4, _⟩ := hqs4
        rw [h4] at h
        cases h
    have A6 := board_kp A5 k6 (fun a ha z => nq5 (by rw [← List.mem_singleton.mp z]; exact ha))
    have hin5 : num ∈ B5.vs.map (·.num) := by
      have := congrArg (List.map fun t : Int × Qu => t.1) eq5
      rw [List.map_map, List.map_append] at this
      show num ∈ B5.vs.map ((fun t : Int × Qu => t.1) ∘ fun e => (e.num, e.q))
      rw [this]
      simp
    refine ⟨_, rfl, _, rfl, _, rfl, b, gs, B5, num, _, true, rfl, A6, fun _ => hin5, (fun z => by cases z), fun H7 k7 => ?_⟩
    have pq6 := qs_put (qs_pair k6 pk) hnq (k6.t _ _ hqa5)
    have q7 : QsAt H7 qs (B5.vs.map fun e => (e.num, e.q)) := by
      rw [eq5]
      exact QsAt.kp k7 (by simp) ⟨_, upd_same, pq6⟩
    refine fin H7 B5 ((hst5.kp k6 (by simpa using n6) (by simpa using n7)).new k7) (board_kp A6 k7 (by simp)) ((hlg5.kp k6 (by simpa using n8.symm)).kp k7 (by simp)) q7 ?_ (fun a ha => ?_) hn5 (fun e he => ?_) ?_
    · exact (((k04.mono fun x hx => by rw [List.mem_singleton.mp hx]; simp).trans (k5.mono fun x hx => by simp [hx])).trans (k6.mono fun x hx => by rw [List.mem_singleton.mp hx]; simp)).trans k7.nil
    · rcases fr5 a ha with h | h
      · exact .inl h
      · exact .inr (k04.d _ h)
    · have : (e.num, e.q) ∈ B5.vs.map fun e => (e.num, e.q) := List.mem_map.mpr ⟨e, he, rfl⟩
      rw [eq5] at this
      rcases List.mem_append.mp this with h | h
      · obtain ⟨e', he', ee⟩ := List.mem_map.mp h
        rw [Prod.mk.injEq] at ee
        exact .inr (List.mem_map.mpr ⟨e', he', ee.1⟩)
      · have h := List.mem_singleton.mp h
        rw [Prod.mk.injEq] at h
        exact .inl h.1
    · have := congrArg List.length eq5
      rw [List.length_map, List.length_append, List.length_map] at this
      rw [this]
      exact Nat.le_refl _
end
end LH
/-! The law. -/
namespace LH
open PySem PySem.Spec L2
open PyProof.Rows (envOfC)
structure Five (st scr lg nt qs : Addr) : Prop where
  a : st ≠ scr
  b : st ≠ lg
  c : st ≠ nt
  d : st ≠ qs
  e : scr ≠ nt
  f : scr ≠ qs
  g : lg ≠ nt
  h : lg ≠ qs
  i : nt ≠ qs
structure Lw (cl : ClsOf) (Cb : Addr) (gs : List Gr) (st scr lg nt b qs : Addr) (i : Nat) (H : Hp) (B : BS) (cs : List Int) : Prop where
  st_ : StAt H st scr
  lg_ : LedAt H lg gs
  nt_ : H nt = some (.lst (cs.map V.int))
  cs_ : ∀ c ∈ cs, ∃ j : Nat, j < gs.length ∧ c = (j : Int) + 1
  bd : BoardAt cl Cb gs H b B
  qs_ : QsAt H qs (B.vs.map fun e => (e.num, e.q))
  n1 : st ∉ bfoot b B
  n2 : scr ∉ bfoot b B
  n3 : lg ∉ bfoot b B
  n4 : nt ∉ bfoot b B
  n5 : qs ∉ bfoot b B
  nums : ∀ e ∈ B.vs, e.num < (i : Int)
  len : B.vs.length ≤ i
  c24 : cs.length ≤ 24
section
variable {cl : ClsOf} {Cb : Addr} {gs : List Gr} {st scr lg nt b qs : Addr} {i : Nat} {H H' : Hp} {B : BS} {cs : List Int}
theorem Lw.draw (L : Lw cl Cb gs st scr lg nt b qs i H B cs) (F : Five st scr lg nt qs) (k : Kp [st] H H') (h : StAt H' st scr) : Lw cl Cb gs st scr lg nt b qs i H' B cs :=
  ⟨h, L.lg_.kp k (by simpa using F.b.symm), k.k _ _ L.nt_ (by simpa using F.c.symm), L.cs_, board_kp L.bd k (fun a ha z => L.n1 (by rw [← List.mem_singleton.mp z]; exact ha)), L.qs_.kp k (by simpa using F.d.symm), L.n1, L.n2, L.n3, L.n4, L.n5, L.nums, L.len, L.c24⟩
theorem Lw.new (L : Lw cl Cb gs st scr lg nt b qs i H B cs) (k : Kp [] H H') : Lw cl Cb gs st scr lg nt b qs i H' B cs :=
  ⟨L.st_.new k, L.lg_.kp k (by simp), k.k _ _ L.nt_ (by simp), L.cs_, board_kp L.bd k (by simp), L.qs_.kp k (by simp), L.n1, L.n2, L.n3, L.n4, L.n5, L.nums, L.len, L.c24⟩
theorem Lw.up (L : Lw cl Cb gs st scr lg nt b qs i H B cs) {j : Nat} (h : i ≤ j) : Lw cl Cb gs st scr lg nt b qs j H B cs :=
  ⟨L.st_, L.lg_, L.nt_, L.cs_, L.bd, L.qs_, L.n1, L.n2, L.n3, L.n4, L.n5, fun e he => (by have := L.nums e he; omega), Nat.le_trans L.len h, L.c24⟩
theorem Lw.note (L : Lw cl Cb gs st scr lg nt b qs i H B cs) {B' : BS} (A : BoardAt cl Cb gs H' b B') (k : Kp (bfoot b B) H H') (s : BSame B B') : Lw cl Cb gs st scr lg nt b qs i H' B' cs := by
  have ft : bfoot b B' = bfoot b B := s.foot
  refine ⟨L.st_.kp k L.n1 L.n2, L.lg_.kp k L.n3, k.k _ _ L.nt_ L.n4, L.cs_, A, ?_, by rw [ft]; exact L.n1, by rw [ft]; exact L.n2, by rw [ft]; exact L.n3, by rw [ft]; exact L.n4, by rw [ft]; exact L.n5, fun e he => ?_, ?_, L.c24⟩
  · rw [s.qs]; exact L.qs_.kp k L.n5
  · have : e.num ∈ B'.vs.map (·.num) := List.mem_map.mpr ⟨e, he, rfl⟩
    rw [s.nums] at this
    obtain ⟨e', he', ee⟩ := List.mem_map.mp this
    rw [← ee]
    exact L.nums e' he'
  · have := congrArg List.length s.nums
    rw [List.length_map, List.length_map] at this
    rw [this]
    exact L.len
theorem Lw.pop (L : Lw cl Cb gs st scr lg nt b qs i H B cs) (F : Five st scr lg nt qs) (v : Nat) : Lw cl Cb gs st scr lg nt b qs i (upd H nt (.lst ((cs.map V.int).eraseIdx v))) B (cs.eraseIdx v) := by
  have k : Kp [nt] H (upd H nt (.lst ((cs.map V.int).eraseIdx v))) := Kp.refl.mut (by simp) L.nt_ (by intro xs z; cases z)
  refine ⟨L.st_.kp k (by simpa using F.c) (by simpa using F.e), L.lg_.kp k (by simpa using F.g), by rw [upd_same, map_erase], fun c hc => L.cs_ c (List.mem_of_mem_eraseIdx hc), board_kp L.bd k (fun a ha z => L.n4 (by rw [← List.mem_singleton.mp z]; exact ha)), L.qs_.kp k (by simpa using F.i.symm), L.n1, L.n2, L.n3, L.n4, L.n5, L.nums, L.len, ?_⟩
  exact Nat.le_trans (List.length_eraseIdx_le _ _) L.c24
theorem qs_drop : ∀ {H : Hp} {kvs : List (Key × V)} {vs : List Ent} (num : Int), Paired (fun (kv : Key × V) (t : Int × Qu) => kv.1 = Sum.inl t.1 ∧ ∃ a, kv.2 = .ref a ∧ H a = some (.tup t.2.vals)) kvs (vs.map fun e => (e.num, e.q)) →
    Paired (fun (kv : Key × V) (t : Int × Qu) => kv.1 = Sum.inl t.1 ∧ ∃ a, kv.2 = .ref a ∧ H a = some (.tup t.2.vals)) (dropK kvs (Sum.inl num)) ((vs.filter fun e => decide (e.num ≠ num)).map fun e => (e.num, e.q))
  | _, [], [], _, .nil => .nil
  | _, kv :: kvs, e :: vs, num, .cons h r => by
    have ih := qs_drop num r
    have e1 : kv.1 = Sum.inl e.num := h.1
    unfold dropK at ih ⊢
    by_cases z : e.num = num
    · rw [List.filter_cons_of_neg (by rw [e1, z]; simp), List.filter_cons_of_neg (by simp [z])]
      exact ih
    · rw [List.filter_cons_of_pos (by rw [e1]; simp [z]), List.filter_cons_of_pos (by simp [z]), List.map_cons]
      exact .cons h ih
theorem led_get {H : Hp} {lg : Addr} {gs : List Gr} (h : LedAt H lg gs) {j : Nat} {g : Gr} (hg : gs[j]? = some g) : ∃ (cs : List Addr) (t : Addr) (tm : Int) (ga : Addr), H lg = some (.lst (cs.map V.ref)) ∧ (cs.map V.ref)[j]? = some (.ref t) ∧ H t = some (.tup [.int tm, .ref ga]) ∧ GrpAt H ga g := by
  obtain ⟨cs, h1, h2⟩ := h
  obtain ⟨t, ht, tm, ga, a, c⟩ := paired_at2 j g h2 hg
  exact ⟨cs, t, tm, ga, h1, by rw [List.getElem?_map, ht]; rfl, a, c⟩
theorem led_len {H : Hp} {lg : Addr} {gs : List Gr} (h : LedAt H lg gs) : ∃ xs : List V, H lg = some (.lst xs) ∧ xs.length = gs.length := by
  obtain ⟨cs, h1, h2⟩ := h
  exact ⟨_, h1, by rw [List.length_map]; exact Paired.length h2⟩
end
theorem by_cut {P R : Hp → Prop} {X : Prop} (main : (∀ H2, R H2 → P H2) → X) (sec : ∀ H2, R H2 → P H2) : X := main sec
theorem four : ∀ v : Nat, v < 4 → ∃ k : Nat, atI ([.int 1, .int 1, .int 2, .int 0] : List V) (v : Int) = some (.int k) ∧ k ≤ 2
  | 0, _ => ⟨1, rfl, by decide⟩
  | 1, _ => ⟨1, rfl, by decide⟩
  | 2, _ => ⟨2, rfl, by decide⟩
  | 3, _ => ⟨0, rfl, by decide⟩
  | n + 4, h => absurd h (by omega)
theorem falseless (n : Nat) : inV (.bl false) (List.replicate n (.bl true)) = false := by
  unfold inV
  rw [List.any_eq_false]
  intro x hx
  rw [List.eq_of_mem_replicate hx]
  decide
theorem flat_true (n : Nat) : (List.replicate n (V.bl true)).all flatV = true := by
  rw [List.all_eq_true]
  intro x hx
  rw [List.eq_of_mem_replicate hx]
  rfl
theorem sidx_nat {v n : Nat} (h : v < n) : seqIndex? (v : Int) n = some v := by
  unfold seqIndex?
  have g0 : ¬ (v : Int) < 0 := by omega
  have g1 : (v : Int) < (n : Int) := by omega
  simp [g0, g1]
section
variable {P : Program} {w : World} {K : PySem.W.Frag} {mg : Str → Option Value} {base : Heap} {cl : ClsOf} {Cb CF CN : Addr}
def spLaw (K : PySem.W.Frag) : Sp := fun vs H Q _ => ∃ (a : Addr) (ns : List Int), vs = [.ref a] ∧ SqL K H a (ns.map V.int) ∧ ns.length ≤ 63 ∧ ∀ H', Q (.bl true) H'
theorem sc_law : FnScope ["_law_script", "_law_state_here", "_law_ledger_here", "_law_notes", "_law_c", "_law_board", "_law_questions", "_law_k", "_law_before", "_law_number_here"] ["_law_script"] (defScope (top 47)) := ⟨rfl, rfl, rfl, by decide +kernel, rfl, by decide +kernel, by decide +kernel⟩
theorem ok_law (T : Bl mg) (c__law_state : Cl P w K mg base 1 "_law_state" (spState K)) (c__law_draw : Cl P w K mg base 3 "_law_draw" spDraw) (c__law_ledger : Cl P w K mg base 6 "_law_ledger" spLedger) (k_Board : Mk1 P w K mg base 1 "Board" Cb (spBInit cl Cb))
    (m_Board_mark : Mt P w K mg base 1 Cb "mark" (spMark cl Cb)) (m_Board_note : Mt P w K mg base 6 Cb "note" (spNote cl Cb)) (m_Board_remove : MtX P w K mg base 1 Cb "remove" (spRem cl Cb)) (m_Board_answer : MtX P w K mg base 2 Cb "answer" (spAnsB cl Cb CN))
    (c__law_added : Cl P w K mg base 10 "_law_added" (spAdded cl Cb)) (c__law_all_right : Cl P w K mg base 5 "_law_all_right" (spRight cl Cb))
    {fa : Addr} {fd : FuncData} (D : Fun K "law" "law" (top 47) fa fd) : FnOk P w K mg base CX0 11 fa fd ["_law_script"] (spLaw K) := by
  refine D.ok sc_law (fun vs H Q E h => ?_) (fun cdv A outer s H vs Q E hr h => ?_)
  · obtain ⟨a, ns, rfl, _⟩ := h
    rfl
  obtain ⟨a, ns, rfl, ha, hns, fin⟩ := h
  have hu := hu_of hr
  refine ⟨_, (pss_cons (ps_set (i := 1) sc_law.nd rfl (Or.inl rfl) (cl_c c__law_state hr (by decide) (by rfl) (pa_cons (pv 0) pa_nil)))
      (pss_cons (ps_set (i := 2) sc_law.nd rfl (Or.inr rfl) (cl_c c__law_ledger hr (by decide) (by rfl) (pa_cons (pv 1) (pa_cons (cl_c c__law_draw hr (by decide) (by rfl) (pa_cons (pv 1) (pa_cons pe_int pa_nil))) pa_nil))))
      (pss_cons (ps_set (i := 3) sc_law.nd rfl (Or.inl rfl) (pe_lst pa_nil))
      (pss_cons (ps_for PassesOwn.never rfl (pi_range2 (by rfl) T.range (pa_cons pe_int (pa_cons (pe_op op_add (pe_callB call_len_seq (by rfl) T.len (by decide +kernel) (pa_cons (pv 2) pa_nil)) pe_int) pa_nil))) (pg_name (i := 4) sc_law.nd rfl (Or.inr rfl))
        (pss_one (ps_set (i := 3) sc_law.nd rfl (Or.inl rfl) (pe_op op_cat (pv 3) (pe_lc (own := [("_law_k", 7)]) (g := (gName 7)) (tt := tYes) (by rfl) sc_law.nd (pi_range1 (by rfl) T.range (pa_cons (pe_ix ix_list (pe_lst (pa_cons pe_int (pa_cons pe_int (pa_cons pe_int (pa_cons pe_int pa_nil))))) (cl_c c__law_draw hr (by decide) (by rfl) (pa_cons (pv 1) (pa_cons pe_int pa_nil))) (fun _ _ => rfl)) pa_nil)) (blkOk_by (own := [("_law_k", 7)]) (N := ["_law_script", "_law_state_here", "_law_ledger_here", "_law_notes", "_law_c", "_law_board", "_law_questions", "_law_k", "_law_before", "_law_number_here"]) (sc := defScope (top 47)) (by decide +kernel)) (fun _ _ _ _ _ => (pg_name (i := 7) sc_law.nd rfl (Or.inl rfl))) (fun _ _ _ _ _ => pts_nil) (fun _ _ _ _ _ => (pv 4)))))))
      (pss_cons (ps_set (i := 5) sc_law.nd rfl (Or.inr rfl) (cl_k0 k_Board hr (by decide) (by rfl)))
      (pss_cons (ps_set (i := 6) sc_law.nd rfl (Or.inl rfl) pe_dnewK)
      (pss_cons (ps_for PassesOwn.never rfl (pi_range1 (by rfl) T.range (pa_cons (pe_op op_add pe_int (pe_op op_mul pe_int (pe_callB call_len_seq (by rfl) T.len (by decide +kernel) (pa_cons (pv 3) pa_nil)))) pa_nil)) (pg_name (i := 7) sc_law.nd rfl (Or.inl rfl))
        (pss_cons (ps_set (i := 8) sc_law.nd rfl (Or.inl rfl) (mt_m0 m_Board_mark hr (by decide) (pv 5)))
        (Evl.pss_cut (ps_if (PW.pt (pw_and (pt_cmpR op_gt (pe_callB call_len_seq (by rfl) T.len (by decide +kernel) (pa_cons (pv 3) pa_nil)) pe_int (nomark _)) (pw_and1 (pt_cmpR op_gt (cl_c c__law_draw hr (by decide) (by rfl) (pa_cons (pv 1) (pa_cons pe_int pa_nil))) pe_int (nomark _))))) (pss_cons (ps_set (i := 4) sc_law.nd rfl (Or.inr rfl) (pe_bm PySem.F.plainAttrs_list PySem.F.slot_list_pop PySem.F.type_list_pop mt_popAt (pv 3) (pa_cons (cl_c c__law_draw hr (by decide) (by rfl) (pa_cons (pv 1) (pa_cons (pe_callB call_len_seq (by rfl) T.len (by decide +kernel) (pa_cons (pv 3) pa_nil)) pa_nil))) pa_nil)))
          (pss_one (ps_expr (mt_m m_Board_note hr (by decide) (pv 5) (pa_cons (pv 4) (pa_cons (pe_ix ix_tup (pe_ix ix_list (pv 2) (pe_op op_sub (pv 4) pe_int) (fun _ _ => rfl)) pe_int (fun _ _ => rfl)) pa_nil)))))) (pss_one (ps_if (PW.pt (pw_and (pt_cmpR op_gt (pe_callB call_lenD (by rfl) T.len (by decide +kernel) (pa_cons (pv 6) pa_nil)) pe_int (nomark _)) (pw_and1 (pt_cmpR op_eq (cl_c c__law_draw hr (by decide) (by rfl) (pa_cons (pv 1) (pa_cons pe_int pa_nil))) pe_int (nomark _))))) (pss_cons (ps_set (i := 9) sc_law.nd rfl (Or.inl rfl) (pe_ix ix_list (pe_callB cr_sorted (by rfl) T.sorted (by decide +kernel) (pa_cons (pe_callTy (call_listD rfl) (by rfl) T.list (by decide +kernel) (pa_cons (pv 6) pa_nil)) pa_nil)) (cl_c c__law_draw hr (by decide) (by rfl) (pa_cons (pv 1) (pa_cons (pe_callB call_lenD (by rfl) T.len (by decide +kernel) (pa_cons (pv 6) pa_nil)) pa_nil))) (fun _ _ => rfl)))
            (pss_cons (ps_expr (mt_x m_Board_remove hr (by decide) (pv 5) (pa_cons (pv 9) pa_nil)))
            (pss_one (ps_expr (pe_dpop1 (pv 6) (pv 9) ⟨rfl, rfl, rfl, rfl⟩))))) (pss_one (ps_if (pt_not (pt_val (cl_c c__law_added hr (by decide) (by rfl) (pa_cons (pv 1) (pa_cons (pv 5) (pa_cons (pv 2) (pa_cons (pv 6) (pa_cons (pv 7) pa_nil)))))))) (pss_one (ps_ret pe_bl)) pss_nil)))))
        (pss_one (ps_if (PW.pt (pw_or (pt_cmpR op_lt (mt_m0 m_Board_mark hr (by decide) (pv 5)) (pv 8) (nomark _)) (pw_or1 (pt_not (pt_val (cl_c c__law_all_right hr (by decide) (by rfl) (pa_cons (pv 5) (pa_cons (pv 2) (pa_cons (pv 6) pa_nil))))))))) (pss_one (ps_ret pe_bl)) pss_nil)))))
      (pss_cons (ps_for PassesOwn.never rfl (pi_range2 (by rfl) T.range (pa_cons pe_int (pa_cons (pe_op op_add (pe_callB call_len_seq (by rfl) T.len (by decide +kernel) (pa_cons (pv 2) pa_nil)) pe_int) pa_nil))) (pg_name (i := 4) sc_law.nd rfl (Or.inr rfl))
        (pss_one (ps_expr (mt_m m_Board_note hr (by decide) (pv 5) (pa_cons (pv 4) (pa_cons (pe_ix ix_tup (pe_ix ix_list (pv 2) (pe_op op_sub (pv 4) pe_int) (fun _ _ => rfl)) pe_int (fun _ _ => rfl)) pa_nil))))))
      (pss_cons (ps_if (PW.pt (pw_or (pt_cmpR op_ne (mt_m0 m_Board_mark hr (by decide) (pv 5)) (pe_callB call_len_seq (by rfl) T.len (by decide +kernel) (pa_cons (pv 2) pa_nil)) (nomark _)) (pw_or1 (pt_not (pt_val (cl_c c__law_all_right hr (by decide) (by rfl) (pa_cons (pv 5) (pa_cons (pv 2) (pa_cons (pv 6) pa_nil))))))))) (pss_one (ps_ret pe_bl)) pss_nil)
      (pss_one (ps_ret (pe_cmpR op_notIn_seq pe_bl (pe_lock (pe_lc (own := [("_law_number_here", 9)]) (g := (gName 9)) (tt := tYes) (te := (tOp rEq (tOp (rIxT K) (tMeth Cb "answer" (spAnsB cl Cb CN) [] E0 (tVar 5) (tCons (tVar 9) tNil)) (tC (.int 1))) (tCB (fun xs H Q => ∃ p ys, xs = [V.ref p] ∧ (SqL K H p ys ∨ SqT K H p ys) ∧ Q (.int ys.length) H) (tCons (tVar 2) tNil)))) (by rfl) sc_law.nd (pi_keys (pv 6)) (blkOk_by (own := [("_law_number_here", 9)]) (N := ["_law_script", "_law_state_here", "_law_ledger_here", "_law_notes", "_law_c", "_law_board", "_law_questions", "_law_k", "_law_before", "_law_number_here"]) (sc := defScope (top 47)) (by decide +kernel)) (fun _ _ _ _ _ => (pg_name (i := 9) sc_law.nd rfl (Or.inl rfl))) (fun _ _ _ _ _ => pts_nil) (fun _ _ _ _ _ => (pe_cmpR op_eq (pe_ix ix_tup (mt_x m_Board_answer hr (by decide) (pv 5) (pa_cons (pv 9) pa_nil)) pe_int (fun _ _ => rfl)) (pe_callB call_len_seq (by rfl) T.len (by decide +kernel) (pa_cons (pv 2) pa_nil)) (nomark _))))) (by rfl))))))))))))), ?_⟩
  refine ⟨_, rfl, a, ns, rfl, ha, hns, fun st scr H1 k1 hst1 nss hstn hscn => ?_⟩
  refine ⟨_, rfl, _, rfl, st, scr, 13, rfl, hst1, by decide, by decide, fun n H2 hn k2 hst2 => ?_⟩
  refine ⟨st, scr, n, rfl, hst2, by omega, fun lg gs H3 hlg3 lgs G k3 hst3 hlgn => ?_⟩
  have nsl : st ≠ lg := fun z => hst2.some (by rw [z]; exact hlgn)
  have g12 := G.few
  refine ⟨Nat.zero_le _, fun nt0 hnt0 => ?_⟩
  have kn : Kp [] H3 (upd H3 nt0 (.lst [])) := Kp.refl.new hnt0
  have hst4 := hst3.new kn
  have hlg4 := hlg3.kp kn (by simp)
  obtain ⟨lxs, hlx, lenx⟩ := led_len hlg4
  refine ⟨_, rfl, lg, _, rfl, .inl (SqL.of hlx), _, _, rfl, rfl, 1, _, rfl, ⟨by decide, by decide, by omega, by omega⟩, ?_⟩
  refine for_range (lo := 1) (n := ((lxs.length : Int) + 1 - 1).toNat) (fun i σ' H' => (∃ x4, ∃ nt, σ' = [some (.ref a), some (.ref st), some (.ref lg), some (.ref nt), x4, none, none, none, none, none] ∧ nt ≠ lg ∧ nt ≠ st ∧ nt ≠ scr ∧ ∃ cs : List Int, H' nt = some (.lst (cs.map V.int)) ∧ cs.length ≤ 2 * i ∧ ∀ c ∈ cs, ∃ j : Nat, j < gs.length ∧ c = (j : Int) + 1) ∧ StAt H' st scr ∧ LedAt H' lg gs)
    ⟨⟨none, nt0, rfl, ?_, ?_, ?_, [], upd_same, Nat.le_refl _, fun _ z => by cases z⟩, hst4, hlg4⟩ (fun i σ' H' hi h => ?_) (fun σ' H' h => ?_)
  · obtain ⟨xs, hx, _⟩ := led_len hlg3
    exact (ne_of_none hx hnt0).symm
  · exact fun z => hst3.some (by rw [← z]; exact hnt0)
  · obtain ⟨_, _, _, _, _, hsc, _⟩ := hst3
    exact (ne_of_none hsc hnt0).symm
  · obtain ⟨⟨x4, nt, rfl, d1, d2, d3, cs, hnt, lcs, hcs⟩, hst, hlg⟩ := h
    rw [lenx] at hi
    have hi' : i < gs.length := by omega
    refine ⟨_, rfl, (by show 4 ≤ sizeLine; decide), fun l2 hl2 => ?_⟩
    have kl : Kp [] H' (upd H' l2 (.lst [.int 1, .int 1, .int 2, .int 0])) := Kp.refl.new hl2
    have nl2 : l2 ≠ st := fun z => hst.some (by rw [← z]; exact hl2)
    refine ⟨_, rfl, st, scr, 4, rfl, hst.new kl, by decide, by decide, fun v H5 hv k5 hst5 => ?_⟩
    obtain ⟨kk, hkk, hk2⟩ := four v hv
    refine ⟨l2, _, (v : Int), .int kk, rfl, rfl, SqL.of (k5.k _ _ upd_same (by simpa using nl2)), hkk, (kk : Int), rfl, by omega, by omega, fun Dl hD => ?_⟩
    have hlg5 := (hlg.kp kl (by simp)).kp k5 (by simpa using nsl.symm)
    have hnt5 := k5.k _ _ (kl.k _ _ hnt (by simp)) (by simpa using d2)
    refine ⟨fun j m H6 => m = kk - j ∧ j ≤ kk ∧ Kp [] H5 H6 ∧ H6 Dl = some (.lst ((List.replicate j (1 + (i : Int))).map V.int)), ⟨_, rfl, Nat.zero_le _, Kp.refl.new hD, upd_same⟩, fun j m H6 W => ?_⟩
    obtain ⟨rfl, hj, k6, hDl⟩ := W
    by_cases hlt : j < kk
    · refine .inr ⟨by show j < ((kk : Int)).toNat; omega, fun H7 => Kp [] H5 H7 ∧ H7 Dl = some (.lst ((List.replicate (j + 1) (1 + (i : Int))).map V.int)), fun H7 h => ⟨kk - (j + 1), by omega, rfl, hlt, h⟩, fun x H7 y => ?_⟩
      obtain ⟨rfl, rfl⟩ := y
      refine ⟨rfl, yes_of ?_⟩
      refine ⟨_, rfl, _, hDl, by rw [List.length_map, List.length_replicate]; exact sm1000 (by omega), k6.own hD, ?_⟩
      rw [upd_same, List.replicate_succ', List.map_append]
      rfl
    · have ej : j = kk := by omega
      subst ej
      refine .inl ⟨by show ((j : Int)).toNat ≤ j; omega, ?_⟩
      have hnt6 := k6.k _ _ hnt5 (by simp)
      have hst6 := hst5.new k6
      have hlg6 := hlg5.kp k6 (by simp)
      refine ⟨nt, Dl, _, _, rfl, rfl, hnt6, hDl, by rw [List.length_map, List.length_map, List.length_replicate]; exact small100 (n := cs.length + j) (by omega), fun p hp => ?_⟩
      have kp : Kp [] H6 (upd H6 p (.lst (cs.map V.int ++ (List.replicate j (1 + (i : Int))).map V.int))) := Kp.refl.new hp
      refine ⟨⟨_, p, rfl, ?_, ?_, ?_, cs ++ List.replicate j (1 + (i : Int)), by rw [upd_same, List.map_append], by rw [List.length_append, List.length_replicate]; omega, fun c hc => ?_⟩, hst6.new kp, hlg6.kp kp (by simp)⟩
      · obtain ⟨xs, hx, _⟩ := led_len hlg6
        exact (ne_of_none hx hp).symm
      · exact fun z => hst6.some (by rw [← z]; exact hp)
      · obtain ⟨_, _, _, _, _, hsc, _⟩ := hst6
        exact (ne_of_none hsc hp).symm
      · rcases List.mem_append.mp hc with h | h
        · exact hcs c h
        · exact ⟨i, hi', by rw [List.eq_of_mem_replicate h]; omega⟩
  obtain ⟨⟨x4, nt, rfl, d1, d2, d3, cs0, hnt, lcs, hcs⟩, hst, hlg⟩ := h
  rw [lenx] at lcs
  intro b dxb hb hdx hne
  have kb : Kp [] H' (upd (upd H' dxb (.own b)) b (.ins Cb dxb [])) := (Kp.refl.new hdx).new (by rw [upd_ne hne.symm]; exact hb)
  refine ⟨b, dxb, gs, rfl, upd_same, G, fun H5 B0 hB1 hB2 hB3 A5 k5 fr5 => ⟨rfl, ?_⟩⟩
  have k55 : Kp [] H' H5 := Kp.fresh kb k5 fun x hx => .inr (by rw [List.mem_singleton.mp hx]; exact hb)
  have fr : ∀ x ∈ bfoot b B0, H' x = none := fun x hx => by
    rcases fr5 x hx with h | h
    · rw [h]; exact hb
    · exact kb.d _ h
  intro qs hqs
  have k6 : Kp [] H5 (upd H5 qs (.dK [])) := Kp.refl.new hqs
  have k56 := k55.trans k6
  have hqs0 : H' qs = none := k55.d _ hqs
  have F5 : Five st scr lg nt qs := by
    obtain ⟨xs, hx, _⟩ := led_len hlg
    obtain ⟨_, _, _, _, _, hsc, _⟩ := id hst
    exact ⟨nss, nsl, d2.symm, fun z => hst.some (by rw [z]; exact hqs0), d3.symm, ne_of_none hsc hqs0, d1.symm, ne_of_none hx hqs0, ne_of_none hnt hqs0⟩
  have L0 : Lw cl Cb gs st scr lg nt b qs 0 (upd H5 qs (.dK [])) B0 cs0 := by
    obtain ⟨xs, hx, _⟩ := led_len hlg
    obtain ⟨_, _, _, _, _, hsc, _⟩ := id hst
    refine ⟨hst.new k56, hlg.kp k56 (by simp), k56.k _ _ hnt (by simp), hcs, board_kp A5 k6 (by simp), ⟨[], upd_same, by rw [hB3]; exact .nil⟩, fun z => hst.some (fr _ z), fun z => ?_, fun z => ?_, fun z => ?_, fun z => ?_, fun e he => ?_, by rw [hB3]; exact Nat.le_refl _, by omega⟩
    · have := fr _ z; rw [hsc] at this; cases this
    · have := fr _ z; rw [hx] at this; cases this
    · have := fr _ z; rw [hnt] at this; cases this
    · exact board_some A5 z hqs
    · rw [hB3] at he; cases he
  generalize upd H5 qs (.dK []) = H6 at L0 ⊢
  have turns : ((4 : Int) + 2 * ((cs0.map V.int).length : Int)) ≤ 52 := by rw [List.length_map]; have := L0.c24; omega
  refine ⟨_, rfl, nt, _, rfl, .inl (SqL.of L0.nt_), _, _, rfl, rfl, .inl ⟨by decide, by decide⟩, _, _, rfl, rfl, _, rfl, by omega, by omega, ?_⟩
  refine for_range (lo := 0) (n := ((4 : Int) + 2 * ((cs0.map V.int).length : Int)).toNat) (fun i σ' H' => (∃ x4 x7 x8 x9, σ' = [some (.ref a), some (.ref st), some (.ref lg), some (.ref nt), x4, some (.ref b), some (.ref qs), x7, x8, x9]) ∧ ∃ B cs, Lw cl Cb gs st scr lg nt b qs i H' B cs) ⟨⟨_, _, _, _, rfl⟩, B0, cs0, L0⟩ (fun i σ' H' hi h => ?_) (fun σ' H' h => ?_)
  · obtain ⟨⟨x4, x7, x8, x9, rfl⟩, B, cs, L⟩ := h
    have hi52 : i < 52 := by omega
    obtain ⟨dx, hob⟩ := L.bd.ob
    refine ⟨_, rfl, b, dx, _, rfl, hob, rfl, b, gs, B, rfl, L.bd, ?_⟩
    refine ⟨fun σ2 H2 => ∃ x4 x9 B' cs', σ2 = [some (.ref a), some (.ref st), some (.ref lg), some (.ref nt), x4, some (.ref b), some (.ref qs), some (.int (0 + (i : Int))), some (.int B.n), x9] ∧ Lw cl Cb gs st scr lg nt b qs (i + 1) H2 B' cs' ∧ B.n ≤ B'.n, ?_, fun σ2 H2 h => ?_⟩
    · have third : ∀ (H2 : Hp), Lw cl Cb gs st scr lg nt b qs i H2 B cs → ∀ y9 y4 : Option V, ∀ M : L2.St → Hp → Prop, (∀ σ3 H3, (∃ x4 x9 B' cs', σ3 = [some (.ref a), some (.ref st), some (.ref lg), some (.ref nt), x4, some (.ref b), some (.ref qs), some (.int (0 + (i : Int))), some (.int B.n), x9] ∧ Lw cl Cb gs st scr lg nt b qs (i + 1) H3 B' cs' ∧ B.n ≤ B'.n) → M σ3 H3) → ∀ N : VK,
          spAdded cl Cb [.ref st, .ref b, .ref lg, .ref qs, .int (0 + (i : Int))] H2 (fun x H3 => ∃ d, x = .bl d ∧ if (!d) = true then N (.bl false) H3 else M [some (.ref a), some (.ref st), some (.ref lg), some (.ref nt), y4, some (.ref b), some (.ref qs), some (.int (0 + (i : Int))), some (.int B.n), y9] H3) E0 := fun H2 L2' y9 y4 M hM N => by
        refine ⟨st, scr, b, lg, qs, gs, B, _, rfl, L2'.st_, L2'.bd, L2'.lg_, L2'.qs_, L2'.n1, L2'.n2, L2'.n5, L2'.n3, F5.b, F5.d, F5.f, F5.h.symm, fun z => ?_, by have := L2'.len; omega, fun H3 B' s3 A3 g3 q3 k3 fr3 hn3 nm3 ln3 => ⟨true, rfl, iteF (hM _ _ ⟨y4, y9, B', cs, rfl, ?_, hn3⟩)⟩⟩
        · obtain ⟨e, he, ee⟩ := ent_of z
          have := L2'.nums e he
          omega
        · have keep : ∀ x, x ∉ bfoot b B → H2 x ≠ none → x ∉ bfoot b B' := fun x h1 h2 z => by
            rcases fr3 x z with h | h
            · exact h1 h
            · exact h2 h
          have hnt3 : H3 nt = some (.lst (cs.map V.int)) := k3.k _ _ L2'.nt_ (by
            intro z
            rcases List.mem_cons.mp z with z | z
            · exact F5.c z.symm
            · rcases List.mem_cons.mp z with z | z
              · exact F5.i z
              · exact L2'.n4 z)
          obtain ⟨_, _, _, _, hs1, hs2, _⟩ := id L2'.st_
          obtain ⟨xs, hx, _⟩ := led_len L2'.lg_
          obtain ⟨qk, hq1, _⟩ := L2'.qs_
          refine ⟨s3, g3, hnt3, L2'.cs_, A3, q3, keep _ L2'.n1 L2'.st_.some, keep _ L2'.n2 (by rw [hs2]; intro z; cases z), keep _ L2'.n3 (by rw [hx]; intro z; cases z), keep _ L2'.n4 (by rw [L2'.nt_]; intro z; cases z), keep _ L2'.n5 (by rw [hq1]; intro z; cases z), fun e he => ?_, by have := L2'.len; omega, L2'.c24⟩
          rcases nm3 e he with h | h
          · rw [h]; omega
          · obtain ⟨e', he', ee⟩ := List.mem_map.mp h
            have := L2'.nums e' he'
            rw [← ee]
            omega
      apply by_cut (R := fun H2 => Lw cl Cb gs st scr lg nt b qs i H2 B cs)
      · intro second
        refine ⟨_, rfl, nt, _, rfl, .inl (SqL.of L.nt_), _, _, rfl, rfl, _, rfl, ite2 (fun c1 => ?_) (fun c1 => ?_)⟩
        · have c1 : (0 : Int) < ((cs.map V.int).length : Int) := of_decide_eq_true c1
          rw [List.length_map] at c1
          refine ⟨_, rfl, st, scr, 3, rfl, L.st_, by decide, by decide, fun v H2 hv k2 hst2 => ?_⟩
          have L2' := L.draw F5 k2 hst2
          refine ⟨_, _, rfl, rfl, _, rfl, ite2 (fun c2 => ?_) (fun c2 => ?_)⟩
          · have c24 := L.c24
            refine ⟨_, rfl, .inl ⟨rfl, _, SqL.of L2'.nt_⟩, _, rfl, _, rfl, nt, _, rfl, .inl (SqL.of L2'.nt_), st, scr, cs.length, by rw [List.length_map]; rfl, hst2, by omega, by omega, fun v2 H3 hv2 k3 hst3 => ?_⟩
            have L3 := L2'.draw F5 k3 hst3
            refine ⟨nt, _, (v2 : Int), v2, .int cs[v2], rfl, rfl, L3.nt_, by omega, by omega, by rw [List.length_map]; exact sidx_nat hv2, by rw [List.getElem?_map, List.getElem?_eq_getElem hv2]; rfl, ?_⟩
            have L4 := L3.pop F5 v2
            obtain ⟨j, hj, ej⟩ := L.cs_ _ (List.getElem_mem hv2)
            obtain ⟨dx4, hob4⟩ := L4.bd.ob
            obtain ⟨cl2, t, tm, ga, h1, h2, h3, h4⟩ := led_get L4.lg_ (List.getElem?_eq_getElem hj)
            refine ⟨_, rfl, b, dx4, _, rfl, hob4, rfl, _, rfl, _, rfl, _, rfl, _, _, rfl, rfl, lg, _, _, .ref t, rfl, rfl, SqL.of h1, at_of (j := j) (by omega) h2, t, _, 1, .ref ga, rfl, rfl, .inl (.inl h3), rfl, ?_⟩
            refine ⟨b, ga, gs, B, j, _, by rw [ej]; rfl, L4.bd, List.getElem?_eq_getElem hj, h4, fun H5 B' A' k' sm hn' _ => ?_⟩
            exact ⟨_, _, B', _, rfl, (L4.note A' k' sm).up (Nat.le_succ i), hn'⟩
          · exact second H2 L2'
        · refine iteF ?_
          exact second H' L
      · intro H2 L2'
        obtain ⟨kvs, hkv, pq⟩ := L2'.qs_
        have lenq := Paired.length pq
        rw [List.length_map] at lenq
        refine ⟨_, rfl, qs, kvs, rfl, hkv, _, _, rfl, rfl, _, rfl, ite2 (fun c1 => ?_) (fun c1 => ?_)⟩
        · have c1 : (0 : Int) < (kvs.length : Int) := of_decide_eq_true c1
          refine ⟨_, rfl, st, scr, 4, rfl, L2'.st_, by decide, by decide, fun v H3 hv k3 hst3 => ?_⟩
          have L3 := L2'.draw F5 k3 hst3
          refine ⟨rfl, _, rfl, ite2 (fun c2 => ?_) (fun c2 => ?_)⟩
          · obtain ⟨kvs, hkv, pq⟩ := L3.qs_
            have lenq3 := Paired.length pq
            rw [List.length_map] at lenq3
            have few := L3.bd.few
            have keys := qs_keys pq
            have eks : (kvs.map fun kv => kV kv.1) = (B.vs.map (·.num)).map V.int := by
              have := congrArg (List.map kV) keys
              rw [List.map_map, List.map_map, List.map_map, List.map_map] at this
              rw [List.map_map]
              exact this
            refine ⟨_, rfl, qs, kvs, rfl, .inl hkv, fun p hp => ?_⟩
            have kp : Kp [] H3 (upd H3 p (.lst (kvs.map fun kv => kV kv.1))) := Kp.refl.new hp
            refine ⟨p, B.vs.map (·.num), rfl, SqL.of (by rw [← eks]; exact upd_same), by rw [List.length_map]; exact few, fun ys p3 hperm _ hp3 => ?_⟩
            have kp3 : Kp [] (upd H3 p (.lst (kvs.map fun kv => kV kv.1))) (upd (upd H3 p (.lst (kvs.map fun kv => kV kv.1))) p3 (.lst (ys.map V.int))) := Kp.refl.new hp3
            have kpp := kp.trans kp3
            have leny := hperm.length_eq
            rw [List.length_map] at leny
            have L4 := L3.new kpp
            have n3 : p3 ≠ st := fun z => L3.st_.some (by rw [← z]; exact kp.d _ hp3)
            refine ⟨_, rfl, _, rfl, qs, kvs, rfl, kpp.k _ _ hkv (by simp), st, scr, kvs.length, rfl, L4.st_, by omega, by omega, fun v2 H5 hv2 k5 hst5 => ?_⟩
            have L5 := L4.draw F5 k5 hst5
            have hv3 : v2 < ys.length := by omega
            refine ⟨p3, _, (v2 : Int), .int ys[v2], rfl, rfl, SqL.of (k5.k _ _ upd_same (by simpa using n3)), at_of rfl (by rw [List.getElem?_map, List.getElem?_eq_getElem hv3]; rfl), ?_⟩
            have hin : ys[v2] ∈ B.vs.map (·.num) := hperm.mem_iff.mp (List.getElem_mem hv3)
            generalize ys[v2] = num at hin ⊢
            obtain ⟨dx5, hob5⟩ := L5.bd.ob
            refine ⟨_, rfl, b, dx5, _, rfl, hob5, rfl, _, rfl, b, gs, B, num, rfl, L5.bd, hin, fun H6 A6 k6 => ?_⟩
            obtain ⟨kvs5, hkv5, pq5⟩ := L5.qs_.kp k6 L5.n5
            have hkin : Sum.inl num ∈ kvs5.map (·.1) := by
              obtain ⟨e, he, ee⟩ := ent_of hin
              rw [qs_keys pq5]
              exact List.mem_map.mpr ⟨num, List.mem_map.mpr ⟨(e.num, e.q), List.mem_map.mpr ⟨e, he, rfl⟩, ee⟩, rfl⟩
            obtain ⟨vv, hvv⟩ := val_some hkin
            refine ⟨_, rfl, qs, rfl, .inl ⟨_, .inl hkv5⟩, _, rfl, kvs5, Sum.inl num, vv, hkv5, rfl, hvv, ?_⟩
            have k7 : Kp [qs] H6 (upd H6 qs (.dK (dropK kvs5 (Sum.inl num)))) := Kp.refl.mut (by simp) hkv5 (by intro xs z; cases z)
            have sub : ∀ x, x ∈ bfoot b { B with vs := B.vs.filter fun e => decide (e.num ≠ num) } → x ∈ bfoot b B := fun x hx => by
              rcases List.mem_append.mp hx with h | h
              · exact List.mem_append_left _ h
              · obtain ⟨e, he, ha⟩ := mem_feet h
                exact List.mem_append_right _ (feet_mem (List.mem_filter.mp he).1 ha)
            refine ⟨_, _, { B with vs := B.vs.filter fun e => decide (e.num ≠ num) }, cs, rfl, ⟨?_, ?_, ?_, L5.cs_, ?_, ?_, fun z => L5.n1 (sub _ z), fun z => L5.n2 (sub _ z), fun z => L5.n3 (sub _ z), fun z => L5.n4 (sub _ z), fun z => L5.n5 (sub _ z), fun e he => ?_, ?_, L5.c24⟩, Nat.le_refl _⟩
            · exact (L5.st_.kp k6 L5.n1 L5.n2).kp k7 (by simpa using F5.d) (by simpa using F5.f)
            · exact (L5.lg_.kp k6 L5.n3).kp k7 (by simpa using F5.h)
            · exact k7.k _ _ (k6.k _ _ L5.nt_ L5.n4) (by simpa using F5.i)
            · exact board_kp A6 k7 (fun x hx z => L5.n5 (by rw [← List.mem_singleton.mp z]; exact sub _ hx))
            · exact ⟨_, upd_same, qs_drop num (qs_pair k7 pq5)⟩
            · have := L5.nums e (List.mem_filter.mp he).1
              omega
            · have := L5.len
              exact Nat.le_trans (List.length_filter_le _ _) (by omega)
          · exact ⟨_, rfl, _, rfl, _, rfl, _, rfl, _, rfl, third H3 L3 _ _ _ (fun _ _ h => h) _⟩
        · refine iteF ?_
          exact ⟨_, rfl, _, rfl, _, rfl, _, rfl, _, rfl, third H2 L2' _ _ _ (fun _ _ h => h) _⟩
    · obtain ⟨x4, x9, B', cs', rfl, L', hn'⟩ := h
      obtain ⟨dx', hob'⟩ := L'.bd.ob
      refine ⟨_, rfl, b, dx', _, rfl, hob', rfl, b, gs, B', rfl, L'.bd, _, rfl, _, _, rfl, rfl, false, congrArg V.bl (decide_eq_false (by omega)), iteF ?_⟩
      refine ⟨_, rfl, _, rfl, _, rfl, b, lg, qs, gs, B', rfl, L'.bd, L'.lg_, L'.qs_, L'.n5, F5.h.symm, fun H3 k3 => ⟨true, rfl, ?_⟩⟩
      exact ⟨⟨_, _, _, _, rfl⟩, B', cs', L'.new k3⟩
  · obtain ⟨⟨x4, x7, x8, x9, rfl⟩, B, cs, L⟩ := h
    obtain ⟨lys, hly, leny⟩ := led_len L.lg_
    generalize ((4 : Int) + 2 * ((cs0.map V.int).length : Int)).toNat = big at L
    refine ⟨_, rfl, lg, _, rfl, .inl (SqL.of hly), _, _, rfl, rfl, 1, _, rfl, ⟨by decide, by decide, by omega, by omega⟩, ?_⟩
    refine for_range (lo := 1) (n := ((lys.length : Int) + 1 - 1).toNat) (fun i σ' H' => (∃ x4, σ' = [some (.ref a), some (.ref st), some (.ref lg), some (.ref nt), x4, some (.ref b), some (.ref qs), x7, x8, x9]) ∧ ∃ B cs, Lw cl Cb gs st scr lg nt b qs big H' B cs ∧ i ≤ B.n) ⟨⟨_, rfl⟩, B, cs, L, Nat.zero_le _⟩ (fun i σ' H' hi h => ?_) (fun σ' H' h => ?_)
    · obtain ⟨⟨x4, rfl⟩, B, cs, L, hin⟩ := h
      rw [leny] at hi
      have hi' : i < gs.length := by omega
      obtain ⟨dx, hob⟩ := L.bd.ob
      obtain ⟨cl2, t, tm, ga, h1, h2, h3, h4⟩ := led_get L.lg_ (List.getElem?_eq_getElem hi')
      refine ⟨_, rfl, b, dx, _, rfl, hob, rfl, _, rfl, _, rfl, _, rfl, _, _, rfl, rfl, lg, _, _, .ref t, rfl, rfl, SqL.of h1, at_of (j := i) (by omega) h2, t, _, 1, .ref ga, rfl, rfl, .inl (.inl h3), rfl, ?_⟩
      refine ⟨b, ga, gs, B, i, _, by rw [Int.add_comm]; rfl, L.bd, List.getElem?_eq_getElem hi', h4, fun H2 B' A' k' sm hn' hm' => ?_⟩
      refine ⟨⟨_, rfl⟩, B', cs, L.note A' k' sm, ?_⟩
      by_cases z : B.n = i
      · exact hm' z
      · omega
    · obtain ⟨⟨x4, rfl⟩, B, cs, L, hin⟩ := h
      have le := L.bd.le
      have en : B.n = gs.length := by rw [leny] at hin; omega
      obtain ⟨dx, hob⟩ := L.bd.ob
      obtain ⟨lzs, hlz, lenz⟩ := led_len L.lg_
      refine ⟨_, rfl, b, dx, _, rfl, hob, rfl, b, gs, B, rfl, L.bd, _, rfl, lg, _, rfl, .inl (SqL.of hlz), rfl, false, (by rw [lenz, en, decide_eq_true rfl]; rfl), iteF ?_⟩
      refine ⟨_, rfl, _, rfl, _, rfl, b, lg, qs, gs, B, rfl, L.bd, L.lg_, L.qs_, L.n5, F5.h.symm, fun H2 k2' => ⟨true, rfl, ?_⟩⟩
      have L2' := L.new k2'
      obtain ⟨kvs, hkv, pq⟩ := L2'.qs_
      refine ⟨qs, _, hkv, trivial, fun od => ?_⟩
      have kL : Kp [qs] H2 (upd H2 qs (.frz od (.dK kvs))) := Kp.refl.mut (by simp) hkv (by intro xs z; cases z)
      have AL := board_kp L2'.bd kL (fun x hx z => L.n5 (by rw [← List.mem_singleton.mp z]; exact hx))
      have LL := L2'.lg_.kp kL (by simpa using F5.h)
      refine ⟨_, rfl, qs, od, rfl, .inl ⟨kvs, upd_same, fun Dl hD => ?_⟩⟩
      refine ⟨fun j m H7 => m = kvs.length - j ∧ j ≤ kvs.length ∧ Kp [] (upd H2 qs (.frz od (.dK kvs))) H7 ∧ H7 Dl = some (.lst (List.replicate j (.bl true))), ⟨_, rfl, Nat.zero_le _, Kp.refl.new hD, upd_same⟩, fun j m H7 W => ?_⟩
      obtain ⟨rfl, hj, k7, hDl⟩ := W
      have hqf := k7.k _ _ (upd_same (H := H2) (a := qs) (o := .frz od (.dK kvs))) (by simp)
      have lenq := Paired.length pq
      rw [List.length_map] at lenq
      have few := L.bd.few
      by_cases hlt : j < kvs.length
      · refine .inr ⟨⟨hqf, hlt⟩, fun H8 => Kp [] (upd H2 qs (.frz od (.dK kvs))) H8 ∧ H8 Dl = some (.lst (List.replicate (j + 1) (.bl true))), fun H8 h => ⟨kvs.length - (j + 1), by omega, rfl, hlt, h⟩, fun x H8 y => ?_⟩
        obtain ⟨rfl, k, v, hkv', rfl⟩ := y
        obtain ⟨t, ht, ek, _⟩ := paired_at j (k, v) pq hkv'
        rw [List.getElem?_map, Option.map_eq_some_iff] at ht
        obtain ⟨e, he, et⟩ := ht
        subst et
        have ek : k = Sum.inl e.num := ek
        subst ek
        have hem : e ∈ B.vs := List.mem_of_getElem? he
        have A8 := board_kp AL k7 (by simp)
        obtain ⟨dx8, hob8⟩ := A8.ob
        obtain ⟨_, m1, m2⟩ := A8.vw e hem
        obtain ⟨l8, hl8, len8⟩ := led_len (LL.kp k7 (by simp))
        refine ⟨rfl, yes_of ?_⟩
        refine ⟨_, rfl, b, dx8, _, rfl, hob8, rfl, _, rfl, b, gs, B, e.num, rfl, A8, .inl ⟨e, hem, rfl, fun t x a' H9 k9 ht9 _ _ => ?_⟩⟩
        refine ⟨t, _, 1, .int e.mom, rfl, rfl, .inl (.inl ht9), rfl, _, rfl, lg, _, rfl, .inl (SqL.of (k9.k _ _ hl8 (by simp))), rfl, ?_⟩
        refine ⟨_, k9.k _ _ hDl (by simp), by rw [List.length_replicate]; exact sm1000 (by omega), (k7.trans k9).own hD, ?_⟩
        rw [upd_same, List.replicate_succ', len8, show e.mom = gs.length by omega, decide_eq_true rfl]
      · have ej : j = kvs.length := by omega
        subst ej
        refine .inl ⟨⟨hqf, Nat.le_refl _⟩, hqf, ?_⟩
        have nDq : Dl ≠ qs := fun z => by rw [z, upd_same] at hD; cases hD
        refine ⟨Dl, _, rfl, .inl (SqL.of (by rw [upd_ne nDq]; exact hDl)), rfl, flat_true _, ?_⟩
        rw [falseless]
        exact fin _
end
end LH
/-! What the text behind the top says, put together. -/
namespace LH
open PySem PySem.Spec L2
open PyProof.Rows (envOfC)
section
variable {K : PySem.W.Frag} {mg : Str → Option Value} {h : Heap} {C f : Addr} {oc : Value} {od an : Option Addr} {osl : Array (Option Value)} {kV doc pm cdv ct : Value}
theorem def_mk {x : Str} {st : Stmt} {ps : List Str} (X : K.In h) (G : h.Ns mainGlobals mg) (a : PySem.W.nsIn K mainGlobals x = some (some (.ref f))) (l : K.lookup f = some ⟨oc, od, .func (PySem.W.fnOf x x (defArgs st) (defBody st) (defScope st) .none kV doc pm an cdv ct), osl⟩) (c : PySem.W.codeIn K cdv x = true) (k : PySem.W.keepIn K (.ref f) = true)
    (hb : ∀ (kV doc pm : Value) (an : Option Addr) (cdv ct : Value) (us : List Value), us.length = ps.length → bindArgs (PySem.W.fnOf x x (defArgs st) (defBody st) (defScope st) .none kV doc pm an cdv ct) ⟨us, []⟩ = pure (ps.zip us)) : DefIn K mg x st ps :=
  have F := fun_mk (st := st) l c k
  ⟨f, _, F, PySem.W.mg_of X G a, F.binds hb⟩
theorem met_mk {m qual : Str} {st : Stmt} {ps : List Str} (hc : Cls K C) (a : PySem.W.findIn K (.ref C) m = some (some (.ref f))) (i : PySem.W.isFn K (.ref f) = true) (l : K.lookup f = some ⟨oc, od, .func (PySem.W.fnOf m qual (defArgs st) (defBody st) (defScope st) .none kV doc pm an cdv ct), osl⟩) (c : PySem.W.codeIn K cdv qual = true) (k : PySem.W.keepIn K (.ref f) = true)
    (hb : ∀ (kV doc pm : Value) (an : Option Addr) (cdv ct : Value) (us : List Value), us.length = ps.length → bindArgs (PySem.W.fnOf m qual (defArgs st) (defBody st) (defScope st) .none kV doc pm an cdv ct) ⟨us, []⟩ = pure (ps.zip us)) : MetIn K C m qual st ps :=
  have F := fun_mk (st := st) l c k
  ⟨f, _, hc, ⟨a, i, k⟩, F, F.binds hb⟩
theorem init_mk {qual : Str} {st : Stmt} {ps : List Str} (mk : PySem.W.makesIn K C = true) (a : PySem.W.findIn K (.ref C) "__init__" = some (some (.ref f))) (i : PySem.W.isFn K (.ref f) = true) (kc : PySem.W.keepIn K (.ref C) = true) (l : K.lookup f = some ⟨oc, od, .func (PySem.W.fnOf "__init__" qual (defArgs st) (defBody st) (defScope st) .none kV doc pm an cdv ct), osl⟩) (c : PySem.W.codeIn K cdv qual = true) (k : PySem.W.keepIn K (.ref f) = true)
    (hb : ∀ (kV doc pm : Value) (an : Option Addr) (cdv ct : Value) (us : List Value), us.length = ps.length → bindArgs (PySem.W.fnOf "__init__" qual (defArgs st) (defBody st) (defScope st) .none kV doc pm an cdv ct) ⟨us, []⟩ = pure (ps.zip us)) : MkIn K C qual st ps :=
  have F := fun_mk (st := st) l c k
  ⟨f, _, ⟨mk, a, i, kc⟩, F, F.binds hb⟩
theorem cls_mk (pg : PySem.W.plainGet K C Str.empty = true) (hd : PySem.W.hasDictIn K C = true) (po : PySem.W.plainOver K C = true) (sa : PySem.W.findIn K (.ref C) "__setattr__" = some (some (.builtin "object.__setattr__"))) : Cls K C := ⟨pg, hd, po, sa⟩
/-- the built-in names -/
theorem bl_mk (X : K.In h) (G : h.Ns mainGlobals mg) (a1 : PySem.W.nsIn K mainGlobals "len" = some none) (a2 : PySem.W.nsIn K mainGlobals "sorted" = some none) (a3 : PySem.W.nsIn K mainGlobals "sum" = some none) (a4 : PySem.W.nsIn K mainGlobals "int" = some none) (a5 : PySem.W.nsIn K mainGlobals "list" = some none)
    (a6 : PySem.W.nsIn K mainGlobals "tuple" = some none) (a7 : PySem.W.nsIn K mainGlobals "isinstance" = some none) (a8 : PySem.W.nsIn K mainGlobals "str" = some none) (a9 : PySem.W.nsIn K mainGlobals "bool" = some none) (b1 : PySem.W.nsIn K mainGlobals "range" = some none) (b2 : PySem.W.nsIn K mainGlobals "ValueError" = some none) : Bl mg :=
  ⟨PySem.W.mg_none_of X G a1, PySem.W.mg_none_of X G a2, PySem.W.mg_none_of X G a3, PySem.W.mg_none_of X G a4, PySem.W.mg_none_of X G a5, PySem.W.mg_none_of X G a6, PySem.W.mg_none_of X G a7, PySem.W.mg_none_of X G a8, PySem.W.mg_none_of X G a9, PySem.W.mg_none_of X G b1, PySem.W.mg_none_of X G b2⟩
theorem err_mk {x : Str} (X : K.In h) (G : h.Ns mainGlobals mg) (a : PySem.W.nsIn K mainGlobals x = some (some (.ref C))) (e : PySem.W.excIn K C [.type "ValueError", .type "Exception", .type "BaseException", .type "object"] "ValueError.__new__" = true) (k : PySem.W.keepIn K (.ref C) = true)
    (b : PySem.W.subIn K (.ref C) (.type "BaseException") = some true) (t : PySem.W.typeIn K (.ref C) = some (.type "type")) : ErrOk K mg x C := ⟨e, PySem.W.mg_of X G a, k, b, t⟩
theorem errT_mk (hg : PySem.W.findIn K (.ref C) "__getattribute__" = some (some (.builtin "BaseException.__getattribute__"))) (hk : PySem.W.findIn K (.ref C) "__getattr__" = some none) (hs : PySem.W.subIn K (.ref C) (.type "BaseException") = some true) (hd : PySem.W.hasDictIn K C = true)
    (ha : PySem.W.findIn K (.ref C) "__class__" = some (some (.builtin "object.__class__"))) (hn : PySem.W.specialIn K (.builtin "object.__class__") "__get__" = some (some (.builtin "getset_descriptor.__get__"))) (ht : PySem.W.takesIn K (.builtin "object.__class__") = some true) (hm : PySem.W.mroIn K C (.type "object") = some true)
    (me : PySem.W.exmOne K (.ref C) (.ref C) = some true) (ve : PySem.W.kitOne K (.ref C) (.type "ValueError") = some true) : ErrT K C := ⟨⟨hg, hk, hs, hd, ha, hn, ht, hm⟩, me, ve⟩
theorem errT_of {x : Str} (_ : ErrOk K mg x C) (hg : PySem.W.findIn K (.ref C) "__getattribute__" = some (some (.builtin "BaseException.__getattribute__"))) (hk : PySem.W.findIn K (.ref C) "__getattr__" = some none) (hs : PySem.W.subIn K (.ref C) (.type "BaseException") = some true) (hd : PySem.W.hasDictIn K C = true)
    (ha : PySem.W.findIn K (.ref C) "__class__" = some (some (.builtin "object.__class__"))) (hn : PySem.W.specialIn K (.builtin "object.__class__") "__get__" = some (some (.builtin "getset_descriptor.__get__"))) (ht : PySem.W.takesIn K (.builtin "object.__class__") = some true) (hm : PySem.W.mroIn K C (.type "object") = some true)
    (me : PySem.W.exmOne K (.ref C) (.ref C) = some true) (ve : PySem.W.kitOne K (.ref C) (.type "ValueError") = some true) : ErrT K C := errT_mk hg hk hs hd ha hn ht hm me ve
theorem sup_mk {P : Program} {qual : Str} {st stV : Stmt} {D fV cc cda : Addr} {fdV : FuncData} {ccl cl : Value} {cdd cld : Option Addr} {vs : Array Value} {ccs csl : Array (Option Value)} {file : Str} {tf : Tok} {cd cd2 : ClassData} (X : K.In h) (G : h.Ns mainGlobals mg)
    (mk : PySem.W.makesIn K C = true) (a : PySem.W.findIn K (.ref C) "__init__" = some (some (.ref f))) (i : PySem.W.isFn K (.ref f) = true) (kc : PySem.W.keepIn K (.ref C) = true)
    (l : K.lookup f = some ⟨oc, od, .func (PySem.W.ksFn "__init__" qual (defArgs st) (defBody st) (defScope st) .none kV doc pm an (.ref cda) ct cc), osl⟩) (c : PySem.W.codeIn K (.ref cda) qual = true)
    (lc : K.lookup cda = some ⟨ccl, cdd, .fields vs, ccs⟩) (v2 : vs[2]? = some (.str file tf)) (hf : ((P.main.file : Str) == file) = true) (ce : K.lookup cc = some ⟨cl, cld, .cell (some (.ref D)), csl⟩) (cD : PySem.W.clsIn K D = some cd) (cC : PySem.W.clsIn K C = some cd2)
    (sub : PySem.W.mroIn K C (.ref D) = some true) (nos : PySem.W.nsIn K mainGlobals "super" = some none) (tp : (P.main.scope.names.lookup ("super" : Str)).isSome = false) (opq : PySem.W.nsIn K cStatics "thirdparty.any" = some none)
    (meth : PySem.W.ks_superIn K C D "__init__" = some (some (.ref fV))) (ty : PySem.W.typeIn K (.ref fV) = some (.type "function")) (fn : PySem.W.fnIn K fV = true) (FV : Fun K "__init__" "View.__init__" stV fV fdV) (bV : Binds K fdV psSup [])
    (hb : ∀ (kV doc pm : Value) (an : Option Addr) (cdv ct : Value) (cc : Addr) (us : List Value), us.length = 3 → bindArgs (PySem.W.ksFn "__init__" qual (defArgs st) (defBody st) (defScope st) .none kV doc pm an cdv ct cc) ⟨us, []⟩ = pure (psSup.zip us)) : SupIn P K mg C qual st stV :=
  ⟨D, f, fV, cc, cda, kV, doc, pm, an, ct, fdV, ⟨mk, a, i, kc⟩, ⟨⟨oc, od, osl, l⟩, ⟨ccl, cdd, vs, ccs, file, tf, lc, v2, hf⟩, ⟨cl, cld, csl, ce⟩, ⟨cd, cD⟩, ⟨cd2, cC⟩, sub, PySem.W.mg_none_of X G nos, tp, opq, meth, ty, fn⟩, c, .all (hb kV doc pm an (.ref cda) ct cc), FV, bV⟩
theorem own_mk {st : Stmt} {fd : FuncData} (mk : PySem.W.makesIn K C = true) (a : PySem.W.findIn K (.ref C) "__init__" = some (some (.ref f))) (i : PySem.W.isFn K (.ref f) = true) (kc : PySem.W.keepIn K (.ref C) = true) (F : Fun K "__init__" "View.__init__" st f fd) (b : Binds K fd psSup []) : OwnIn K C st :=
  ⟨f, fd, ⟨mk, a, i, kc⟩, F, b⟩
theorem cl_none {P : Program} {w : World} {base : Heap} {x : Str} {st : Stmt} {ps : List Str} (D : DefIn K mg x st ps) : Cl P w K mg base 1 x (spSame fun _ _ _ => False) := by
  obtain ⟨f, fd, F, hm, b⟩ := D.ex
  exact ⟨f, fd, ps, ⟨fun vs H Q E h => (by obtain ⟨_, _, _, z, _⟩ := h; exact z.elim), fun A outer s H args us vs Q E _ _ _ _ h => (by obtain ⟨_, _, _, z, _⟩ := h; exact z.elim)⟩, hm, F.kp, b⟩
end
def clOf (C1 C2 C3 C4 C5 C6 C7 : Addr) : ClsOf
  | .get => C1
  | .count => C2
  | .sum => C3
  | .list => C4
  | .least => C5
  | .top => C6
  | .whr => C7
theorem vt_mk {K : PySem.W.Frag} {C1 C2 C3 C4 C5 C6 C7 : Addr} (c1 : Cls K C1) (c2 : Cls K C2) (c3 : Cls K C3) (c4 : Cls K C4) (c5 : Cls K C5) (c6 : Cls K C6) (c7 : Cls K C7)
    (q1 : NoAttr K C1 "question") (q2 : NoAttr K C2 "question") (q3 : NoAttr K C3 "question") (q4 : NoAttr K C4 "question") (q5 : NoAttr K C5 "question") (q6 : NoAttr K C6 "question") (q7 : NoAttr K C7 "question")
    (v1 : NoAttr K C1 "cover") (v2 : NoAttr K C2 "cover") (v3 : NoAttr K C3 "cover") (v4 : NoAttr K C4 "cover") (v5 : NoAttr K C5 "cover") (v6 : NoAttr K C6 "cover") (v7 : NoAttr K C7 "cover")
    (k1 : NoAttr K C1 "known") (k2 : NoAttr K C2 "known") (k3 : NoAttr K C3 "known") (k4 : NoAttr K C4 "known") (k5 : NoAttr K C5 "known") (k6 : NoAttr K C6 "known") (k7 : NoAttr K C7 "known")
    (nt : NoAttr K C3 "total") (r1 : NoAttr K C4 "rows") (r2 : NoAttr K C7 "rows") (a1 : NoAttr K C5 "ranked") (a2 : NoAttr K C6 "ranked") : VT K (clOf C1 C2 C3 C4 C5 C6 C7) :=
  ⟨fun kd => (by cases kd <;> assumption), fun kd => (by cases kd <;> assumption), fun kd => (by cases kd <;> assumption), fun kd => (by cases kd <;> assumption), nt, r1, r2, a1, a2⟩
theorem all_mk {w : World} {K : PySem.W.Frag} {mg : Str → Option Value} {fa : Addr} {fd : FuncData} {C1 C2 C3 C4 C5 C6 C7 Cb CF CN : Addr} (T : Bl mg) (TV : VT K (clOf C1 C2 C3 C4 C5 C6 C7)) (BTf : BT K Cb) (EF : ErrOk K mg "Full" CF) (EN : ErrOk K mg "NotFound" CN) (TF : ErrT K CF) (TN : ErrT K CN) (NF : PySem.W.exmOne K (.ref CN) (.ref CF) = some false)
    (g1 : mg "GetView" = some (.ref C1)) (g2 : mg "CountView" = some (.ref C2)) (g3 : mg "SumView" = some (.ref C3)) (g4 : mg "ListView" = some (.ref C4)) (g5 : mg "LeastView" = some (.ref C5)) (g6 : mg "TopView" = some (.ref C6)) (g7 : mg "WhereView" = some (.ref C7)) (gb : mg "Board" = some (.ref Cb))
    (d_contains : DefIn K mg "contains" (top 5) ["cover", "key"])
    (d_cover_of : DefIn K mg "cover_of" (top 6) ["question"])
    (d_view_cover : DefIn K mg "view_cover" (top 8) ["question"])
    (d_place_of : DefIn K mg "place_of" (top 9) ["items", "item"])
    (d_add_item : DefIn K mg "add_item" (top 10) ["items", "item"])
    (d_drop_item : DefIn K mg "drop_item" (top 11) ["items", "item"])
    (d_make_view : DefIn K mg "make_view" (top 20) ["question", "records"])
    (d_law_mix : DefIn K mg "_law_mix" (top 24) ["_law_cell"])
    (d_law_number : DefIn K mg "_law_number" (top 25) ["_law_cell"])
    (d_law_state : DefIn K mg "_law_state" (top 26) ["_law_script"])
    (d_law_draw : DefIn K mg "_law_draw" (top 27) ["_law_state_here", "_law_many"])
    (d_law_is_integer : DefIn K mg "_law_is_integer" (top 28) ["_law_actual"])
    (d_law_tells : DefIn K mg "_law_tells" (top 29) ["_law_actual", "_law_due"])
    (d_law_key : DefIn K mg "_law_key" (top 30) ["_law_state_here"])
    (d_law_cover : DefIn K mg "_law_cover" (top 31) ["_law_state_here"])
    (d_law_question : DefIn K mg "_law_question" (top 32) ["_law_state_here"])
    (d_law_cover_of : DefIn K mg "_law_cover_of" (top 33) ["_law_question_here"])
    (d_law_group : DefIn K mg "_law_group" (top 34) ["_law_state_here"])
    (d_law_ledger : DefIn K mg "_law_ledger" (top 35) ["_law_state_here", "_law_count"])
    (d_law_at : DefIn K mg "_law_at" (top 36) ["_law_ledger_here", "_law_moment"])
    (d_law_rows : DefIn K mg "_law_rows" (top 37) ["_law_records_here", "_law_cover_here"])
    (d_law_ask : DefIn K mg "_law_ask" (top 38) ["_law_records_here", "_law_question_here"])
    (d_law_same : DefIn K mg "_law_same" (top 39) ["_law_actual", "_law_expected"])
    (d_law_records : DefIn K mg "_law_records" (top 40) ["_law_ledger_here", "_law_cover_here", "_law_moment"])
    (d_law_view_question : DefIn K mg "_law_view_question" (top 41) ["_law_state_here"])
    (d_law_view_cover : DefIn K mg "_law_view_cover" (top 42) ["_law_question_here"])
    (d_law_ask_view : DefIn K mg "_law_ask_view" (top 43) ["_law_records_here", "_law_question_here"])
    (d_law_all_right : DefIn K mg "_law_all_right" (top 44) ["_law_board", "_law_ledger_here", "_law_questions"])
    (d_law_refused : DefIn K mg "_law_refused" (top 45) ["_law_board", "_law_number_here", "_law_question_here", "_law_known"])
    (d_law_added : DefIn K mg "_law_added" (top 46) ["_law_state_here", "_law_board", "_law_ledger_here", "_law_questions", "_law_number_here"])
    (m_get_put : MetIn K C1 "put" "View.put" (inClass (top 12) 1) ["self", "key", "value"])
    (m_get_cancel : MetIn K C1 "cancel" "View.cancel" (inClass (top 12) 2) ["self", "key", "value"])
    (m_get_take : MetIn K C1 "take" "View.take" (inClass (top 12) 3) ["self", "group"])
    (m_get_answer : MetIn K C1 "answer" "GetView.answer" (inClass (top 13) 0) ["self"])
    (m_count_put : MetIn K C2 "put" "View.put" (inClass (top 12) 1) ["self", "key", "value"])
    (m_count_cancel : MetIn K C2 "cancel" "View.cancel" (inClass (top 12) 2) ["self", "key", "value"])
    (m_count_take : MetIn K C2 "take" "View.take" (inClass (top 12) 3) ["self", "group"])
    (m_count_answer : MetIn K C2 "answer" "CountView.answer" (inClass (top 14) 0) ["self"])
    (m_sum_put : MetIn K C3 "put" "SumView.put" (inClass (top 15) 1) ["self", "key", "value"])
    (m_sum_cancel : MetIn K C3 "cancel" "SumView.cancel" (inClass (top 15) 2) ["self", "key", "value"])
    (m_sum_take : MetIn K C3 "take" "View.take" (inClass (top 12) 3) ["self", "group"])
    (m_sum_answer : MetIn K C3 "answer" "SumView.answer" (inClass (top 15) 3) ["self"])
    (m_list_put : MetIn K C4 "put" "ListView.put" (inClass (top 16) 1) ["self", "key", "value"])
    (m_list_cancel : MetIn K C4 "cancel" "ListView.cancel" (inClass (top 16) 2) ["self", "key", "value"])
    (m_list_take : MetIn K C4 "take" "View.take" (inClass (top 12) 3) ["self", "group"])
    (m_list_answer : MetIn K C4 "answer" "ListView.answer" (inClass (top 16) 3) ["self"])
    (m_least_put : MetIn K C5 "put" "LeastView.put" (inClass (top 17) 1) ["self", "key", "value"])
    (m_least_cancel : MetIn K C5 "cancel" "LeastView.cancel" (inClass (top 17) 2) ["self", "key", "value"])
    (m_least_take : MetIn K C5 "take" "View.take" (inClass (top 12) 3) ["self", "group"])
    (m_least_answer : MetIn K C5 "answer" "LeastView.answer" (inClass (top 17) 3) ["self"])
    (m_top_put : MetIn K C6 "put" "TopView.put" (inClass (top 18) 1) ["self", "key", "value"])
    (m_top_cancel : MetIn K C6 "cancel" "TopView.cancel" (inClass (top 18) 2) ["self", "key", "value"])
    (m_top_take : MetIn K C6 "take" "View.take" (inClass (top 12) 3) ["self", "group"])
    (m_top_answer : MetIn K C6 "answer" "TopView.answer" (inClass (top 18) 3) ["self"])
    (m_whr_put : MetIn K C7 "put" "WhereView.put" (inClass (top 19) 2) ["self", "key", "value"])
    (m_whr_cancel : MetIn K C7 "cancel" "WhereView.cancel" (inClass (top 19) 3) ["self", "key", "value"])
    (m_whr_take : MetIn K C7 "take" "View.take" (inClass (top 12) 3) ["self", "group"])
    (m_whr_answer : MetIn K C7 "answer" "WhereView.answer" (inClass (top 19) 4) ["self"])
    (m_whr_is_met : MetIn K C7 "is_met" "WhereView.is_met" (inClass (top 19) 1) ["self", "value"])
    (m_board_mark : MetIn K Cb "mark" "Board.mark" (inClass (top 22) 1) ["self"])
    (m_board_numbers : MetIn K Cb "numbers" "Board.numbers" (inClass (top 22) 2) ["self"])
    (m_board_forget_early : MetIn K Cb "_forget_early" "Board._forget_early" (inClass (top 22) 3) ["self"])
    (m_board_move : MetIn K Cb "_move" "Board._move" (inClass (top 22) 4) ["self"])
    (m_board_add : MetIn K Cb "add" "Board.add" (inClass (top 22) 5) ["self", "number", "question", "records", "moment"])
    (m_board_remove : MetIn K Cb "remove" "Board.remove" (inClass (top 22) 6) ["self", "number"])
    (m_board_note : MetIn K Cb "note" "Board.note" (inClass (top 22) 7) ["self", "c", "group"])
    (m_board_answer : MetIn K Cb "answer" "Board.answer" (inClass (top 22) 8) ["self", "number"])
    (o_get : OwnIn K C1 (inClass (top 12) 0))
    (o_count : OwnIn K C2 (inClass (top 12) 0))
    (s_sum : SupIn PySem.Challenge.pw_leasehall_k47_whole_boards K mg C3 "SumView.__init__" (inClass (top 15) 0) (inClass (top 12) 0))
    (s_list : SupIn PySem.Challenge.pw_leasehall_k47_whole_boards K mg C4 "ListView.__init__" (inClass (top 16) 0) (inClass (top 12) 0))
    (s_least : SupIn PySem.Challenge.pw_leasehall_k47_whole_boards K mg C5 "LeastView.__init__" (inClass (top 17) 0) (inClass (top 12) 0))
    (s_top : SupIn PySem.Challenge.pw_leasehall_k47_whole_boards K mg C6 "TopView.__init__" (inClass (top 18) 0) (inClass (top 12) 0))
    (s_whr : SupIn PySem.Challenge.pw_leasehall_k47_whole_boards K mg C7 "WhereView.__init__" (inClass (top 19) 0) (inClass (top 12) 0))
    (o_board : MkIn K Cb "Board.__init__" (inClass (top 22) 0) ["self"])
    (F : Fun K "law" "law" (top 47) fa fd) (base : Heap) : FnOk PySem.Challenge.pw_leasehall_k47_whole_boards w K mg base CX0 11 fa fd ["_law_script"] (spLaw K) := by
  have c1 : Cl PySem.Challenge.pw_leasehall_k47_whole_boards w K mg base 1 "contains" spContains := c_contains d_contains
  have c2 : Cl PySem.Challenge.pw_leasehall_k47_whole_boards w K mg base 1 "cover_of" (spCover false) := c_cover_of d_cover_of
  have c3 := c_view_cover d_view_cover c2
  have c4 : Cl PySem.Challenge.pw_leasehall_k47_whole_boards w K mg base 1 "place_of" spPlace := c_place_of T d_place_of
  have c5 := c_add_item d_add_item c4
  have c6 := c_drop_item d_drop_item c4
  generalize ecl : clOf C1 C2 C3 C4 C5 C6 C7 = cl at TV
  have e1 : C1 = cl .get := by rw [← ecl]; rfl
  have e2 : C2 = cl .count := by rw [← ecl]; rfl
  have e3 : C3 = cl .sum := by rw [← ecl]; rfl
  have e4 : C4 = cl .list := by rw [← ecl]; rfl
  have e5 : C5 = cl .least := by rw [← ecl]; rfl
  have e6 : C6 = cl .top := by rw [← ecl]; rfl
  have e7 : C7 = cl .whr := by rw [← ecl]; rfl
  clear ecl
  subst e1 e2 e3 e4 e5 e6 e7
  have p1 := (m_View_put (P := PySem.Challenge.pw_leasehall_k47_whole_boards) (w := w) (base := base) (mg := mg) (.inl rfl) m_get_put).mono (show 1 ≤ 3 by decide)
  have q1 := (m_View_cancel (P := PySem.Challenge.pw_leasehall_k47_whole_boards) (w := w) (base := base) (mg := mg) (.inl rfl) m_get_cancel).mono (show 1 ≤ 3 by decide)
  have p2 := (m_View_put (P := PySem.Challenge.pw_leasehall_k47_whole_boards) (w := w) (base := base) (mg := mg) (.inr rfl) m_count_put).mono (show 1 ≤ 3 by decide)
  have q2 := (m_View_cancel (P := PySem.Challenge.pw_leasehall_k47_whole_boards) (w := w) (base := base) (mg := mg) (.inr rfl) m_count_cancel).mono (show 1 ≤ 3 by decide)
  have p3 := (m_SumView_put (P := PySem.Challenge.pw_leasehall_k47_whole_boards) (w := w) (base := base) (mg := mg) TV m_sum_put).mono (show 1 ≤ 3 by decide)
  have q3 := (m_SumView_cancel (P := PySem.Challenge.pw_leasehall_k47_whole_boards) (w := w) (base := base) (mg := mg) TV m_sum_cancel).mono (show 1 ≤ 3 by decide)
  have p4 := m_ListView_put TV c5 m_list_put
  have q4 := m_ListView_cancel TV c6 m_list_cancel
  have p5 := m_LeastView_put TV c5 m_least_put
  have q5 := m_LeastView_cancel TV c6 m_least_cancel
  have p6 := m_TopView_put TV c5 m_top_put
  have q6 := m_TopView_cancel TV c6 m_top_cancel
  have mt : Mt PySem.Challenge.pw_leasehall_k47_whole_boards w K mg base 1 (cl .whr) "is_met" (spMet (K := K)) := m_WhereView_is_met m_whr_is_met
  have p7 := m_WhereView_put TV c5 mt m_whr_put
  have q7 := m_WhereView_cancel TV c6 mt m_whr_cancel
  have tk : ∀ kd, Mt PySem.Challenge.pw_leasehall_k47_whole_boards w K mg base 4 (cl kd) "take" (spTake cl kd) := fun kd => match kd with
    | .get => m_View_take TV c1 p1 q1 m_get_take
    | .count => m_View_take TV c1 p2 q2 m_count_take
    | .sum => m_View_take TV c1 p3 q3 m_sum_take
    | .list => m_View_take TV c1 p4 q4 m_list_take
    | .least => m_View_take TV c1 p5 q5 m_least_take
    | .top => m_View_take TV c1 p6 q6 m_top_take
    | .whr => m_View_take TV c1 p7 q7 m_whr_take
  have an : ∀ kd, Mt PySem.Challenge.pw_leasehall_k47_whole_boards w K mg base 1 (cl kd) "answer" (spAns cl kd) := fun kd => match kd with
    | .get => m_GetView_answer TV m_get_answer
    | .count => m_CountView_answer T TV m_count_answer
    | .sum => m_SumView_answer TV m_sum_answer
    | .list => m_ListView_answer T TV m_list_answer
    | .least => m_LeastView_answer T TV m_least_answer
    | .top => m_TopView_answer T TV m_top_answer
    | .whr => m_WhereView_answer T TV m_whr_answer
  have k1 := k_own (x := "GetView") (.inl rfl) T TV c1 c3 p1 o_get g1
  have k2 := k_own (x := "CountView") (.inr rfl) T TV c1 c3 p2 o_count g2
  have k3 := k_SumView T TV c1 c3 p3 s_sum g3
  have k4 := k_ListView T TV c1 c3 p4 s_list g4
  have k5 := k_LeastView T TV c1 c3 p5 s_least g5
  have k6 := k_TopView T TV c1 c3 p6 s_top g6
  have k7 := k_WhereView T TV c1 c3 p7 s_whr g7
  have mv := c_make_view k1 k2 k3 k4 k5 k6 k7 d_make_view
  have kb : Mk1 PySem.Challenge.pw_leasehall_k47_whole_boards w K mg base 1 "Board" Cb (spBInit cl Cb) := k_Board_x BTf o_board gb
  have b1 : Mt PySem.Challenge.pw_leasehall_k47_whole_boards w K mg base 1 Cb "mark" (spMark cl Cb) := m_Board_mark_x BTf m_board_mark
  have b2 : Mt PySem.Challenge.pw_leasehall_k47_whole_boards w K mg base 1 Cb "numbers" (spNumbers cl Cb) := m_Board_numbers_x T BTf m_board_numbers
  have b3 : Mt PySem.Challenge.pw_leasehall_k47_whole_boards w K mg base 1 Cb "_forget_early" (spForget Cb) := m_Board_forget T BTf m_board_forget_early
  have b4 := m_Board_move T BTf tk m_board_move
  have b5 := m_Board_note_x BTf b4 m_board_note
  have b6 : MtX PySem.Challenge.pw_leasehall_k47_whole_boards w K mg base 1 Cb "remove" (spRem cl Cb) := m_Board_remove_x BTf EN m_board_remove
  have b7 := m_Board_answer_x BTf an EN m_board_answer
  have b8 := m_Board_add_x T BTf mv b3 b4 EF m_board_add
  have l1 : Cl PySem.Challenge.pw_leasehall_k47_whole_boards w K mg base 1 "_law_mix" spMix := c__law_mix_x T d_law_mix
  have l2 := c__law_number_x l1 d_law_number
  have l3 : Cl PySem.Challenge.pw_leasehall_k47_whole_boards w K mg base 1 "_law_state" (spState K) := c__law_state_x T d_law_state
  have l4 := c__law_draw_x T l2 d_law_draw
  have l5 := c__law_key_x l4 d_law_key
  have l6 := c__law_cover_x l4 l5 d_law_cover
  have l7 := c__law_question_x l4 l6 d_law_question
  have l8 := c__law_group_x T l4 l5 d_law_group
  have l9 := c__law_ledger_x T l4 l8 d_law_ledger
  have l10 : Cl PySem.Challenge.pw_leasehall_k47_whole_boards w K mg base 1 "_law_at" spAt := c__law_at_x d_law_at
  have l11 : Cl PySem.Challenge.pw_leasehall_k47_whole_boards w K mg base 1 "_law_rows" spRows := c__law_rows_x T d_law_rows
  have l12 := c__law_records_x l10 l11 d_law_records
  have l13 : Cl PySem.Challenge.pw_leasehall_k47_whole_boards w K mg base 1 "_law_cover_of" (spCover false) := c__law_cover_of_x d_law_cover_of
  have l14 := c__law_view_cover_x l13 d_law_view_cover
  have l15 := c__law_view_question_x l4 l6 l7 d_law_view_question
  have l16 := c__law_ask_x T l11 l13 d_law_ask
  have l17 := c__law_ask_view_x T l11 l14 l16 d_law_ask_view
  have l18 : Cl PySem.Challenge.pw_leasehall_k47_whole_boards w K mg base 1 "_law_tells" spTells := c__law_tells_x d_law_tells
  have l19 : Cl PySem.Challenge.pw_leasehall_k47_whole_boards w K mg base 1 "_law_is_integer" spIsInt := c__law_is_integer_x T d_law_is_integer
  have s1 := c__law_same_x kpr_no (Nat.le_refl 1) T l18 l19 (cl_none d_law_same) d_law_same
  have s2 := c__law_same_x (kpr_lift kpr_no) (by decide) T l18 l19 s1 d_law_same
  have s3 := c__law_same_x (kpr_lift (kpr_lift kpr_no)) (by decide) T l18 l19 s2 d_law_same
  have r1 := c__law_all_right_x T b2 b1 b7 l12 l17 s3 d_law_all_right
  have r2 := c__law_refused_x T b8 b7 EF EN TF TN NF d_law_refused
  have r3 := c__law_added_x T l15 l4 l12 b1 b8 l18 r2 d_law_added
  exact ok_law T l3 l4 l9 kb b1 b5 b6 b7 r3 r1 F
theorem di_contains {K : PySem.W.Frag} {mg : Str → Option Value} {h : Heap} {f : Addr} {oc : Value} {od an : Option Addr} {osl : Array (Option Value)} {kV doc pm cdv ct : Value} (X : K.In h) (G : h.Ns mainGlobals mg) (a : PySem.W.nsIn K mainGlobals "contains" = some (some (.ref f))) (l : K.lookup f = some ⟨oc, od, .func (PySem.W.fnOf "contains" "contains" (defArgs (top 5)) (defBody (top 5)) (defScope (top 5)) .none kV doc pm an cdv ct), osl⟩) (c : PySem.W.codeIn K cdv "contains" = true) (k : PySem.W.keepIn K (.ref f) = true) : DefIn K mg "contains" (top 5) ["cover", "key"] :=
  def_mk X G a l c k (fun _ _ _ _ _ _ us hl => match us, hl with | [_, _], _ => rfl)
theorem di_cover_of {K : PySem.W.Frag} {mg : Str → Option Value} {h : Heap} {f : Addr} {oc : Value} {od an : Option Addr} {osl : Array (Option Value)} {kV doc pm cdv ct : Value} (X : K.In h) (G : h.Ns mainGlobals mg) (a : PySem.W.nsIn K mainGlobals "cover_of" = some (some (.ref f))) (l : K.lookup f = some ⟨oc, od, .func (PySem.W.fnOf "cover_of" "cover_of" (defArgs (top 6)) (defBody (top 6)) (defScope (top 6)) .none kV doc pm an cdv ct), osl⟩) (c : PySem.W.codeIn K cdv "cover_of" = true) (k : PySem.W.keepIn K (.ref f) = true) : DefIn K mg "cover_of" (top 6) ["question"] :=
  def_mk X G a l c k (fun _ _ _ _ _ _ us hl => match us, hl with | [_], _ => rfl)
theorem di_view_cover {K : PySem.W.Frag} {mg : Str → Option Value} {h : Heap} {f : Addr} {oc : Value} {od an : Option Addr} {osl : Array (Option Value)} {kV doc pm cdv ct : Value} (X : K.In h) (G : h.Ns mainGlobals mg) (a : PySem.W.nsIn K mainGlobals "view_cover" = some (some (.ref f))) (l : K.lookup f = some ⟨oc, od, .func (PySem.W.fnOf "view_cover" "view_cover" (defArgs (top 8)) (defBody (top 8)) (defScope (top 8)) .none kV doc pm an cdv ct), osl⟩) (c : PySem.W.codeIn K cdv "view_cover" = true) (k : PySem.W.keepIn K (.ref f) = true) : DefIn K mg "view_cover" (top 8) ["question"] :=
  def_mk X G a l c k (fun _ _ _ _ _ _ us hl => match us, hl with | [_], _ => rfl)
theorem di_place_of {K : PySem.W.Frag} {mg : Str → Option Value} {h : Heap} {f : Addr} {oc : Value} {od an : Option Addr} {osl : Array (Option Value)} {kV doc pm cdv ct : Value} (X : K.In h) (G : h.Ns mainGlobals mg) (a : PySem.W.nsIn K mainGlobals "place_of" = some (some (.ref f))) (l : K.lookup f = some ⟨oc, od, .func (PySem.W.fnOf "place_of" "place_of" (defArgs (top 9)) (defBody (top 9)) (defScope (top 9)) .none kV doc pm an cdv ct), osl⟩) (c : PySem.W.codeIn K cdv "place_of" = true) (k : PySem.W.keepIn K (.ref f) = true) : DefIn K mg "place_of" (top 9) ["items", "item"] :=
  def_mk X G a l c k (fun _ _ _ _ _ _ us hl => match us, hl with | [_, _], _ => rfl)
theorem di_add_item {K : PySem.W.Frag} {mg : Str → Option Value} {h : Heap} {f : Addr} {oc : Value} {od an : Option Addr} {osl : Array (Option Value)} {kV doc pm cdv ct : Value} (X : K.In h) (G : h.Ns mainGlobals mg) (a : PySem.W.nsIn K mainGlobals "add_item" = some (some (.ref f))) (l : K.lookup f = some ⟨oc, od, .func (PySem.W.fnOf "add_item" "add_item" (defArgs (top 10)) (defBody (top 10)) (defScope (top 10)) .none kV doc pm an cdv ct), osl⟩) (c : PySem.W.codeIn K cdv "add_item" = true) (k : PySem.W.keepIn K (.ref f) = true) : DefIn K mg "add_item" (top 10) ["items", "item"] :=
  def_mk X G a l c k (fun _ _ _ _ _ _ us hl => match us, hl with | [_, _], _ => rfl)
theorem di_drop_item {K : PySem.W.Frag} {mg : Str → Option Value} {h : Heap} {f : Addr} {oc : Value} {od an : Option Addr} {osl : Array (Option Value)} {kV doc pm cdv ct : Value} (X : K.In h) (G : h.Ns mainGlobals mg) (a : PySem.W.nsIn K mainGlobals "drop_item" = some (some (.ref f))) (l : K.lookup f = some ⟨oc, od, .func (PySem.W.fnOf "drop_item" "drop_item" (defArgs (top 11)) (defBody (top 11)) (defScope (top 11)) .none kV doc pm an cdv ct), osl⟩) (c : PySem.W.codeIn K cdv "drop_item" = true) (k : PySem.W.keepIn K (.ref f) = true) : DefIn K mg "drop_item" (top 11) ["items", "item"] :=
  def_mk X G a l c k (fun _ _ _ _ _ _ us hl => match us, hl with | [_, _], _ => rfl)
theorem di_make_view {K : PySem.W.Frag} {mg : Str → Option Value} {h : Heap} {f : Addr} {oc : Value} {od an : Option Addr} {osl : Array (Option Value)} {kV doc pm cdv ct : Value} (X : K.In h) (G : h.Ns mainGlobals mg) (a : PySem.W.nsIn K mainGlobals "make_view" = some (some (.ref f))) (l : K.lookup f = some ⟨oc, od, .func (PySem.W.fnOf "make_view" "make_view" (defArgs (top 20)) (defBody (top 20)) (defScope (top 20)) .none kV doc pm an cdv ct), osl⟩) (c : PySem.W.codeIn K cdv "make_view" = true) (k : PySem.W.keepIn K (.ref f) = true) : DefIn K mg "make_view" (top 20) ["question", "records"] :=
  def_mk X G a l c k (fun _ _ _ _ _ _ us hl => match us, hl with | [_, _], _ => rfl)
theorem di_law_mix {K : PySem.W.Frag} {mg : Str → Option Value} {h : Heap} {f : Addr} {oc : Value} {od an : Option Addr} {osl : Array (Option Value)} {kV doc pm cdv ct : Value} (X : K.In h) (G : h.Ns mainGlobals mg) (a : PySem.W.nsIn K mainGlobals "_law_mix" = some (some (.ref f))) (l : K.lookup f = some ⟨oc, od, .func (PySem.W.fnOf "_law_mix" "_law_mix" (defArgs (top 24)) (defBody (top 24)) (defScope (top 24)) .none kV doc pm an cdv ct), osl⟩) (c : PySem.W.codeIn K cdv "_law_mix" = true) (k : PySem.W.keepIn K (.ref f) = true) : DefIn K mg "_law_mix" (top 24) ["_law_cell"] :=
  def_mk X G a l c k (fun _ _ _ _ _ _ us hl => match us, hl with | [_], _ => rfl)
theorem di_law_number {K : PySem.W.Frag} {mg : Str → Option Value} {h : Heap} {f : Addr} {oc : Value} {od an : Option Addr} {osl : Array (Option Value)} {kV doc pm cdv ct : Value} (X : K.In h) (G : h.Ns mainGlobals mg) (a : PySem.W.nsIn K mainGlobals "_law_number" = some (some (.ref f))) (l : K.lookup f = some ⟨oc, od, .func (PySem.W.fnOf "_law_number" "_law_number" (defArgs (top 25)) (defBody (top 25)) (defScope (top 25)) .none kV doc pm an cdv ct), osl⟩) (c : PySem.W.codeIn K cdv "_law_number" = true) (k : PySem.W.keepIn K (.ref f) = true) : DefIn K mg "_law_number" (top 25) ["_law_cell"] :=
  def_mk X G a l c k (fun _ _ _ _ _ _ us hl => match us, hl with | [_], _ => rfl)
theorem di_law_state {K : PySem.W.Frag} {mg : Str → Option Value} {h : Heap} {f : Addr} {oc : Value} {od an : Option Addr} {osl : Array (Option Value)} {kV doc pm cdv ct : Value} (X : K.In h) (G : h.Ns mainGlobals mg) (a : PySem.W.nsIn K mainGlobals "_law_state" = some (some (.ref f))) (l : K.lookup f = some ⟨oc, od, .func (PySem.W.fnOf "_law_state" "_law_state" (defArgs (top 26)) (defBody (top 26)) (defScope (top 26)) .none kV doc pm an cdv ct), osl⟩) (c : PySem.W.codeIn K cdv "_law_state" = true) (k : PySem.W.keepIn K (.ref f) = true) : DefIn K mg "_law_state" (top 26) ["_law_script"] :=
  def_mk X G a l c k (fun _ _ _ _ _ _ us hl => match us, hl with | [_], _ => rfl)
theorem di_law_draw {K : PySem.W.Frag} {mg : Str → Option Value} {h : Heap} {f : Addr} {oc : Value} {od an : Option Addr} {osl : Array (Option Value)} {kV doc pm cdv ct : Value} (X : K.In h) (G : h.Ns mainGlobals mg) (a : PySem.W.nsIn K mainGlobals "_law_draw" = some (some (.ref f))) (l : K.lookup f = some ⟨oc, od, .func (PySem.W.fnOf "_law_draw" "_law_draw" (defArgs (top 27)) (defBody (top 27)) (defScope (top 27)) .none kV doc pm an cdv ct), osl⟩) (c : PySem.W.codeIn K cdv "_law_draw" = true) (k : PySem.W.keepIn K (.ref f) = true) : DefIn K mg "_law_draw" (top 27) ["_law_state_here", "_law_many"] :=
  def_mk X G a l c k (fun _ _ _ _ _ _ us hl => match us, hl with | [_, _], _ => rfl)
theorem di_law_is_integer {K : PySem.W.Frag} {mg : Str → Option Value} {h : Heap} {f : Addr} {oc : Value} {od an : Option Addr} {osl : Array (Option Value)} {kV doc pm cdv ct : Value} (X : K.In h) (G : h.Ns mainGlobals mg) (a : PySem.W.nsIn K mainGlobals "_law_is_integer" = some (some (.ref f))) (l : K.lookup f = some ⟨oc, od, .func (PySem.W.fnOf "_law_is_integer" "_law_is_integer" (defArgs (top 28)) (defBody (top 28)) (defScope (top 28)) .none kV doc pm an cdv ct), osl⟩) (c : PySem.W.codeIn K cdv "_law_is_integer" = true) (k : PySem.W.keepIn K (.ref f) = true) : DefIn K mg "_law_is_integer" (top 28) ["_law_actual"] :=
  def_mk X G a l c k (fun _ _ _ _ _ _ us hl => match us, hl with | [_], _ => rfl)
theorem di_law_tells {K : PySem.W.Frag} {mg : Str → Option Value} {h : Heap} {f : Addr} {oc : Value} {od an : Option Addr} {osl : Array (Option Value)} {kV doc pm cdv ct : Value} (X : K.In h) (G : h.Ns mainGlobals mg) (a : PySem.W.nsIn K mainGlobals "_law_tells" = some (some (.ref f))) (l : K.lookup f = some ⟨oc, od, .func (PySem.W.fnOf "_law_tells" "_law_tells" (defArgs (top 29)) (defBody (top 29)) (defScope (top 29)) .none kV doc pm an cdv ct), osl⟩) (c : PySem.W.codeIn K cdv "_law_tells" = true) (k : PySem.W.keepIn K (.ref f) = true) : DefIn K mg "_law_tells" (top 29) ["_law_actual", "_law_due"] :=
  def_mk X G a l c k (fun _ _ _ _ _ _ us hl => match us, hl with | [_, _], _ => rfl)
theorem di_law_key {K : PySem.W.Frag} {mg : Str → Option Value} {h : Heap} {f : Addr} {oc : Value} {od an : Option Addr} {osl : Array (Option Value)} {kV doc pm cdv ct : Value} (X : K.In h) (G : h.Ns mainGlobals mg) (a : PySem.W.nsIn K mainGlobals "_law_key" = some (some (.ref f))) (l : K.lookup f = some ⟨oc, od, .func (PySem.W.fnOf "_law_key" "_law_key" (defArgs (top 30)) (defBody (top 30)) (defScope (top 30)) .none kV doc pm an cdv ct), osl⟩) (c : PySem.W.codeIn K cdv "_law_key" = true) (k : PySem.W.keepIn K (.ref f) = true) : DefIn K mg "_law_key" (top 30) ["_law_state_here"] :=
  def_mk X G a l c k (fun _ _ _ _ _ _ us hl => match us, hl with | [_], _ => rfl)
theorem di_law_cover {K : PySem.W.Frag} {mg : Str → Option Value} {h : Heap} {f : Addr} {oc : Value} {od an : Option Addr} {osl : Array (Option Value)} {kV doc pm cdv ct : Value} (X : K.In h) (G : h.Ns mainGlobals mg) (a : PySem.W.nsIn K mainGlobals "_law_cover" = some (some (.ref f))) (l : K.lookup f = some ⟨oc, od, .func (PySem.W.fnOf "_law_cover" "_law_cover" (defArgs (top 31)) (defBody (top 31)) (defScope (top 31)) .none kV doc pm an cdv ct), osl⟩) (c : PySem.W.codeIn K cdv "_law_cover" = true) (k : PySem.W.keepIn K (.ref f) = true) : DefIn K mg "_law_cover" (top 31) ["_law_state_here"] :=
  def_mk X G a l c k (fun _ _ _ _ _ _ us hl => match us, hl with | [_], _ => rfl)
theorem di_law_question {K : PySem.W.Frag} {mg : Str → Option Value} {h : Heap} {f : Addr} {oc : Value} {od an : Option Addr} {osl : Array (Option Value)} {kV doc pm cdv ct : Value} (X : K.In h) (G : h.Ns mainGlobals mg) (a : PySem.W.nsIn K mainGlobals "_law_question" = some (some (.ref f))) (l : K.lookup f = some ⟨oc, od, .func (PySem.W.fnOf "_law_question" "_law_question" (defArgs (top 32)) (defBody (top 32)) (defScope (top 32)) .none kV doc pm an cdv ct), osl⟩) (c : PySem.W.codeIn K cdv "_law_question" = true) (k : PySem.W.keepIn K (.ref f) = true) : DefIn K mg "_law_question" (top 32) ["_law_state_here"] :=
  def_mk X G a l c k (fun _ _ _ _ _ _ us hl => match us, hl with | [_], _ => rfl)
theorem di_law_cover_of {K : PySem.W.Frag} {mg : Str → Option Value} {h : Heap} {f : Addr} {oc : Value} {od an : Option Addr} {osl : Array (Option Value)} {kV doc pm cdv ct : Value} (X : K.In h) (G : h.Ns mainGlobals mg) (a : PySem.W.nsIn K mainGlobals "_law_cover_of" = some (some (.ref f))) (l : K.lookup f = some ⟨oc, od, .func (PySem.W.fnOf "_law_cover_of" "_law_cover_of" (defArgs (top 33)) (defBody (top 33)) (defScope (top 33)) .none kV doc pm an cdv ct), osl⟩) (c : PySem.W.codeIn K cdv "_law_cover_of" = true) (k : PySem.W.keepIn K (.ref f) = true) : DefIn K mg "_law_cover_of" (top 33) ["_law_question_here"] :=
  def_mk X G a l c k (fun _ _ _ _ _ _ us hl => match us, hl with | [_], _ => rfl)
theorem di_law_group {K : PySem.W.Frag} {mg : Str → Option Value} {h : Heap} {f : Addr} {oc : Value} {od an : Option Addr} {osl : Array (Option Value)} {kV doc pm cdv ct : Value} (X : K.In h) (G : h.Ns mainGlobals mg) (a : PySem.W.nsIn K mainGlobals "_law_group" = some (some (.ref f))) (l : K.lookup f = some ⟨oc, od, .func (PySem.W.fnOf "_law_group" "_law_group" (defArgs (top 34)) (defBody (top 34)) (defScope (top 34)) .none kV doc pm an cdv ct), osl⟩) (c : PySem.W.codeIn K cdv "_law_group" = true) (k : PySem.W.keepIn K (.ref f) = true) : DefIn K mg "_law_group" (top 34) ["_law_state_here"] :=
  def_mk X G a l c k (fun _ _ _ _ _ _ us hl => match us, hl with | [_], _ => rfl)
theorem di_law_ledger {K : PySem.W.Frag} {mg : Str → Option Value} {h : Heap} {f : Addr} {oc : Value} {od an : Option Addr} {osl : Array (Option Value)} {kV doc pm cdv ct : Value} (X : K.In h) (G : h.Ns mainGlobals mg) (a : PySem.W.nsIn K mainGlobals "_law_ledger" = some (some (.ref f))) (l : K.lookup f = some ⟨oc, od, .func (PySem.W.fnOf "_law_ledger" "_law_ledger" (defArgs (top 35)) (defBody (top 35)) (defScope (top 35)) .none kV doc pm an cdv ct), osl⟩) (c : PySem.W.codeIn K cdv "_law_ledger" = true) (k : PySem.W.keepIn K (.ref f) = true) : DefIn K mg "_law_ledger" (top 35) ["_law_state_here", "_law_count"] :=
  def_mk X G a l c k (fun _ _ _ _ _ _ us hl => match us, hl with | [_, _], _ => rfl)
theorem di_law_at {K : PySem.W.Frag} {mg : Str → Option Value} {h : Heap} {f : Addr} {oc : Value} {od an : Option Addr} {osl : Array (Option Value)} {kV doc pm cdv ct : Value} (X : K.In h) (G : h.Ns mainGlobals mg) (a : PySem.W.nsIn K mainGlobals "_law_at" = some (some (.ref f))) (l : K.lookup f = some ⟨oc, od, .func (PySem.W.fnOf "_law_at" "_law_at" (defArgs (top 36)) (defBody (top 36)) (defScope (top 36)) .none kV doc pm an cdv ct), osl⟩) (c : PySem.W.codeIn K cdv "_law_at" = true) (k : PySem.W.keepIn K (.ref f) = true) : DefIn K mg "_law_at" (top 36) ["_law_ledger_here", "_law_moment"] :=
  def_mk X G a l c k (fun _ _ _ _ _ _ us hl => match us, hl with | [_, _], _ => rfl)
theorem di_law_rows {K : PySem.W.Frag} {mg : Str → Option Value} {h : Heap} {f : Addr} {oc : Value} {od an : Option Addr} {osl : Array (Option Value)} {kV doc pm cdv ct : Value} (X : K.In h) (G : h.Ns mainGlobals mg) (a : PySem.W.nsIn K mainGlobals "_law_rows" = some (some (.ref f))) (l : K.lookup f = some ⟨oc, od, .func (PySem.W.fnOf "_law_rows" "_law_rows" (defArgs (top 37)) (defBody (top 37)) (defScope (top 37)) .none kV doc pm an cdv ct), osl⟩) (c : PySem.W.codeIn K cdv "_law_rows" = true) (k : PySem.W.keepIn K (.ref f) = true) : DefIn K mg "_law_rows" (top 37) ["_law_records_here", "_law_cover_here"] :=
  def_mk X G a l c k (fun _ _ _ _ _ _ us hl => match us, hl with | [_, _], _ => rfl)
theorem di_law_ask {K : PySem.W.Frag} {mg : Str → Option Value} {h : Heap} {f : Addr} {oc : Value} {od an : Option Addr} {osl : Array (Option Value)} {kV doc pm cdv ct : Value} (X : K.In h) (G : h.Ns mainGlobals mg) (a : PySem.W.nsIn K mainGlobals "_law_ask" = some (some (.ref f))) (l : K.lookup f = some ⟨oc, od, .func (PySem.W.fnOf "_law_ask" "_law_ask" (defArgs (top 38)) (defBody (top 38)) (defScope (top 38)) .none kV doc pm an cdv ct), osl⟩) (c : PySem.W.codeIn K cdv "_law_ask" = true) (k : PySem.W.keepIn K (.ref f) = true) : DefIn K mg "_law_ask" (top 38) ["_law_records_here", "_law_question_here"] :=
  def_mk X G a l c k (fun _ _ _ _ _ _ us hl => match us, hl with | [_, _], _ => rfl)
theorem di_law_same {K : PySem.W.Frag} {mg : Str → Option Value} {h : Heap} {f : Addr} {oc : Value} {od an : Option Addr} {osl : Array (Option Value)} {kV doc pm cdv ct : Value} (X : K.In h) (G : h.Ns mainGlobals mg) (a : PySem.W.nsIn K mainGlobals "_law_same" = some (some (.ref f))) (l : K.lookup f = some ⟨oc, od, .func (PySem.W.fnOf "_law_same" "_law_same" (defArgs (top 39)) (defBody (top 39)) (defScope (top 39)) .none kV doc pm an cdv ct), osl⟩) (c : PySem.W.codeIn K cdv "_law_same" = true) (k : PySem.W.keepIn K (.ref f) = true) : DefIn K mg "_law_same" (top 39) ["_law_actual", "_law_expected"] :=
  def_mk X G a l c k (fun _ _ _ _ _ _ us hl => match us, hl with | [_, _], _ => rfl)
theorem di_law_records {K : PySem.W.Frag} {mg : Str → Option Value} {h : Heap} {f : Addr} {oc : Value} {od an : Option Addr} {osl : Array (Option Value)} {kV doc pm cdv ct : Value} (X : K.In h) (G : h.Ns mainGlobals mg) (a : PySem.W.nsIn K mainGlobals "_law_records" = some (some (.ref f))) (l : K.lookup f = some ⟨oc, od, .func (PySem.W.fnOf "_law_records" "_law_records" (defArgs (top 40)) (defBody (top 40)) (defScope (top 40)) .none kV doc pm an cdv ct), osl⟩) (c : PySem.W.codeIn K cdv "_law_records" = true) (k : PySem.W.keepIn K (.ref f) = true) : DefIn K mg "_law_records" (top 40) ["_law_ledger_here", "_law_cover_here", "_law_moment"] :=
  def_mk X G a l c k (fun _ _ _ _ _ _ us hl => match us, hl with | [_, _, _], _ => rfl)
theorem di_law_view_question {K : PySem.W.Frag} {mg : Str → Option Value} {h : Heap} {f : Addr} {oc : Value} {od an : Option Addr} {osl : Array (Option Value)} {kV doc pm cdv ct : Value} (X : K.In h) (G : h.Ns mainGlobals mg) (a : PySem.W.nsIn K mainGlobals "_law_view_question" = some (some (.ref f))) (l : K.lookup f = some ⟨oc, od, .func (PySem.W.fnOf "_law_view_question" "_law_view_question" (defArgs (top 41)) (defBody (top 41)) (defScope (top 41)) .none kV doc pm an cdv ct), osl⟩) (c : PySem.W.codeIn K cdv "_law_view_question" = true) (k : PySem.W.keepIn K (.ref f) = true) : DefIn K mg "_law_view_question" (top 41) ["_law_state_here"] :=
  def_mk X G a l c k (fun _ _ _ _ _ _ us hl => match us, hl with | [_], _ => rfl)
theorem di_law_view_cover {K : PySem.W.Frag} {mg : Str → Option Value} {h : Heap} {f : Addr} {oc : Value} {od an : Option Addr} {osl : Array (Option Value)} {kV doc pm cdv ct : Value} (X : K.In h) (G : h.Ns mainGlobals mg) (a : PySem.W.nsIn K mainGlobals "_law_view_cover" = some (some (.ref f))) (l : K.lookup f = some ⟨oc, od, .func (PySem.W.fnOf "_law_view_cover" "_law_view_cover" (defArgs (top 42)) (defBody (top 42)) (defScope (top 42)) .none kV doc pm an cdv ct), osl⟩) (c : PySem.W.codeIn K cdv "_law_view_cover" = true) (k : PySem.W.keepIn K (.ref f) = true) : DefIn K mg "_law_view_cover" (top 42) ["_law_question_here"] :=
  def_mk X G a l c k (fun _ _ _ _ _ _ us hl => match us, hl with | [_], _ => rfl)
theorem di_law_ask_view {K : PySem.W.Frag} {mg : Str → Option Value} {h : Heap} {f : Addr} {oc : Value} {od an : Option Addr} {osl : Array (Option Value)} {kV doc pm cdv ct : Value} (X : K.In h) (G : h.Ns mainGlobals mg) (a : PySem.W.nsIn K mainGlobals "_law_ask_view" = some (some (.ref f))) (l : K.lookup f = some ⟨oc, od, .func (PySem.W.fnOf "_law_ask_view" "_law_ask_view" (defArgs (top 43)) (defBody (top 43)) (defScope (top 43)) .none kV doc pm an cdv ct), osl⟩) (c : PySem.W.codeIn K cdv "_law_ask_view" = true) (k : PySem.W.keepIn K (.ref f) = true) : DefIn K mg "_law_ask_view" (top 43) ["_law_records_here", "_law_question_here"] :=
  def_mk X G a l c k (fun _ _ _ _ _ _ us hl => match us, hl with | [_, _], _ => rfl)
theorem di_law_all_right {K : PySem.W.Frag} {mg : Str → Option Value} {h : Heap} {f : Addr} {oc : Value} {od an : Option Addr} {osl : Array (Option Value)} {kV doc pm cdv ct : Value} (X : K.In h) (G : h.Ns mainGlobals mg) (a : PySem.W.nsIn K mainGlobals "_law_all_right" = some (some (.ref f))) (l : K.lookup f = some ⟨oc, od, .func (PySem.W.fnOf "_law_all_right" "_law_all_right" (defArgs (top 44)) (defBody (top 44)) (defScope (top 44)) .none kV doc pm an cdv ct), osl⟩) (c : PySem.W.codeIn K cdv "_law_all_right" = true) (k : PySem.W.keepIn K (.ref f) = true) : DefIn K mg "_law_all_right" (top 44) ["_law_board", "_law_ledger_here", "_law_questions"] :=
  def_mk X G a l c k (fun _ _ _ _ _ _ us hl => match us, hl with | [_, _, _], _ => rfl)
theorem di_law_refused {K : PySem.W.Frag} {mg : Str → Option Value} {h : Heap} {f : Addr} {oc : Value} {od an : Option Addr} {osl : Array (Option Value)} {kV doc pm cdv ct : Value} (X : K.In h) (G : h.Ns mainGlobals mg) (a : PySem.W.nsIn K mainGlobals "_law_refused" = some (some (.ref f))) (l : K.lookup f = some ⟨oc, od, .func (PySem.W.fnOf "_law_refused" "_law_refused" (defArgs (top 45)) (defBody (top 45)) (defScope (top 45)) .none kV doc pm an cdv ct), osl⟩) (c : PySem.W.codeIn K cdv "_law_refused" = true) (k : PySem.W.keepIn K (.ref f) = true) : DefIn K mg "_law_refused" (top 45) ["_law_board", "_law_number_here", "_law_question_here", "_law_known"] :=
  def_mk X G a l c k (fun _ _ _ _ _ _ us hl => match us, hl with | [_, _, _, _], _ => rfl)
theorem di_law_added {K : PySem.W.Frag} {mg : Str → Option Value} {h : Heap} {f : Addr} {oc : Value} {od an : Option Addr} {osl : Array (Option Value)} {kV doc pm cdv ct : Value} (X : K.In h) (G : h.Ns mainGlobals mg) (a : PySem.W.nsIn K mainGlobals "_law_added" = some (some (.ref f))) (l : K.lookup f = some ⟨oc, od, .func (PySem.W.fnOf "_law_added" "_law_added" (defArgs (top 46)) (defBody (top 46)) (defScope (top 46)) .none kV doc pm an cdv ct), osl⟩) (c : PySem.W.codeIn K cdv "_law_added" = true) (k : PySem.W.keepIn K (.ref f) = true) : DefIn K mg "_law_added" (top 46) ["_law_state_here", "_law_board", "_law_ledger_here", "_law_questions", "_law_number_here"] :=
  def_mk X G a l c k (fun _ _ _ _ _ _ us hl => match us, hl with | [_, _, _, _, _], _ => rfl)
theorem mi_Board__forget_early {K : PySem.W.Frag} {C f : Addr} {oc : Value} {od an : Option Addr} {osl : Array (Option Value)} {kV doc pm cdv ct : Value} (hc : Cls K C) (a : PySem.W.findIn K (.ref C) "_forget_early" = some (some (.ref f))) (i : PySem.W.isFn K (.ref f) = true) (l : K.lookup f = some ⟨oc, od, .func (PySem.W.fnOf "_forget_early" "Board._forget_early" (defArgs (inClass (top 22) 3)) (defBody (inClass (top 22) 3)) (defScope (inClass (top 22) 3)) .none kV doc pm an cdv ct), osl⟩) (c : PySem.W.codeIn K cdv "Board._forget_early" = true) (k : PySem.W.keepIn K (.ref f) = true) : MetIn K C "_forget_early" "Board._forget_early" (inClass (top 22) 3) ["self"] :=
  met_mk hc a i l c k (fun _ _ _ _ _ _ us hl => match us, hl with | [_], _ => rfl)
theorem mi_Board__move {K : PySem.W.Frag} {C f : Addr} {oc : Value} {od an : Option Addr} {osl : Array (Option Value)} {kV doc pm cdv ct : Value} (hc : Cls K C) (a : PySem.W.findIn K (.ref C) "_move" = some (some (.ref f))) (i : PySem.W.isFn K (.ref f) = true) (l : K.lookup f = some ⟨oc, od, .func (PySem.W.fnOf "_move" "Board._move" (defArgs (inClass (top 22) 4)) (defBody (inClass (top 22) 4)) (defScope (inClass (top 22) 4)) .none kV doc pm an cdv ct), osl⟩) (c : PySem.W.codeIn K cdv "Board._move" = true) (k : PySem.W.keepIn K (.ref f) = true) : MetIn K C "_move" "Board._move" (inClass (top 22) 4) ["self"] :=
  met_mk hc a i l c k (fun _ _ _ _ _ _ us hl => match us, hl with | [_], _ => rfl)
theorem mi_Board_add {K : PySem.W.Frag} {C f : Addr} {oc : Value} {od an : Option Addr} {osl : Array (Option Value)} {kV doc pm cdv ct : Value} (hc : Cls K C) (a : PySem.W.findIn K (.ref C) "add" = some (some (.ref f))) (i : PySem.W.isFn K (.ref f) = true) (l : K.lookup f = some ⟨oc, od, .func (PySem.W.fnOf "add" "Board.add" (defArgs (inClass (top 22) 5)) (defBody (inClass (top 22) 5)) (defScope (inClass (top 22) 5)) .none kV doc pm an cdv ct), osl⟩) (c : PySem.W.codeIn K cdv "Board.add" = true) (k : PySem.W.keepIn K (.ref f) = true) : MetIn K C "add" "Board.add" (inClass (top 22) 5) ["self", "number", "question", "records", "moment"] :=
  met_mk hc a i l c k (fun _ _ _ _ _ _ us hl => match us, hl with | [_, _, _, _, _], _ => rfl)
theorem mi_Board_answer {K : PySem.W.Frag} {C f : Addr} {oc : Value} {od an : Option Addr} {osl : Array (Option Value)} {kV doc pm cdv ct : Value} (hc : Cls K C) (a : PySem.W.findIn K (.ref C) "answer" = some (some (.ref f))) (i : PySem.W.isFn K (.ref f) = true) (l : K.lookup f = some ⟨oc, od, .func (PySem.W.fnOf "answer" "Board.answer" (defArgs (inClass (top 22) 8)) (defBody (inClass (top 22) 8)) (defScope (inClass (top 22) 8)) .none kV doc pm an cdv ct), osl⟩) (c : PySem.W.codeIn K cdv "Board.answer" = true) (k : PySem.W.keepIn K (.ref f) = true) : MetIn K C "answer" "Board.answer" (inClass (top 22) 8) ["self", "number"] :=
  met_mk hc a i l c k (fun _ _ _ _ _ _ us hl => match us, hl with | [_, _], _ => rfl)
theorem mi_CountView_answer {K : PySem.W.Frag} {C f : Addr} {oc : Value} {od an : Option Addr} {osl : Array (Option Value)} {kV doc pm cdv ct : Value} (hc : Cls K C) (a : PySem.W.findIn K (.ref C) "answer" = some (some (.ref f))) (i : PySem.W.isFn K (.ref f) = true) (l : K.lookup f = some ⟨oc, od, .func (PySem.W.fnOf "answer" "CountView.answer" (defArgs (inClass (top 14) 0)) (defBody (inClass (top 14) 0)) (defScope (inClass (top 14) 0)) .none kV doc pm an cdv ct), osl⟩) (c : PySem.W.codeIn K cdv "CountView.answer" = true) (k : PySem.W.keepIn K (.ref f) = true) : MetIn K C "answer" "CountView.answer" (inClass (top 14) 0) ["self"] :=
  met_mk hc a i l c k (fun _ _ _ _ _ _ us hl => match us, hl with | [_], _ => rfl)
theorem mi_GetView_answer {K : PySem.W.Frag} {C f : Addr} {oc : Value} {od an : Option Addr} {osl : Array (Option Value)} {kV doc pm cdv ct : Value} (hc : Cls K C) (a : PySem.W.findIn K (.ref C) "answer" = some (some (.ref f))) (i : PySem.W.isFn K (.ref f) = true) (l : K.lookup f = some ⟨oc, od, .func (PySem.W.fnOf "answer" "GetView.answer" (defArgs (inClass (top 13) 0)) (defBody (inClass (top 13) 0)) (defScope (inClass (top 13) 0)) .none kV doc pm an cdv ct), osl⟩) (c : PySem.W.codeIn K cdv "GetView.answer" = true) (k : PySem.W.keepIn K (.ref f) = true) : MetIn K C "answer" "GetView.answer" (inClass (top 13) 0) ["self"] :=
  met_mk hc a i l c k (fun _ _ _ _ _ _ us hl => match us, hl with | [_], _ => rfl)
theorem mi_LeastView_answer {K : PySem.W.Frag} {C f : Addr} {oc : Value} {od an : Option Addr} {osl : Array (Option Value)} {kV doc pm cdv ct : Value} (hc : Cls K C) (a : PySem.W.findIn K (.ref C) "answer" = some (some (.ref f))) (i : PySem.W.isFn K (.ref f) = true) (l : K.lookup f = some ⟨oc, od, .func (PySem.W.fnOf "answer" "LeastView.answer" (defArgs (inClass (top 17) 3)) (defBody (inClass (top 17) 3)) (defScope (inClass (top 17) 3)) .none kV doc pm an cdv ct), osl⟩) (c : PySem.W.codeIn K cdv "LeastView.answer" = true) (k : PySem.W.keepIn K (.ref f) = true) : MetIn K C "answer" "LeastView.answer" (inClass (top 17) 3) ["self"] :=
  met_mk hc a i l c k (fun _ _ _ _ _ _ us hl => match us, hl with | [_], _ => rfl)
theorem mi_ListView_answer {K : PySem.W.Frag} {C f : Addr} {oc : Value} {od an : Option Addr} {osl : Array (Option Value)} {kV doc pm cdv ct : Value} (hc : Cls K C) (a : PySem.W.findIn K (.ref C) "answer" = some (some (.ref f))) (i : PySem.W.isFn K (.ref f) = true) (l : K.lookup f = some ⟨oc, od, .func (PySem.W.fnOf "answer" "ListView.answer" (defArgs (inClass (top 16) 3)) (defBody (inClass (top 16) 3)) (defScope (inClass (top 16) 3)) .none kV doc pm an cdv ct), osl⟩) (c : PySem.W.codeIn K cdv "ListView.answer" = true) (k : PySem.W.keepIn K (.ref f) = true) : MetIn K C "answer" "ListView.answer" (inClass (top 16) 3) ["self"] :=
  met_mk hc a i l c k (fun _ _ _ _ _ _ us hl => match us, hl with | [_], _ => rfl)
theorem mi_SumView_answer {K : PySem.W.Frag} {C f : Addr} {oc : Value} {od an : Option Addr} {osl : Array (Option Value)} {kV doc pm cdv ct : Value} (hc : Cls K C) (a : PySem.W.findIn K (.ref C) "answer" = some (some (.ref f))) (i : PySem.W.isFn K (.ref f) = true) (l : K.lookup f = some ⟨oc, od, .func (PySem.W.fnOf "answer" "SumView.answer" (defArgs (inClass (top 15) 3)) (defBody (inClass (top 15) 3)) (defScope (inClass (top 15) 3)) .none kV doc pm an cdv ct), osl⟩) (c : PySem.W.codeIn K cdv "SumView.answer" = true) (k : PySem.W.keepIn K (.ref f) = true) : MetIn K C "answer" "SumView.answer" (inClass (top 15) 3) ["self"] :=
  met_mk hc a i l c k (fun _ _ _ _ _ _ us hl => match us, hl with | [_], _ => rfl)
theorem mi_TopView_answer {K : PySem.W.Frag} {C f : Addr} {oc : Value} {od an : Option Addr} {osl : Array (Option Value)} {kV doc pm cdv ct : Value} (hc : Cls K C) (a : PySem.W.findIn K (.ref C) "answer" = some (some (.ref f))) (i : PySem.W.isFn K (.ref f) = true) (l : K.lookup f = some ⟨oc, od, .func (PySem.W.fnOf "answer" "TopView.answer" (defArgs (inClass (top 18) 3)) (defBody (inClass (top 18) 3)) (defScope (inClass (top 18) 3)) .none kV doc pm an cdv ct), osl⟩) (c : PySem.W.codeIn K cdv "TopView.answer" = true) (k : PySem.W.keepIn K (.ref f) = true) : MetIn K C "answer" "TopView.answer" (inClass (top 18) 3) ["self"] :=
  met_mk hc a i l c k (fun _ _ _ _ _ _ us hl => match us, hl with | [_], _ => rfl)
theorem mi_WhereView_answer {K : PySem.W.Frag} {C f : Addr} {oc : Value} {od an : Option Addr} {osl : Array (Option Value)} {kV doc pm cdv ct : Value} (hc : Cls K C) (a : PySem.W.findIn K (.ref C) "answer" = some (some (.ref f))) (i : PySem.W.isFn K (.ref f) = true) (l : K.lookup f = some ⟨oc, od, .func (PySem.W.fnOf "answer" "WhereView.answer" (defArgs (inClass (top 19) 4)) (defBody (inClass (top 19) 4)) (defScope (inClass (top 19) 4)) .none kV doc pm an cdv ct), osl⟩) (c : PySem.W.codeIn K cdv "WhereView.answer" = true) (k : PySem.W.keepIn K (.ref f) = true) : MetIn K C "answer" "WhereView.answer" (inClass (top 19) 4) ["self"] :=
  met_mk hc a i l c k (fun _ _ _ _ _ _ us hl => match us, hl with | [_], _ => rfl)
theorem mi_LeastView_cancel {K : PySem.W.Frag} {C f : Addr} {oc : Value} {od an : Option Addr} {osl : Array (Option Value)} {kV doc pm cdv ct : Value} (hc : Cls K C) (a : PySem.W.findIn K (.ref C) "cancel" = some (some (.ref f))) (i : PySem.W.isFn K (.ref f) = true) (l : K.lookup f = some ⟨oc, od, .func (PySem.W.fnOf "cancel" "LeastView.cancel" (defArgs (inClass (top 17) 2)) (defBody (inClass (top 17) 2)) (defScope (inClass (top 17) 2)) .none kV doc pm an cdv ct), osl⟩) (c : PySem.W.codeIn K cdv "LeastView.cancel" = true) (k : PySem.W.keepIn K (.ref f) = true) : MetIn K C "cancel" "LeastView.cancel" (inClass (top 17) 2) ["self", "key", "value"] :=
  met_mk hc a i l c k (fun _ _ _ _ _ _ us hl => match us, hl with | [_, _, _], _ => rfl)
theorem mi_ListView_cancel {K : PySem.W.Frag} {C f : Addr} {oc : Value} {od an : Option Addr} {osl : Array (Option Value)} {kV doc pm cdv ct : Value} (hc : Cls K C) (a : PySem.W.findIn K (.ref C) "cancel" = some (some (.ref f))) (i : PySem.W.isFn K (.ref f) = true) (l : K.lookup f = some ⟨oc, od, .func (PySem.W.fnOf "cancel" "ListView.cancel" (defArgs (inClass (top 16) 2)) (defBody (inClass (top 16) 2)) (defScope (inClass (top 16) 2)) .none kV doc pm an cdv ct), osl⟩) (c : PySem.W.codeIn K cdv "ListView.cancel" = true) (k : PySem.W.keepIn K (.ref f) = true) : MetIn K C "cancel" "ListView.cancel" (inClass (top 16) 2) ["self", "key", "value"] :=
  met_mk hc a i l c k (fun _ _ _ _ _ _ us hl => match us, hl with | [_, _, _], _ => rfl)
theorem mi_SumView_cancel {K : PySem.W.Frag} {C f : Addr} {oc : Value} {od an : Option Addr} {osl : Array (Option Value)} {kV doc pm cdv ct : Value} (hc : Cls K C) (a : PySem.W.findIn K (.ref C) "cancel" = some (some (.ref f))) (i : PySem.W.isFn K (.ref f) = true) (l : K.lookup f = some ⟨oc, od, .func (PySem.W.fnOf "cancel" "SumView.cancel" (defArgs (inClass (top 15) 2)) (defBody (inClass (top 15) 2)) (defScope (inClass (top 15) 2)) .none kV doc pm an cdv ct), osl⟩) (c : PySem.W.codeIn K cdv "SumView.cancel" = true) (k : PySem.W.keepIn K (.ref f) = true) : MetIn K C "cancel" "SumView.cancel" (inClass (top 15) 2) ["self", "key", "value"] :=
  met_mk hc a i l c k (fun _ _ _ _ _ _ us hl => match us, hl with | [_, _, _], _ => rfl)
theorem mi_TopView_cancel {K : PySem.W.Frag} {C f : Addr} {oc : Value} {od an : Option Addr} {osl : Array (Option Value)} {kV doc pm cdv ct : Value} (hc : Cls K C) (a : PySem.W.findIn K (.ref C) "cancel" = some (some (.ref f))) (i : PySem.W.isFn K (.ref f) = true) (l : K.lookup f = some ⟨oc, od, .func (PySem.W.fnOf "cancel" "TopView.cancel" (defArgs (inClass (top 18) 2)) (defBody (inClass (top 18) 2)) (defScope (inClass (top 18) 2)) .none kV doc pm an cdv ct), osl⟩) (c : PySem.W.codeIn K cdv "TopView.cancel" = true) (k : PySem.W.keepIn K (.ref f) = true) : MetIn K C "cancel" "TopView.cancel" (inClass (top 18) 2) ["self", "key", "value"] :=
  met_mk hc a i l c k (fun _ _ _ _ _ _ us hl => match us, hl with | [_, _, _], _ => rfl)
theorem mi_View_cancel {K : PySem.W.Frag} {C f : Addr} {oc : Value} {od an : Option Addr} {osl : Array (Option Value)} {kV doc pm cdv ct : Value} (hc : Cls K C) (a : PySem.W.findIn K (.ref C) "cancel" = some (some (.ref f))) (i : PySem.W.isFn K (.ref f) = true) (l : K.lookup f = some ⟨oc, od, .func (PySem.W.fnOf "cancel" "View.cancel" (defArgs (inClass (top 12) 2)) (defBody (inClass (top 12) 2)) (defScope (inClass (top 12) 2)) .none kV doc pm an cdv ct), osl⟩) (c : PySem.W.codeIn K cdv "View.cancel" = true) (k : PySem.W.keepIn K (.ref f) = true) : MetIn K C "cancel" "View.cancel" (inClass (top 12) 2) ["self", "key", "value"] :=
  met_mk hc a i l c k (fun _ _ _ _ _ _ us hl => match us, hl with | [_, _, _], _ => rfl)
theorem mi_WhereView_cancel {K : PySem.W.Frag} {C f : Addr} {oc : Value} {od an : Option Addr} {osl : Array (Option Value)} {kV doc pm cdv ct : Value} (hc : Cls K C) (a : PySem.W.findIn K (.ref C) "cancel" = some (some (.ref f))) (i : PySem.W.isFn K (.ref f) = true) (l : K.lookup f = some ⟨oc, od, .func (PySem.W.fnOf "cancel" "WhereView.cancel" (defArgs (inClass (top 19) 3)) (defBody (inClass (top 19) 3)) (defScope (inClass (top 19) 3)) .none kV doc pm an cdv ct), osl⟩) (c : PySem.W.codeIn K cdv "WhereView.cancel" = true) (k : PySem.W.keepIn K (.ref f) = true) : MetIn K C "cancel" "WhereView.cancel" (inClass (top 19) 3) ["self", "key", "value"] :=
  met_mk hc a i l c k (fun _ _ _ _ _ _ us hl => match us, hl with | [_, _, _], _ => rfl)
theorem mi_WhereView_is_met {K : PySem.W.Frag} {C f : Addr} {oc : Value} {od an : Option Addr} {osl : Array (Option Value)} {kV doc pm cdv ct : Value} (hc : Cls K C) (a : PySem.W.findIn K (.ref C) "is_met" = some (some (.ref f))) (i : PySem.W.isFn K (.ref f) = true) (l : K.lookup f = some ⟨oc, od, .func (PySem.W.fnOf "is_met" "WhereView.is_met" (defArgs (inClass (top 19) 1)) (defBody (inClass (top 19) 1)) (defScope (inClass (top 19) 1)) .none kV doc pm an cdv ct), osl⟩) (c : PySem.W.codeIn K cdv "WhereView.is_met" = true) (k : PySem.W.keepIn K (.ref f) = true) : MetIn K C "is_met" "WhereView.is_met" (inClass (top 19) 1) ["self", "value"] :=
  met_mk hc a i l c k (fun _ _ _ _ _ _ us hl => match us, hl with | [_, _], _ => rfl)
theorem mi_Board_mark {K : PySem.W.Frag} {C f : Addr} {oc : Value} {od an : Option Addr} {osl : Array (Option Value)} {kV doc pm cdv ct : Value} (hc : Cls K C) (a : PySem.W.findIn K (.ref C) "mark" = some (some (.ref f))) (i : PySem.W.isFn K (.ref f) = true) (l : K.lookup f = some ⟨oc, od, .func (PySem.W.fnOf "mark" "Board.mark" (defArgs (inClass (top 22) 1)) (defBody (inClass (top 22) 1)) (defScope (inClass (top 22) 1)) .none kV doc pm an cdv ct), osl⟩) (c : PySem.W.codeIn K cdv "Board.mark" = true) (k : PySem.W.keepIn K (.ref f) = true) : MetIn K C "mark" "Board.mark" (inClass (top 22) 1) ["self"] :=
  met_mk hc a i l c k (fun _ _ _ _ _ _ us hl => match us, hl with | [_], _ => rfl)
theorem mi_Board_note {K : PySem.W.Frag} {C f : Addr} {oc : Value} {od an : Option Addr} {osl : Array (Option Value)} {kV doc pm cdv ct : Value} (hc : Cls K C) (a : PySem.W.findIn K (.ref C) "note" = some (some (.ref f))) (i : PySem.W.isFn K (.ref f) = true) (l : K.lookup f = some ⟨oc, od, .func (PySem.W.fnOf "note" "Board.note" (defArgs (inClass (top 22) 7)) (defBody (inClass (top 22) 7)) (defScope (inClass (top 22) 7)) .none kV doc pm an cdv ct), osl⟩) (c : PySem.W.codeIn K cdv "Board.note" = true) (k : PySem.W.keepIn K (.ref f) = true) : MetIn K C "note" "Board.note" (inClass (top 22) 7) ["self", "c", "group"] :=
  met_mk hc a i l c k (fun _ _ _ _ _ _ us hl => match us, hl with | [_, _, _], _ => rfl)
theorem mi_Board_numbers {K : PySem.W.Frag} {C f : Addr} {oc : Value} {od an : Option Addr} {osl : Array (Option Value)} {kV doc pm cdv ct : Value} (hc : Cls K C) (a : PySem.W.findIn K (.ref C) "numbers" = some (some (.ref f))) (i : PySem.W.isFn K (.ref f) = true) (l : K.lookup f = some ⟨oc, od, .func (PySem.W.fnOf "numbers" "Board.numbers" (defArgs (inClass (top 22) 2)) (defBody (inClass (top 22) 2)) (defScope (inClass (top 22) 2)) .none kV doc pm an cdv ct), osl⟩) (c : PySem.W.codeIn K cdv "Board.numbers" = true) (k : PySem.W.keepIn K (.ref f) = true) : MetIn K C "numbers" "Board.numbers" (inClass (top 22) 2) ["self"] :=
  met_mk hc a i l c k (fun _ _ _ _ _ _ us hl => match us, hl with | [_], _ => rfl)
theorem mi_LeastView_put {K : PySem.W.Frag} {C f : Addr} {oc : Value} {od an : Option Addr} {osl : Array (Option Value)} {kV doc pm cdv ct : Value} (hc : Cls K C) (a : PySem.W.findIn K (.ref C) "put" = some (some (.ref f))) (i : PySem.W.isFn K (.ref f) = true) (l : K.lookup f = some ⟨oc, od, .func (PySem.W.fnOf "put" "LeastView.put" (defArgs (inClass (top 17) 1)) (defBody (inClass (top 17) 1)) (defScope (inClass (top 17) 1)) .none kV doc pm an cdv ct), osl⟩) (c : PySem.W.codeIn K cdv "LeastView.put" = true) (k : PySem.W.keepIn K (.ref f) = true) : MetIn K C "put" "LeastView.put" (inClass (top 17) 1) ["self", "key", "value"] :=
  met_mk hc a i l c k (fun _ _ _ _ _ _ us hl => match us, hl with | [_, _, _], _ => rfl)
theorem mi_ListView_put {K : PySem.W.Frag} {C f : Addr} {oc : Value} {od an : Option Addr} {osl : Array (Option Value)} {kV doc pm cdv ct : Value} (hc : Cls K C) (a : PySem.W.findIn K (.ref C) "put" = some (some (.ref f))) (i : PySem.W.isFn K (.ref f) = true) (l : K.lookup f = some ⟨oc, od, .func (PySem.W.fnOf "put" "ListView.put" (defArgs (inClass (top 16) 1)) (defBody (inClass (top 16) 1)) (defScope (inClass (top 16) 1)) .none kV doc pm an cdv ct), osl⟩) (c : PySem.W.codeIn K cdv "ListView.put" = true) (k : PySem.W.keepIn K (.ref f) = true) : MetIn K C "put" "ListView.put" (inClass (top 16) 1) ["self", "key", "value"] :=
  met_mk hc a i l c k (fun _ _ _ _ _ _ us hl => match us, hl with | [_, _, _], _ => rfl)
theorem mi_SumView_put {K : PySem.W.Frag} {C f : Addr} {oc : Value} {od an : Option Addr} {osl : Array (Option Value)} {kV doc pm cdv ct : Value} (hc : Cls K C) (a : PySem.W.findIn K (.ref C) "put" = some (some (.ref f))) (i : PySem.W.isFn K (.ref f) = true) (l : K.lookup f = some ⟨oc, od, .func (PySem.W.fnOf "put" "SumView.put" (defArgs (inClass (top 15) 1)) (defBody (inClass (top 15) 1)) (defScope (inClass (top 15) 1)) .none kV doc pm an cdv ct), osl⟩) (c : PySem.W.codeIn K cdv "SumView.put" = true) (k : PySem.W.keepIn K (.ref f) = true) : MetIn K C "put" "SumView.put" (inClass (top 15) 1) ["self", "key", "value"] :=
  met_mk hc a i l c k (fun _ _ _ _ _ _ us hl => match us, hl with | [_, _, _], _ => rfl)
theorem mi_TopView_put {K : PySem.W.Frag} {C f : Addr} {oc : Value} {od an : Option Addr} {osl : Array (Option Value)} {kV doc pm cdv ct : Value} (hc : Cls K C) (a : PySem.W.findIn K (.ref C) "put" = some (some (.ref f))) (i : PySem.W.isFn K (.ref f) = true) (l : K.lookup f = some ⟨oc, od, .func (PySem.W.fnOf "put" "TopView.put" (defArgs (inClass (top 18) 1)) (defBody (inClass (top 18) 1)) (defScope (inClass (top 18) 1)) .none kV doc pm an cdv ct), osl⟩) (c : PySem.W.codeIn K cdv "TopView.put" = true) (k : PySem.W.keepIn K (.ref f) = true) : MetIn K C "put" "TopView.put" (inClass (top 18) 1) ["self", "key", "value"] :=
  met_mk hc a i l c k (fun _ _ _ _ _ _ us hl => match us, hl with | [_, _, _], _ => rfl)
theorem mi_View_put {K : PySem.W.Frag} {C f : Addr} {oc : Value} {od an : Option Addr} {osl : Array (Option Value)} {kV doc pm cdv ct : Value} (hc : Cls K C) (a : PySem.W.findIn K (.ref C) "put" = some (some (.ref f))) (i : PySem.W.isFn K (.ref f) = true) (l : K.lookup f = some ⟨oc, od, .func (PySem.W.fnOf "put" "View.put" (defArgs (inClass (top 12) 1)) (defBody (inClass (top 12) 1)) (defScope (inClass (top 12) 1)) .none kV doc pm an cdv ct), osl⟩) (c : PySem.W.codeIn K cdv "View.put" = true) (k : PySem.W.keepIn K (.ref f) = true) : MetIn K C "put" "View.put" (inClass (top 12) 1) ["self", "key", "value"] :=
  met_mk hc a i l c k (fun _ _ _ _ _ _ us hl => match us, hl with | [_, _, _], _ => rfl)
theorem mi_WhereView_put {K : PySem.W.Frag} {C f : Addr} {oc : Value} {od an : Option Addr} {osl : Array (Option Value)} {kV doc pm cdv ct : Value} (hc : Cls K C) (a : PySem.W.findIn K (.ref C) "put" = some (some (.ref f))) (i : PySem.W.isFn K (.ref f) = true) (l : K.lookup f = some ⟨oc, od, .func (PySem.W.fnOf "put" "WhereView.put" (defArgs (inClass (top 19) 2)) (defBody (inClass (top 19) 2)) (defScope (inClass (top 19) 2)) .none kV doc pm an cdv ct), osl⟩) (c : PySem.W.codeIn K cdv "WhereView.put" = true) (k : PySem.W.keepIn K (.ref f) = true) : MetIn K C "put" "WhereView.put" (inClass (top 19) 2) ["self", "key", "value"] :=
  met_mk hc a i l c k (fun _ _ _ _ _ _ us hl => match us, hl with | [_, _, _], _ => rfl)
theorem mi_Board_remove {K : PySem.W.Frag} {C f : Addr} {oc : Value} {od an : Option Addr} {osl : Array (Option Value)} {kV doc pm cdv ct : Value} (hc : Cls K C) (a : PySem.W.findIn K (.ref C) "remove" = some (some (.ref f))) (i : PySem.W.isFn K (.ref f) = true) (l : K.lookup f = some ⟨oc, od, .func (PySem.W.fnOf "remove" "Board.remove" (defArgs (inClass (top 22) 6)) (defBody (inClass (top 22) 6)) (defScope (inClass (top 22) 6)) .none kV doc pm an cdv ct), osl⟩) (c : PySem.W.codeIn K cdv "Board.remove" = true) (k : PySem.W.keepIn K (.ref f) = true) : MetIn K C "remove" "Board.remove" (inClass (top 22) 6) ["self", "number"] :=
  met_mk hc a i l c k (fun _ _ _ _ _ _ us hl => match us, hl with | [_, _], _ => rfl)
theorem mi_View_take {K : PySem.W.Frag} {C f : Addr} {oc : Value} {od an : Option Addr} {osl : Array (Option Value)} {kV doc pm cdv ct : Value} (hc : Cls K C) (a : PySem.W.findIn K (.ref C) "take" = some (some (.ref f))) (i : PySem.W.isFn K (.ref f) = true) (l : K.lookup f = some ⟨oc, od, .func (PySem.W.fnOf "take" "View.take" (defArgs (inClass (top 12) 3)) (defBody (inClass (top 12) 3)) (defScope (inClass (top 12) 3)) .none kV doc pm an cdv ct), osl⟩) (c : PySem.W.codeIn K cdv "View.take" = true) (k : PySem.W.keepIn K (.ref f) = true) : MetIn K C "take" "View.take" (inClass (top 12) 3) ["self", "group"] :=
  met_mk hc a i l c k (fun _ _ _ _ _ _ us hl => match us, hl with | [_, _], _ => rfl)
theorem ii_Board {K : PySem.W.Frag} {C f : Addr} {oc : Value} {od an : Option Addr} {osl : Array (Option Value)} {kV doc pm cdv ct : Value} (mk : PySem.W.makesIn K C = true) (a : PySem.W.findIn K (.ref C) "__init__" = some (some (.ref f))) (i : PySem.W.isFn K (.ref f) = true) (kc : PySem.W.keepIn K (.ref C) = true) (l : K.lookup f = some ⟨oc, od, .func (PySem.W.fnOf "__init__" "Board.__init__" (defArgs (inClass (top 22) 0)) (defBody (inClass (top 22) 0)) (defScope (inClass (top 22) 0)) .none kV doc pm an cdv ct), osl⟩) (c : PySem.W.codeIn K cdv "Board.__init__" = true) (k : PySem.W.keepIn K (.ref f) = true) : MkIn K C "Board.__init__" (inClass (top 22) 0) ["self"] :=
  init_mk mk a i kc l c k (fun _ _ _ _ _ _ us hl => match us, hl with | [_], _ => rfl)
theorem fv_binds {K : PySem.W.Frag} {f : Addr} {fd : FuncData} (F : Fun K "__init__" "View.__init__" (inClass (top 12) 0) f fd) : Binds K fd psSup [] := F.binds (fun _ _ _ _ _ _ us hl => match us, hl with | [_, _, _], _ => rfl)
theorem si_sum {K : PySem.W.Frag} {mg : Str → Option Value} {h : Heap} {C f : Addr} {oc : Value} {od an : Option Addr} {osl : Array (Option Value)} {kV doc pm ct : Value} {D fV cc cda : Addr} {fdV : FuncData} {ccl cl : Value} {cdd cld : Option Addr} {vs : Array Value} {ccs csl : Array (Option Value)} {file : Str} {tf : Tok} {cd cd2 : ClassData} (X : K.In h) (G : h.Ns mainGlobals mg)
    (FV : Fun K "__init__" "View.__init__" (inClass (top 12) 0) fV fdV) (mk : PySem.W.makesIn K C = true) (a : PySem.W.findIn K (.ref C) "__init__" = some (some (.ref f))) (i : PySem.W.isFn K (.ref f) = true) (kc : PySem.W.keepIn K (.ref C) = true)
    (l : K.lookup f = some ⟨oc, od, .func (PySem.W.ksFn "__init__" "SumView.__init__" (defArgs (inClass (top 15) 0)) (defBody (inClass (top 15) 0)) (defScope (inClass (top 15) 0)) .none kV doc pm an (.ref cda) ct cc), osl⟩) (c : PySem.W.codeIn K (.ref cda) "SumView.__init__" = true)
    (lc : K.lookup cda = some ⟨ccl, cdd, .fields vs, ccs⟩) (v2 : vs[2]? = some (.str file tf)) (hf : ((PySem.Challenge.pw_leasehall_k47_whole_boards.main.file : Str) == file) = true) (ce : K.lookup cc = some ⟨cl, cld, .cell (some (.ref D)), csl⟩) (cD : PySem.W.clsIn K D = some cd) (cC : PySem.W.clsIn K C = some cd2)
    (sub : PySem.W.mroIn K C (.ref D) = some true) (nos : PySem.W.nsIn K mainGlobals "super" = some none) (opq : PySem.W.nsIn K cStatics "thirdparty.any" = some none)
    (meth : PySem.W.ks_superIn K C D "__init__" = some (some (.ref fV))) (ty : PySem.W.typeIn K (.ref fV) = some (.type "function")) (fn : PySem.W.fnIn K fV = true) : SupIn PySem.Challenge.pw_leasehall_k47_whole_boards K mg C "SumView.__init__" (inClass (top 15) 0) (inClass (top 12) 0) :=
  sup_mk X G mk a i kc l c lc v2 hf ce cD cC sub nos (by decide +kernel) opq meth ty fn FV (fv_binds FV) (fun _ _ _ _ _ _ _ us hl => match us, hl with | [_, _, _], _ => rfl)
theorem si_list {K : PySem.W.Frag} {mg : Str → Option Value} {h : Heap} {C f : Addr} {oc : Value} {od an : Option Addr} {osl : Array (Option Value)} {kV doc pm ct : Value} {D fV cc cda : Addr} {fdV : FuncData} {ccl cl : Value} {cdd cld : Option Addr} {vs : Array Value} {ccs csl : Array (Option Value)} {file : Str} {tf : Tok} {cd cd2 : ClassData} (X : K.In h) (G : h.Ns mainGlobals mg)
    (FV : Fun K "__init__" "View.__init__" (inClass (top 12) 0) fV fdV) (mk : PySem.W.makesIn K C = true) (a : PySem.W.findIn K (.ref C) "__init__" = some (some (.ref f))) (i : PySem.W.isFn K (.ref f) = true) (kc : PySem.W.keepIn K (.ref C) = true)
    (l : K.lookup f = some ⟨oc, od, .func (PySem.W.ksFn "__init__" "ListView.__init__" (defArgs (inClass (top 16) 0)) (defBody (inClass (top 16) 0)) (defScope (inClass (top 16) 0)) .none kV doc pm an (.ref cda) ct cc), osl⟩) (c : PySem.W.codeIn K (.ref cda) "ListView.__init__" = true)
    (lc : K.lookup cda = some ⟨ccl, cdd, .fields vs, ccs⟩) (v2 : vs[2]? = some (.str file tf)) (hf : ((PySem.Challenge.pw_leasehall_k47_whole_boards.main.file : Str) == file) = true) (ce : K.lookup cc = some ⟨cl, cld, .cell (some (.ref D)), csl⟩) (cD : PySem.W.clsIn K D = some cd) (cC : PySem.W.clsIn K C = some cd2)
    (sub : PySem.W.mroIn K C (.ref D) = some true) (nos : PySem.W.nsIn K mainGlobals "super" = some none) (opq : PySem.W.nsIn K cStatics "thirdparty.any" = some none)
    (meth : PySem.W.ks_superIn K C D "__init__" = some (some (.ref fV))) (ty : PySem.W.typeIn K (.ref fV) = some (.type "function")) (fn : PySem.W.fnIn K fV = true) : SupIn PySem.Challenge.pw_leasehall_k47_whole_boards K mg C "ListView.__init__" (inClass (top 16) 0) (inClass (top 12) 0) :=
  sup_mk X G mk a i kc l c lc v2 hf ce cD cC sub nos (by decide +kernel) opq meth ty fn FV (fv_binds FV) (fun _ _ _ _ _ _ _ us hl => match us, hl with | [_, _, _], _ => rfl)
theorem si_least {K : PySem.W.Frag} {mg : Str → Option Value} {h : Heap} {C f : Addr} {oc : Value} {od an : Option Addr} {osl : Array (Option Value)} {kV doc pm ct : Value} {D fV cc cda : Addr} {fdV : FuncData} {ccl cl : Value} {cdd cld : Option Addr} {vs : Array Value} {ccs csl : Array (Option Value)} {file : Str} {tf : Tok} {cd cd2 : ClassData} (X : K.In h) (G : h.Ns mainGlobals mg)
    (FV : Fun K "__init__" "View.__init__" (inClass (top 12) 0) fV fdV) (mk : PySem.W.makesIn K C = true) (a : PySem.W.findIn K (.ref C) "__init__" = some (some (.ref f))) (i : PySem.W.isFn K (.ref f) = true) (kc : PySem.W.keepIn K (.ref C) = true)
    (l : K.lookup f = some ⟨oc, od, .func (PySem.W.ksFn "__init__" "LeastView.__init__" (defArgs (inClass (top 17) 0)) (defBody (inClass (top 17) 0)) (defScope (inClass (top 17) 0)) .none kV doc pm an (.ref cda) ct cc), osl⟩) (c : PySem.W.codeIn K (.ref cda) "LeastView.__init__" = true)
    (lc : K.lookup cda = some ⟨ccl, cdd, .fields vs, ccs⟩) (v2 : vs[2]? = some (.str file tf)) (hf : ((PySem.Challenge.pw_leasehall_k47_whole_boards.main.file : Str) == file) = true) (ce : K.lookup cc = some ⟨cl, cld, .cell (some (.ref D)), csl⟩) (cD : PySem.W.clsIn K D = some cd) (cC : PySem.W.clsIn K C = some cd2)
    (sub : PySem.W.mroIn K C (.ref D) = some true) (nos : PySem.W.nsIn K mainGlobals "super" = some none) (opq : PySem.W.nsIn K cStatics "thirdparty.any" = some none)
    (meth : PySem.W.ks_superIn K C D "__init__" = some (some (.ref fV))) (ty : PySem.W.typeIn K (.ref fV) = some (.type "function")) (fn : PySem.W.fnIn K fV = true) : SupIn PySem.Challenge.pw_leasehall_k47_whole_boards K mg C "LeastView.__init__" (inClass (top 17) 0) (inClass (top 12) 0) :=
  sup_mk X G mk a i kc l c lc v2 hf ce cD cC sub nos (by decide +kernel) opq meth ty fn FV (fv_binds FV) (fun _ _ _ _ _ _ _ us hl => match us, hl with | [_, _, _], _ => rfl)
theorem si_top {K : PySem.W.Frag} {mg : Str → Option Value} {h : Heap} {C f : Addr} {oc : Value} {od an : Option Addr} {osl : Array (Option Value)} {kV doc pm ct : Value} {D fV cc cda : Addr} {fdV : FuncData} {ccl cl : Value} {cdd cld : Option Addr} {vs : Array Value} {ccs csl : Array (Option Value)} {file : Str} {tf : Tok} {cd cd2 : ClassData} (X : K.In h) (G : h.Ns mainGlobals mg)
    (FV : Fun K "__init__" "View.__init__" (inClass (top 12) 0) fV fdV) (mk : PySem.W.makesIn K C = true) (a : PySem.W.findIn K (.ref C) "__init__" = some (some (.ref f))) (i : PySem.W.isFn K (.ref f) = true) (kc : PySem.W.keepIn K (.ref C) = true)
    (l : K.lookup f = some ⟨oc, od, .func (PySem.W.ksFn "__init__" "TopView.__init__" (defArgs (inClass (top 18) 0)) (defBody (inClass (top 18) 0)) (defScope (inClass (top 18) 0)) .none kV doc pm an (.ref cda) ct cc), osl⟩) (c : PySem.W.codeIn K (.ref cda) "TopView.__init__" = true)
    (lc : K.lookup cda = some ⟨ccl, cdd, .fields vs, ccs⟩) (v2 : vs[2]? = some (.str file tf)) (hf : ((PySem.Challenge.pw_leasehall_k47_whole_boards.main.file : Str) == file) = true) (ce : K.lookup cc = some ⟨cl, cld, .cell (some (.ref D)), csl⟩) (cD : PySem.W.clsIn K D = some cd) (cC : PySem.W.clsIn K C = some cd2)
    (sub : PySem.W.mroIn K C (.ref D) = some true) (nos : PySem.W.nsIn K mainGlobals "super" = some none) (opq : PySem.W.nsIn K cStatics "thirdparty.any" = some none)
    (meth : PySem.W.ks_superIn K C D "__init__" = some (some (.ref fV))) (ty : PySem.W.typeIn K (.ref fV) = some (.type "function")) (fn : PySem.W.fnIn K fV = true) : SupIn PySem.Challenge.pw_leasehall_k47_whole_boards K mg C "TopView.__init__" (inClass (top 18) 0) (inClass (top 12) 0) :=
  sup_mk X G mk a i kc l c lc v2 hf ce cD cC sub nos (by decide +kernel) opq meth ty fn FV (fv_binds FV) (fun _ _ _ _ _ _ _ us hl => match us, hl with | [_, _, _], _ => rfl)
theorem si_whr {K : PySem.W.Frag} {mg : Str → Option Value} {h : Heap} {C f : Addr} {oc : Value} {od an : Option Addr} {osl : Array (Option Value)} {kV doc pm ct : Value} {D fV cc cda : Addr} {fdV : FuncData} {ccl cl : Value} {cdd cld : Option Addr} {vs : Array Value} {ccs csl : Array (Option Value)} {file : Str} {tf : Tok} {cd cd2 : ClassData} (X : K.In h) (G : h.Ns mainGlobals mg)
    (FV : Fun K "__init__" "View.__init__" (inClass (top 12) 0) fV fdV) (mk : PySem.W.makesIn K C = true) (a : PySem.W.findIn K (.ref C) "__init__" = some (some (.ref f))) (i : PySem.W.isFn K (.ref f) = true) (kc : PySem.W.keepIn K (.ref C) = true)
    (l : K.lookup f = some ⟨oc, od, .func (PySem.W.ksFn "__init__" "WhereView.__init__" (defArgs (inClass (top 19) 0)) (defBody (inClass (top 19) 0)) (defScope (inClass (top 19) 0)) .none kV doc pm an (.ref cda) ct cc), osl⟩) (c : PySem.W.codeIn K (.ref cda) "WhereView.__init__" = true)
    (lc : K.lookup cda = some ⟨ccl, cdd, .fields vs, ccs⟩) (v2 : vs[2]? = some (.str file tf)) (hf : ((PySem.Challenge.pw_leasehall_k47_whole_boards.main.file : Str) == file) = true) (ce : K.lookup cc = some ⟨cl, cld, .cell (some (.ref D)), csl⟩) (cD : PySem.W.clsIn K D = some cd) (cC : PySem.W.clsIn K C = some cd2)
    (sub : PySem.W.mroIn K C (.ref D) = some true) (nos : PySem.W.nsIn K mainGlobals "super" = some none) (opq : PySem.W.nsIn K cStatics "thirdparty.any" = some none)
    (meth : PySem.W.ks_superIn K C D "__init__" = some (some (.ref fV))) (ty : PySem.W.typeIn K (.ref fV) = some (.type "function")) (fn : PySem.W.fnIn K fV = true) : SupIn PySem.Challenge.pw_leasehall_k47_whole_boards K mg C "WhereView.__init__" (inClass (top 19) 0) (inClass (top 12) 0) :=
  sup_mk X G mk a i kc l c lc v2 hf ce cD cC sub nos (by decide +kernel) opq meth ty fn FV (fv_binds FV) (fun _ _ _ _ _ _ _ us hl => match us, hl with | [_, _, _], _ => rfl)
theorem law_binds {K : PySem.W.Frag} (kV doc pm : Value) (an : Option Addr) (cdv ct : Value) (s : Shared) (v : Value) : BindsTo s (PySem.W.fnOf "law" "law" (defArgs (top 47)) (defBody (top 47)) (defScope (top 47)) .none kV doc pm an cdv ct) ⟨[v], []⟩ [("_law_script", v)] := .of_eq rfl
theorem law_mk {w : World} {K : PySem.W.Frag} {mg : Str → Option Value} {h : Heap} {fa f : Addr} {oc : Value} {od an : Option Addr} {osl : Array (Option Value)} {kV doc pm cdv ct : Value} (X : K.In h) (G : h.Ns mainGlobals mg) (hfa : mg "law" = some (.ref fa)) (a : PySem.W.nsIn K mainGlobals "law" = some (some (.ref f)))
    (l : K.lookup f = some ⟨oc, od, .func (PySem.W.fnOf "law" "law" (defArgs (top 47)) (defBody (top 47)) (defScope (top 47)) .none kV doc pm an cdv ct), osl⟩) (c : PySem.W.codeIn K cdv "law" = true) (k : PySem.W.keepIn K (.ref f) = true)
    (rest : ∀ {fd : FuncData} (F : Fun K "law" "law" (top 47) fa fd) (base : Heap), FnOk PySem.Challenge.pw_leasehall_k47_whole_boards w K mg base CX0 11 fa fd ["_law_script"] (spLaw K)) :
    ∃ fd : FuncData, (∀ (s : Shared) (u : Value), BindsTo s fd ⟨[u], []⟩ [("_law_script", u)]) ∧ ∀ base : Heap, K.In base → base.Ns mainGlobals mg → FnOk PySem.Challenge.pw_leasehall_k47_whole_boards w K mg base CX0 11 fa fd ["_law_script"] (spLaw K) := by
  have e := hfa.symm.trans (PySem.W.mg_of X G a)
  cases e
  exact ⟨_, fun s v => law_binds (K := K) kV doc pm an cdv ct s v, fun base _ _ => rest (fun_mk l c k) base⟩
theorem walk {q : Program} {loose : List Str} {XP : (Str → Option Value) → Heap → Prop} {YP : World → Heap → Prop} {d : DefRec} {K : Params → PySem.W.Frag} (hdf : d.params.defaults = []) (hY : ∀ (w : World) (h : Heap), YP w h → (K w.params).In h)
    (F : ∀ (w : World) (mg : Str → Option Value) (fa : Addr) (h : Heap), (K w.params).In h → h.Ns mainGlobals mg → mg d.name = some (.ref fa) →
      ∃ fd : FuncData, (∀ (s : Shared) (u : Value), BindsTo s fd ⟨[u], []⟩ [("_law_script", u)]) ∧ ∀ base : Heap, (K w.params).In base → base.Ns mainGlobals mg → FnOk PySem.Challenge.pw_leasehall_k47_whole_boards w (K w.params) mg base CX0 11 fa fd ["_law_script"] (spLaw (K w.params))) :
    PySem.W.WalkO q loose XP YP PySem.Challenge.rw_leasehall_k47_whole_boards.row.toRowW d [] (fun f vs => PySem.call f vs) :=
  L2.walk_of (l := PySem.Challenge.rw_leasehall_k47_whole_boards) (n := 63) (k := 11) (x := "_law_script") (CX := fun _ => CX0) (sp := fun w => spLaw (K w.params)) rfl (by decide) hdf ⟨rfl, by decide, by decide⟩ hY F (fun _ _ a ns hl _ hS => ⟨a, ns, rfl, hS, hl, fun _ => rfl⟩) fun _ _ _ _ _ z => z
end LH
/-! The classes first. -/
namespace LH
open PySem PySem.Spec L2
theorem with_cls {R : Prop} {K : PySem.W.Frag} {mg : Str → Option Value} {h : Heap} {C1 C2 C3 C4 C5 C6 C7 Cb fV : Addr} {oc : Value} {od an : Option Addr} {osl : Array (Option Value)} {kV doc pm cdv ct : Value} (X : K.In h) (G : h.Ns mainGlobals mg)
    (a1 : PySem.W.nsIn K mainGlobals "GetView" = some (some (.ref C1))) (pg1 : PySem.W.plainGet K C1 Str.empty = true) (hd1 : PySem.W.hasDictIn K C1 = true) (po1 : PySem.W.plainOver K C1 = true) (sa1 : PySem.W.findIn K (.ref C1) "__setattr__" = some (some (.builtin "object.__setattr__"))) (mk1 : PySem.W.makesIn K C1 = true) (kc1 : PySem.W.keepIn K (.ref C1) = true)
    (a2 : PySem.W.nsIn K mainGlobals "CountView" = some (some (.ref C2))) (pg2 : PySem.W.plainGet K C2 Str.empty = true) (hd2 : PySem.W.hasDictIn K C2 = true) (po2 : PySem.W.plainOver K C2 = true) (sa2 : PySem.W.findIn K (.ref C2) "__setattr__" = some (some (.builtin "object.__setattr__"))) (mk2 : PySem.W.makesIn K C2 = true) (kc2 : PySem.W.keepIn K (.ref C2) = true)
    (a3 : PySem.W.nsIn K mainGlobals "SumView" = some (some (.ref C3))) (pg3 : PySem.W.plainGet K C3 Str.empty = true) (hd3 : PySem.W.hasDictIn K C3 = true) (po3 : PySem.W.plainOver K C3 = true) (sa3 : PySem.W.findIn K (.ref C3) "__setattr__" = some (some (.builtin "object.__setattr__"))) (mk3 : PySem.W.makesIn K C3 = true) (kc3 : PySem.W.keepIn K (.ref C3) = true)
    (a4 : PySem.W.nsIn K mainGlobals "ListView" = some (some (.ref C4))) (pg4 : PySem.W.plainGet K C4 Str.empty = true) (hd4 : PySem.W.hasDictIn K C4 = true) (po4 : PySem.W.plainOver K C4 = true) (sa4 : PySem.W.findIn K (.ref C4) "__setattr__" = some (some (.builtin "object.__setattr__"))) (mk4 : PySem.W.makesIn K C4 = true) (kc4 : PySem.W.keepIn K (.ref C4) = true)
    (a5 : PySem.W.nsIn K mainGlobals "LeastView" = some (some (.ref C5))) (pg5 : PySem.W.plainGet K C5 Str.empty = true) (hd5 : PySem.W.hasDictIn K C5 = true) (po5 : PySem.W.plainOver K C5 = true) (sa5 : PySem.W.findIn K (.ref C5) "__setattr__" = some (some (.builtin "object.__setattr__"))) (mk5 : PySem.W.makesIn K C5 = true) (kc5 : PySem.W.keepIn K (.ref C5) = true)
    (a6 : PySem.W.nsIn K mainGlobals "TopView" = some (some (.ref C6))) (pg6 : PySem.W.plainGet K C6 Str.empty = true) (hd6 : PySem.W.hasDictIn K C6 = true) (po6 : PySem.W.plainOver K C6 = true) (sa6 : PySem.W.findIn K (.ref C6) "__setattr__" = some (some (.builtin "object.__setattr__"))) (mk6 : PySem.W.makesIn K C6 = true) (kc6 : PySem.W.keepIn K (.ref C6) = true)
    (a7 : PySem.W.nsIn K mainGlobals "WhereView" = some (some (.ref C7))) (pg7 : PySem.W.plainGet K C7 Str.empty = true) (hd7 : PySem.W.hasDictIn K C7 = true) (po7 : PySem.W.plainOver K C7 = true) (sa7 : PySem.W.findIn K (.ref C7) "__setattr__" = some (some (.builtin "object.__setattr__"))) (mk7 : PySem.W.makesIn K C7 = true) (kc7 : PySem.W.keepIn K (.ref C7) = true)
    (ab : PySem.W.nsIn K mainGlobals "Board" = some (some (.ref Cb))) (pgb : PySem.W.plainGet K Cb Str.empty = true) (hdb : PySem.W.hasDictIn K Cb = true) (pob : PySem.W.plainOver K Cb = true) (sab : PySem.W.findIn K (.ref Cb) "__setattr__" = some (some (.builtin "object.__setattr__"))) (mkb : PySem.W.makesIn K Cb = true) (kcb : PySem.W.keepIn K (.ref Cb) = true)
    (av : PySem.W.findIn K (.ref C1) "__init__" = some (some (.ref fV))) (lv : K.lookup fV = some ⟨oc, od, .func (PySem.W.fnOf "__init__" "View.__init__" (defArgs (inClass (top 12) 0)) (defBody (inClass (top 12) 0)) (defScope (inClass (top 12) 0)) .none kV doc pm an cdv ct), osl⟩) (cv : PySem.W.codeIn K cdv "View.__init__" = true) (kv : PySem.W.keepIn K (.ref fV) = true)
    (rest : mg "GetView" = some (.ref C1) → Cls K C1 → PySem.W.makesIn K C1 = true → PySem.W.keepIn K (.ref C1) = true →
      mg "CountView" = some (.ref C2) → Cls K C2 → PySem.W.makesIn K C2 = true → PySem.W.keepIn K (.ref C2) = true →
      mg "SumView" = some (.ref C3) → Cls K C3 → PySem.W.makesIn K C3 = true → PySem.W.keepIn K (.ref C3) = true →
      mg "ListView" = some (.ref C4) → Cls K C4 → PySem.W.makesIn K C4 = true → PySem.W.keepIn K (.ref C4) = true →
      mg "LeastView" = some (.ref C5) → Cls K C5 → PySem.W.makesIn K C5 = true → PySem.W.keepIn K (.ref C5) = true →
      mg "TopView" = some (.ref C6) → Cls K C6 → PySem.W.makesIn K C6 = true → PySem.W.keepIn K (.ref C6) = true →
      mg "WhereView" = some (.ref C7) → Cls K C7 → PySem.W.makesIn K C7 = true → PySem.W.keepIn K (.ref C7) = true →
      mg "Board" = some (.ref Cb) → Cls K Cb → PySem.W.makesIn K Cb = true → PySem.W.keepIn K (.ref Cb) = true → (∃ fd, Fun K "__init__" "View.__init__" (inClass (top 12) 0) fV fd ∧ Binds K fd psSup []) → R) : R :=
  rest (PySem.W.mg_of X G a1) ⟨pg1, hd1, po1, sa1⟩ mk1 kc1 (PySem.W.mg_of X G a2) ⟨pg2, hd2, po2, sa2⟩ mk2 kc2 (PySem.W.mg_of X G a3) ⟨pg3, hd3, po3, sa3⟩ mk3 kc3 (PySem.W.mg_of X G a4) ⟨pg4, hd4, po4, sa4⟩ mk4 kc4 (PySem.W.mg_of X G a5) ⟨pg5, hd5, po5, sa5⟩ mk5 kc5 (PySem.W.mg_of X G a6) ⟨pg6, hd6, po6, sa6⟩ mk6 kc6 (PySem.W.mg_of X G a7) ⟨pg7, hd7, po7, sa7⟩ mk7 kc7 (PySem.W.mg_of X G ab) ⟨pgb, hdb, pob, sab⟩ mkb kcb ⟨_, fun_mk lv cv kv, fv_binds (fun_mk lv cv kv)⟩
theorem vt2 {K : PySem.W.Frag} {C1 C2 C3 C4 C5 C6 C7 : Addr} (c1 : Cls K C1) (c2 : Cls K C2) (c3 : Cls K C3) (c4 : Cls K C4) (c5 : Cls K C5) (c6 : Cls K C6) (c7 : Cls K C7)
    (n1q : PySem.W.findIn K (.ref C1) "question" = some none) (n1c : PySem.W.findIn K (.ref C1) "cover" = some none) (n1k : PySem.W.findIn K (.ref C1) "known" = some none) (n2q : PySem.W.findIn K (.ref C2) "question" = some none) (n2c : PySem.W.findIn K (.ref C2) "cover" = some none) (n2k : PySem.W.findIn K (.ref C2) "known" = some none) (n3q : PySem.W.findIn K (.ref C3) "question" = some none) (n3c : PySem.W.findIn K (.ref C3) "cover" = some none) (n3k : PySem.W.findIn K (.ref C3) "known" = some none) (n4q : PySem.W.findIn K (.ref C4) "question" = some none) (n4c : PySem.W.findIn K (.ref C4) "cover" = some none) (n4k : PySem.W.findIn K (.ref C4) "known" = some none) (n5q : PySem.W.findIn K (.ref C5) "question" = some none) (n5c : PySem.W.findIn K (.ref C5) "cover" = some none) (n5k : PySem.W.findIn K (.ref C5) "known" = some none) (n6q : PySem.W.findIn K (.ref C6) "question" = some none) (n6c : PySem.W.findIn K (.ref C6) "cover" = some none) (n6k : PySem.W.findIn K (.ref C6) "known" = some none) (n7q : PySem.W.findIn K (.ref C7) "question" = some none) (n7c : PySem.W.findIn K (.ref C7) "cover" = some none) (n7k : PySem.W.findIn K (.ref C7) "known" = some none) (nt : PySem.W.findIn K (.ref C3) "total" = some none) (r1 : PySem.W.findIn K (.ref C4) "rows" = some none) (r2 : PySem.W.findIn K (.ref C7) "rows" = some none) (x1 : PySem.W.findIn K (.ref C5) "ranked" = some none) (x2 : PySem.W.findIn K (.ref C6) "ranked" = some none) : VT K (clOf C1 C2 C3 C4 C5 C6 C7) :=
  vt_mk c1 c2 c3 c4 c5 c6 c7 n1q n2q n3q n4q n5q n6q n7q n1c n2c n3c n4c n5c n6c n7c n1k n2k n3k n4k n5k n6k n7k nt r1 r2 x1 x2
theorem bt2 {K : PySem.W.Frag} {C : Addr} (c : Cls K C) (n : PySem.W.findIn K (.ref C) "_mark" = some none) (e : PySem.W.findIn K (.ref C) "_early" = some none) (v : PySem.W.findIn K (.ref C) "_views" = some none) (m : PySem.W.findIn K (.ref C) "_moments" = some none) : BT K C := ⟨c, n, e, v, m⟩
end LH
open PySem PySem.W PyProof.Rows
set_option maxRecDepth 100000 in
set_option maxHeartbeats 0 in
theorem PySem.Challenge.cw_leasehall_k47_whole_boards_holds : PySem.Challenge.rw_leasehall_k47_whole_boards.Holds := by
  w_on; o_law; k_head; (case hw => w_witness2)
  k_fill
  refine LH.walk rfl (fun w h Y => PySem.W.kIn_of Y) ?F
  case F =>
    intro w mg fa h KX G hmg
    refine LH.law_mk KX G hmg (by k_is) (by k_is) (by k_is) (by k_is) ?rest
    case rest =>
      intro fd F base
      refine LH.with_cls KX G (by k_is) (by k_is) (by k_is) (by k_is) (by k_is) (by k_is) (by k_is) (by k_is) (by k_is) (by k_is) (by k_is) (by k_is) (by k_is) (by k_is) (by k_is) (by k_is) (by k_is) (by k_is) (by k_is) (by k_is) (by k_is) (by k_is) (by k_is) (by k_is) (by k_is) (by k_is) (by k_is) (by k_is) (by k_is) (by k_is) (by k_is) (by k_is) (by k_is) (by k_is) (by k_is) (by k_is) (by k_is) (by k_is) (by k_is) (by k_is) (by k_is) (by k_is) (by k_is) (by k_is) (by k_is) (by k_is) (by k_is) (by k_is) (by k_is) (by k_is) (by k_is) (by k_is) (by k_is) (by k_is) (by k_is) (by k_is) (by k_is) (by k_is) (by k_is) (by k_is) ?body
      case body =>
        intro g1 c1 mk1 kc1 g2 c2 mk2 kc2 g3 c3 mk3 kc3 g4 c4 mk4 kc4 g5 c5 mk5 kc5 g6 c6 mk6 kc6 g7 c7 mk7 kc7 gb cb mkb kcb
        rintro ⟨fdV, FV, bV⟩
        have T : LH.Bl mg := LH.bl_mk KX G (by k_is) (by k_is) (by k_is) (by k_is) (by k_is) (by k_is) (by k_is) (by k_is) (by k_is) (by k_is) (by k_is)
        have TV := LH.vt2 c1 c2 c3 c4 c5 c6 c7 (by k_is) (by k_is) (by k_is) (by k_is) (by k_is) (by k_is) (by k_is) (by k_is) (by k_is) (by k_is) (by k_is) (by k_is) (by k_is) (by k_is) (by k_is) (by k_is) (by k_is) (by k_is) (by k_is) (by k_is) (by k_is) (by k_is) (by k_is) (by k_is) (by k_is) (by k_is)
        have BTf := LH.bt2 cb (by k_is) (by k_is) (by k_is) (by k_is)
        have EF := LH.err_mk (x := "Full") KX G (by k_is) (by k_exc) (by k_is) (by k_is) (by k_is)
        have EN := LH.err_mk (x := "NotFound") KX G (by k_is) (by k_exc) (by k_is) (by k_is) (by k_is)
        have TF : LH.ErrT _ _ := LH.errT_of EF (by k_is) (by k_is) (by k_is) (by k_is) (by k_is) (by k_is) (by k_is) (by k_is) (by kts_exm) (by kit_is)
        have TN : LH.ErrT _ _ := LH.errT_of EN (by k_is) (by k_is) (by k_is) (by k_is) (by k_is) (by k_is) (by k_is) (by k_is) (by kts_exm) (by kit_is)
        have d_contains := LH.di_contains KX G (by k_is) (by k_is) (by k_is) (by k_is)
        have d_cover_of := LH.di_cover_of KX G (by k_is) (by k_is) (by k_is) (by k_is)
        have d_view_cover := LH.di_view_cover KX G (by k_is) (by k_is) (by k_is) (by k_is)
        have d_place_of := LH.di_place_of KX G (by k_is) (by k_is) (by k_is) (by k_is)
        have d_add_item := LH.di_add_item KX G (by k_is) (by k_is) (by k_is) (by k_is)
        have d_drop_item := LH.di_drop_item KX G (by k_is) (by k_is) (by k_is) (by k_is)
        have d_make_view := LH.di_make_view KX G (by k_is) (by k_is) (by k_is) (by k_is)
        have d_law_mix := LH.di_law_mix KX G (by k_is) (by k_is) (by k_is) (by k_is)
        have d_law_number := LH.di_law_number KX G (by k_is) (by k_is) (by k_is) (by k_is)
        have d_law_state := LH.di_law_state KX G (by k_is) (by k_is) (by k_is) (by k_is)
        have d_law_draw := LH.di_law_draw KX G (by k_is) (by k_is) (by k_is) (by k_is)
        have d_law_is_integer := LH.di_law_is_integer KX G (by k_is) (by k_is) (by k_is) (by k_is)
        have d_law_tells := LH.di_law_tells KX G (by k_is) (by k_is) (by k_is) (by k_is)
        have d_law_key := LH.di_law_key KX G (by k_is) (by k_is) (by k_is) (by k_is)
        have d_law_cover := LH.di_law_cover KX G (by k_is) (by k_is) (by k_is) (by k_is)
        have d_law_question := LH.di_law_question KX G (by k_is) (by k_is) (by k_is) (by k_is)
        have d_law_cover_of := LH.di_law_cover_of KX G (by k_is) (by k_is) (by k_is) (by k_is)
        have d_law_group := LH.di_law_group KX G (by k_is) (by k_is) (by k_is) (by k_is)
        have d_law_ledger := LH.di_law_ledger KX G (by k_is) (by k_is) (by k_is) (by k_is)
        have d_law_at := LH.di_law_at KX G (by k_is) (by k_is) (by k_is) (by k_is)
        have d_law_rows := LH.di_law_rows KX G (by k_is) (by k_is) (by k_is) (by k_is)
        have d_law_ask := LH.di_law_ask KX G (by k_is) (by k_is) (by k_is) (by k_is)
        have d_law_same := LH.di_law_same KX G (by k_is) (by k_is) (by k_is) (by k_is)
        have d_law_records := LH.di_law_records KX G (by k_is) (by k_is) (by k_is) (by k_is)
        have d_law_view_question := LH.di_law_view_question KX G (by k_is) (by k_is) (by k_is) (by k_is)
        have d_law_view_cover := LH.di_law_view_cover KX G (by k_is) (by k_is) (by k_is) (by k_is)
        have d_law_ask_view := LH.di_law_ask_view KX G (by k_is) (by k_is) (by k_is) (by k_is)
        have d_law_all_right := LH.di_law_all_right KX G (by k_is) (by k_is) (by k_is) (by k_is)
        have d_law_refused := LH.di_law_refused KX G (by k_is) (by k_is) (by k_is) (by k_is)
        have d_law_added := LH.di_law_added KX G (by k_is) (by k_is) (by k_is) (by k_is)
        have m_get_put := LH.mi_View_put c1 (by k_is) (by k_is) (by k_is) (by k_is) (by k_is)
        have m_get_cancel := LH.mi_View_cancel c1 (by k_is) (by k_is) (by k_is) (by k_is) (by k_is)
        have m_get_take := LH.mi_View_take c1 (by k_is) (by k_is) (by k_is) (by k_is) (by k_is)
        have m_get_answer := LH.mi_GetView_answer c1 (by k_is) (by k_is) (by k_is) (by k_is) (by k_is)
        have m_count_put := LH.mi_View_put c2 (by k_is) (by k_is) (by k_is) (by k_is) (by k_is)
        have m_count_cancel := LH.mi_View_cancel c2 (by k_is) (by k_is) (by k_is) (by k_is) (by k_is)
        have m_count_take := LH.mi_View_take c2 (by k_is) (by k_is) (by k_is) (by k_is) (by k_is)
        have m_count_answer := LH.mi_CountView_answer c2 (by k_is) (by k_is) (by k_is) (by k_is) (by k_is)
        have m_sum_put := LH.mi_SumView_put c3 (by k_is) (by k_is) (by k_is) (by k_is) (by k_is)
        have m_sum_cancel := LH.mi_SumView_cancel c3 (by k_is) (by k_is) (by k_is) (by k_is) (by k_is)
        have m_sum_take := LH.mi_View_take c3 (by k_is) (by k_is) (by k_is) (by k_is) (by k_is)
        have m_sum_answer := LH.mi_SumView_answer c3 (by k_is) (by k_is) (by k_is) (by k_is) (by k_is)
        have m_list_put := LH.mi_ListView_put c4 (by k_is) (by k_is) (by k_is) (by k_is) (by k_is)
        have m_list_cancel := LH.mi_ListView_cancel c4 (by k_is) (by k_is) (by k_is) (by k_is) (by k_is)
        have m_list_take := LH.mi_View_take c4 (by k_is) (by k_is) (by k_is) (by k_is) (by k_is)
        have m_list_answer := LH.mi_ListView_answer c4 (by k_is) (by k_is) (by k_is) (by k_is) (by k_is)
        have m_least_put := LH.mi_LeastView_put c5 (by k_is) (by k_is) (by k_is) (by k_is) (by k_is)
        have m_least_cancel := LH.mi_LeastView_cancel c5 (by k_is) (by k_is) (by k_is) (by k_is) (by k_is)
        have m_least_take := LH.mi_View_take c5 (by k_is) (by k_is) (by k_is) (by k_is) (by k_is)
        have m_least_answer := LH.mi_LeastView_answer c5 (by k_is) (by k_is) (by k_is) (by k_is) (by k_is)
        have m_top_put := LH.mi_TopView_put c6 (by k_is) (by k_is) (by k_is) (by k_is) (by k_is)
        have m_top_cancel := LH.mi_TopView_cancel c6 (by k_is) (by k_is) (by k_is) (by k_is) (by k_is)
        have m_top_take := LH.mi_View_take c6 (by k_is) (by k_is) (by k_is) (by k_is) (by k_is)
        have m_top_answer := LH.mi_TopView_answer c6 (by k_is) (by k_is) (by k_is) (by k_is) (by k_is)
        have m_whr_put := LH.mi_WhereView_put c7 (by k_is) (by k_is) (by k_is) (by k_is) (by k_is)
        have m_whr_cancel := LH.mi_WhereView_cancel c7 (by k_is) (by k_is) (by k_is) (by k_is) (by k_is)
        have m_whr_take := LH.mi_View_take c7 (by k_is) (by k_is) (by k_is) (by k_is) (by k_is)
        have m_whr_answer := LH.mi_WhereView_answer c7 (by k_is) (by k_is) (by k_is) (by k_is) (by k_is)
        have m_whr_is_met := LH.mi_WhereView_is_met c7 (by k_is) (by k_is) (by k_is) (by k_is) (by k_is)
        have m_board_mark := LH.mi_Board_mark cb (by k_is) (by k_is) (by k_is) (by k_is) (by k_is)
        have m_board_numbers := LH.mi_Board_numbers cb (by k_is) (by k_is) (by k_is) (by k_is) (by k_is)
        have m_board_forget_early := LH.mi_Board__forget_early cb (by k_is) (by k_is) (by k_is) (by k_is) (by k_is)
        have m_board_move := LH.mi_Board__move cb (by k_is) (by k_is) (by k_is) (by k_is) (by k_is)
        have m_board_add := LH.mi_Board_add cb (by k_is) (by k_is) (by k_is) (by k_is) (by k_is)
        have m_board_remove := LH.mi_Board_remove cb (by k_is) (by k_is) (by k_is) (by k_is) (by k_is)
        have m_board_note := LH.mi_Board_note cb (by k_is) (by k_is) (by k_is) (by k_is) (by k_is)
        have m_board_answer := LH.mi_Board_answer cb (by k_is) (by k_is) (by k_is) (by k_is) (by k_is)
        have o_get := LH.own_mk mk1 (by k_is) (by k_is) kc1 FV bV
        have o_count := LH.own_mk mk2 (by k_is) (by k_is) kc2 FV bV
        have s_sum := LH.si_sum KX G FV mk3 (by k_is) (by k_is) kc3 (by k_is) (by k_is) (by k_is) (by rfl) (by decide +kernel) (by k_is) (by k_is) (by k_is) (by k_is) (by k_is) (by k_is) (by ks_is) (by k_is) (by k_is)
        have s_list := LH.si_list KX G FV mk4 (by k_is) (by k_is) kc4 (by k_is) (by k_is) (by k_is) (by rfl) (by decide +kernel) (by k_is) (by k_is) (by k_is) (by k_is) (by k_is) (by k_is) (by ks_is) (by k_is) (by k_is)
        have s_least := LH.si_least KX G FV mk5 (by k_is) (by k_is) kc5 (by k_is) (by k_is) (by k_is) (by rfl) (by decide +kernel) (by k_is) (by k_is) (by k_is) (by k_is) (by k_is) (by k_is) (by ks_is) (by k_is) (by k_is)
        have s_top := LH.si_top KX G FV mk6 (by k_is) (by k_is) kc6 (by k_is) (by k_is) (by k_is) (by rfl) (by decide +kernel) (by k_is) (by k_is) (by k_is) (by k_is) (by k_is) (by k_is) (by ks_is) (by k_is) (by k_is)
        have s_whr := LH.si_whr KX G FV mk7 (by k_is) (by k_is) kc7 (by k_is) (by k_is) (by k_is) (by rfl) (by decide +kernel) (by k_is) (by k_is) (by k_is) (by k_is) (by k_is) (by k_is) (by ks_is) (by k_is) (by k_is)
        have o_board := LH.ii_Board mkb (by k_is) (by k_is) kcb (by k_is) (by k_is) (by k_is)
        exact LH.all_mk T TV BTf EF EN TF TN (by kts_exm) g1 g2 g3 g4 g5 g6 g7 gb d_contains d_cover_of d_view_cover d_place_of d_add_item d_drop_item d_make_view d_law_mix d_law_number d_law_state d_law_draw d_law_is_integer d_law_tells d_law_key d_law_cover d_law_question d_law_cover_of d_law_group d_law_ledger d_law_at d_law_rows d_law_ask d_law_same d_law_records d_law_view_question d_law_view_cover d_law_ask_view d_law_all_right d_law_refused d_law_added m_get_put m_get_cancel m_get_take m_get_answer m_count_put m_count_cancel m_count_take m_count_answer m_sum_put m_sum_cancel m_sum_take m_sum_answer m_list_put m_list_cancel m_list_take m_list_answer m_least_put m_least_cancel m_least_take m_least_answer m_top_put m_top_cancel m_top_take m_top_answer m_whr_put m_whr_cancel m_whr_take m_whr_answer m_whr_is_met m_board_mark m_board_numbers m_board_forget_early m_board_move m_board_add m_board_remove m_board_note m_board_answer o_get o_count s_sum s_list s_least s_top s_whr o_board F base
