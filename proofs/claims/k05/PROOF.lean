import PyProof.Rows.All
import Wide.All
import OpenK.AllK
import Wide.FinOn
import HandS.ForMost
import HandS.ForExc
import HandS.IsInst
import HandS.ExcIs
import HandS.Defaults
import HandS.ExcInit
import HandS.ExcField
import HandS.ExcValue
import HandS.TryMany
import HandS.Wide
import HandS.WideBits
import HandS.SortInts
import HandS.SetFor
import HandS.Rev
import HandS.RevRange
import HandS.Zip
import HandS.TupAny
import HandS.TupMul
import HandS.TupLe
import HandS.Conv
import HandS.More
import HandS.Deep
import HandS.Small
import HandS.EndBits
import HandS.Head0
import HandS.Head1
import HandS.Head2
import HandS.HeadEnd
import HandS.HeadHook1
import HandS.HeadHook2
import PySem.Challenge.RW_leafframe_k05_shapes
set_option Elab.async false
set_option linter.all false
set_option maxRecDepth 100000
set_option maxHeartbeats 4000000
/-! LF1: what the top holds, defs by name, calls by promise. -/
namespace LF
open PySem PySem.Spec PyProof.Rows L2
/-! ### the hook: facts, defs, one more truth of the written part -/
abbrev AlB : Type := He.AlD × Bool
def obsB (n : Nat) (fa : List He.Fa) (fn : List He.DefD) (ex : PySem.W.Frag → Bool) (g : Addr → Option Obj) : AlB := (He.obsD fa fn (He.frG g (He.asD g n)), ex (He.frG g (He.asD g n)))
def valB (fn : List He.DefD) : AlB := (He.valD fn, true)
structure Says (fa : List He.Fa) (fn : List He.DefD) (ex : PySem.W.Frag → Bool) (K : PySem.W.Frag) : Prop where
  d : He.SaysD fa fn K
  b : ex K = true
def hookB (n : Nat) (fa : List He.Fa) (fn : List He.DefD) (ex : PySem.W.Frag → Bool) : PySem.W.Hook where
  α := AlB
  obs := fun s => obsB n fa fn ex s.heap.get?
  val := fun _ => valB fn
  says := fun _ h => ∃ K : PySem.W.Frag, K.In h ∧ Says fa fn ex K
  of := fun _ _ e => ⟨_, He.frG_in, congrArg (fun z : AlB => z.1) e, congrArg (fun z : AlB => z.2) e⟩
  keeps := fun _ _ _ ⟨K, hK, c⟩ k => ⟨K, PySem.W.Frag.In.keeps hK k, c⟩
theorem obsB_eq {n : Nat} {fa : List He.Fa} {fn : List He.DefD} {ex : PySem.W.Frag → Bool} {g : Addr → Option Obj} {s : Shared} (h : ∀ a, g a = s.heap.get? a) : obsB n fa fn ex g = (hookB n fa fn ex).obs s := by
  have e : g = s.heap.get? := funext h
  rw [e] <;> rfl
/-! ### the text's facts -/
structure Tx (fa : List He.Fa) (fn : List He.DefD) (ex : PySem.W.Frag → Bool) (K : PySem.W.Frag) (mg : Str → Option Value) : Prop where
  c : Says fa fn ex K
  g : ∃ h, K.In h ∧ h.Ns mainGlobals mg
section
variable {fa : List He.Fa} {fn : List He.DefD} {ex : PySem.W.Frag → Bool} {K : PySem.W.Frag} {mg : Str → Option Value}
theorem Tx.glo (T : Tx fa fn ex K mg) (i : Nat) {x : Str} (h : fa[i]? = some (.glo x) := by rfl) : mg x = some (.ref (He.ga K x)) := by
  obtain ⟨hp, X, G⟩ := T.g
  exact He.glo_ok X G (T.c.d.fact i h)
theorem Tx.free (T : Tx fa fn ex K mg) (i : Nat) {x : Str} (h : fa[i]? = some (.free x) := by rfl) : mg x = none := by
  obtain ⟨hp, X, G⟩ := T.g
  exact He.free_ok X G (T.c.d.fact i h)
theorem Tx.int (T : Tx fa fn ex K mg) (i : Nat) {x : Str} {z : Int} (h : fa[i]? = some (.int x z) := by rfl) : ∃ t, mg x = some (.int z t) := by
  obtain ⟨hp, X, G⟩ := T.g
  exact He.int_ok X G (T.c.d.fact i h)
theorem Tx.str (T : Tx fa fn ex K mg) (i : Nat) {x z : Str} (h : fa[i]? = some (.str x z) := by rfl) : ∃ t, mg x = some (.str z t) := by
  obtain ⟨hp, X, G⟩ := T.g
  exact He.str_ok X G (T.c.d.fact i h)
theorem Tx.cls (T : Tx fa fn ex K mg) (i : Nat) {x : Str} (h : fa[i]? = some (.cls x) := by rfl) : Cls K (He.ga K x) := He.cls_ok (T.c.d.fact i h)
theorem Tx.noat (T : Tx fa fn ex K mg) (i : Nat) {x f : Str} (h : fa[i]? = some (.noat x f) := by rfl) : NoAttr K (He.ga K x) f := He.noat_ok (T.c.d.fact i h)
theorem Tx.meth (T : Tx fa fn ex K mg) (i : Nat) {x m : Str} (h : fa[i]? = some (.meth x m) := by rfl) : Meth K (He.ga K x) m (He.ma K (He.ga K x) m) := He.meth_ok (T.c.d.fact i h)
theorem Tx.mkr (T : Tx fa fn ex K mg) (i : Nat) {x : Str} (h : fa[i]? = some (.mkr x) := by rfl) : Mk K (He.ga K x) (He.ma K (He.ga K x) "__init__") := He.mkr_ok (T.c.d.fact i h)
theorem Tx.exm (T : Tx fa fn ex K mg) (i : Nat) {x y : Str} {b : Bool} (h : fa[i]? = some (.exm x y b) := by rfl) : PySem.W.exmOne K (.ref (He.ga K x)) (.ref (He.ga K y)) = some b := He.exm_ok (T.c.d.fact i h)
theorem Tx.exc (T : Tx fa fn ex K mg) (i : Nat) {x : Str} (h : fa[i]? = some (.exc x) := by rfl) : PySem.W.excIn K (He.ga K x) He.veBase "ValueError.__new__" = true ∧ PySem.W.keepIn K (.ref (He.ga K x)) = true ∧
    PySem.W.subIn K (.ref (He.ga K x)) (.type "BaseException") = some true ∧ PySem.W.typeIn K (.ref (He.ga K x)) = some (.type "type") := He.exc_ok (T.c.d.fact i h)
end
/-! ### a def that keeps its promise, by where it stands -/
structure Okf (P : Program) (w : World) (K : PySem.W.Frag) (mg : Str → Option Value) (base : Heap) (at_ : Str × Option Str) (ps : List Str) (dvs : List V) (k : Nat) (sp : Sp) : Prop where
  ex : ∃ fd ds, FnOk P w K mg base (L2.CX P w) k (He.fAd K at_) fd ps sp ∧ Binds K fd ps ds ∧ Vals dvs ds
  kp : PySem.W.keepIn K (.ref (He.fAd K at_)) = true
section
variable {P : Program} {w : World} {K : PySem.W.Frag} {mg : Str → Option Value} {base : Heap} {at_ : Str × Option Str} {ps : List Str} {dvs : List V} {k : Nat} {sp sp' : Sp}
theorem Okf.mono {j : Nat} (G : Okf P w K mg base at_ ps dvs j sp) (h : j ≤ k) : Okf P w K mg base at_ ps dvs k sp := by
  obtain ⟨⟨fd, ds, F, b, v⟩, kp⟩ := G
  exact ⟨⟨fd, ds, F.mono h, b, v⟩, kp⟩
theorem Okf.imp (G : Okf P w K mg base at_ ps dvs k sp) (h : ∀ vs H Q E, sp' vs H Q E → sp vs H Q E) : Okf P w K mg base at_ ps dvs k sp' := by
  obtain ⟨⟨fd, ds, F, b, v⟩, kp⟩ := G
  exact ⟨⟨fd, ds, F.imp h, b, v⟩, kp⟩
end
section
variable {fa : List He.Fa} {fn : List He.DefD} {ex : PySem.W.Frag → Bool} {P : Program} {w : World} {K : PySem.W.Frag} {mg : Str → Option Value} {base : Heap} {N ps : List Str} {k : Nat} {sp : Sp}
/-- the context of such a def's body -/
abbrev bodyX (P : Program) (w : World) (K : PySem.W.Frag) (mg : Str → Option Value) (base : Heap) (N : List Str) (d : He.DefD) (cdv : Value) (A : Around) (outer : List Env) (s : Shared) (H : Hp) (E : XK) : Cx :=
  cxOf (L2.CX P w) P w K mg base N d.qual d.scope (He.fAd K d.at_) cdv A outer s H E
theorem okf_of (T : Tx fa fn ex K mg) (i : Nat) {d : He.DefD} (hi : fn[i]? = some d) (S : FnScope N ps d.scope) (dvs : List V) (hb : ∀ fd, FunD K d.name d.qual d.params d.body d.scope (d.dvs K) (d.kws K) (He.fAd K d.at_) fd → ∃ ds, Vals dvs ds ∧ Binds K fd ps ds)
    (len : ∀ vs H Q E, sp vs H Q E → vs.length = ps.length)
    (body : ∀ (cdv : Value) (A : Around) (outer : List Env) (s : Shared) (H : Hp) (vs : List V) (Q : VK) (E : XK), Room k (A.deeper (envOfC d.qual d.scope s.heap.objs.size (He.fAd K d.at_) cdv)) → Takes (bodyX P w K mg base N d cdv A outer s H E) (fun cls dd _ H' => E cls dd H') → sp vs H Q E →
      ∃ t, PSs (bodyX P w K mg base N d cdv A outer s H E) d.body t ∧ t { nx := fun _ H' => Q .non H', rt := Q } (start N vs) H) : Okf P w K mg base d.at_ ps dvs (k + 1) sp := by
  obtain ⟨fd, F⟩ := T.c.d.def_ i (d := d) hi
  obtain ⟨ds, v, b⟩ := hb fd F
  exact ⟨⟨fd, ds, F.ok S len fun cdv A outer s H vs Q E hr h => body cdv A outer s H vs Q E hr (takes_of rfl rfl rfl rfl) h, b, v⟩, F.kp⟩
/-- a def without defaults -/
theorem okf_mk (T : Tx fa fn ex K mg) (i : Nat) {d : He.DefD} (hi : fn[i]? = some d) (S : FnScope N ps d.scope) (h0 : d.dfl = []) (h1 : d.kwd = [])
    (hb : ∀ (kV doc pm : Value) (an : Option Addr) (cdv ct : Value) (us : List Value), us.length = ps.length → bindArgs (PySem.W.fnOf d.name d.qual d.params d.body d.scope .none kV doc pm an cdv ct) ⟨us, []⟩ = pure (ps.zip us))
    (len : ∀ vs H Q E, sp vs H Q E → vs.length = ps.length)
    (body : ∀ (cdv : Value) (A : Around) (outer : List Env) (s : Shared) (H : Hp) (vs : List V) (Q : VK) (E : XK), Room k (A.deeper (envOfC d.qual d.scope s.heap.objs.size (He.fAd K d.at_) cdv)) → Takes (bodyX P w K mg base N d cdv A outer s H E) (fun cls dd _ H' => E cls dd H') → sp vs H Q E →
      ∃ t, PSs (bodyX P w K mg base N d cdv A outer s H E) d.body t ∧ t { nx := fun _ H' => Q .non H', rt := Q } (start N vs) H) : Okf P w K mg base d.at_ ps [] (k + 1) sp :=
  okf_of T i hi S [] (fun fd F => by
    have e1 : d.dvs K = [] := by unfold He.DefD.dvs; rw [h0]; rfl
    have e2 : d.kws K = [] := by unfold He.DefD.kws; rw [h1]; rfl
    rw [e1, e2] at F
    exact ⟨[], .nil, FunD.bindsN F hb⟩) len body
end
/-! ### calls -/
section
variable {X : Cx} {W : WX} {at_ : Str × Option Str} {ps : List Str} {dvs : List V} {k : Nat} {sp : Sp} {x m C : Str} {p pos apos : Pos} {e o : Expr} {es : List Expr} {ta : TE} {t : TA}
abbrev OkX (X : Cx) (at_ : Str × Option Str) (ps : List Str) (dvs : List V) (k : Nat) (sp : Sp) : Prop := Okf X.prog X.w X.K X.mg X.base at_ ps dvs k sp
theorem run_o {pins : List (Addr × Obj)} {σ : L2.St} {H : Hp} {s : Shared} {Q : VK} {us : List Value} {vs : List V} (G : OkX X at_ ps dvs k sp) (hr : Room k X.A) (tk : Takes X W)
    (I : Inv X pins σ H s) (r : Vals vs us) (h : sp (vs ++ dvs) H Q (fun cls d H' => W cls d σ H')) : wpAny (model X.prog X.w) X.A (call (.ref (He.fAd X.K at_)) us) (EP X pins σ Q) X.xe s := by
  obtain ⟨⟨fd, ds, F, hb, hd⟩, _⟩ := G
  have r2 : Vals (vs ++ dvs) (us ++ ds) := r.append hd
  have hl : (us ++ ds).length = ps.length := by rw [← r2.length]; exact F.len _ _ _ _ h
  refine wpAny_call (codeAny_mono (F.run X.A X.stack s H ⟨us, []⟩ (us ++ ds) (vs ++ dvs) Q _ hr I.env0 (hb s us I.kIn hl) r2 h) fun r s' hq => ?_)
  cases r with
  | error e => exact tk e s' (XE.of_call I (fun _ _ _ h => h) hq)
  | ok fl =>
    cases fl with
    | ret u => exact I.after hq
    | next => exact False.elim hq
    | brk => exact False.elim hq
    | cont => exact False.elim hq
/-- a call's reading: the arguments, then the promise -/
def tCl (sp : Sp) (dvs : List V) (W : WX) (t : TA) : TE := fun σ H Q => t σ H fun vs H1 => sp (vs ++ dvs) H1 Q (fun cls d H' => W cls d σ H')
theorem pe_cl (G : OkX X (x, none) ps dvs k sp) (hr : Room k X.A) (hg : Gl X x) (hm : X.mg x = some (.ref (He.ga X.K x))) (tk : Takes X W)
    (ha : PA X (e :: es) t) (hdb : (x == ("__debug__" : Str)) = false := by decide) (he : starEach (e :: es) X.env = (false, eval e X.env) :: starEach es X.env := by rfl) (hpl : (backTo pos (starEach es X.env)).any (·.1) = false := by rfl) :
    PE X (.Call (.Name x p) (e :: es) [] pos) (tCl sp dvs W t) := by
  refine ⟨fun pins s σ H Q I h => ?_⟩
  refine wpAny_Call_Name_kw (ld_glob I hg hm ?_ hdb)
  refine PySem.W.callWith_K (h₀ := X.base) I.ok.mod.kin G.kp (thn (ha.run pos pins s σ H _ I h) fun us s1 ⟨vs, H1, I1, r, q⟩ => ⟨I1.kIn, ?_⟩) he hpl
  exact run_o G hr tk I1 r q
theorem pe_cl0 (G : OkX X (x, none) ps dvs k sp) (hr : Room k X.A) (hg : Gl X x) (hm : X.mg x = some (.ref (He.ga X.K x))) (tk : Takes X W)
    (hdb : (x == ("__debug__" : Str)) = false := by decide) : PE X (.Call (.Name x p) [] [] pos) (tCl sp dvs W tNil) := by
  refine ⟨fun pins s σ H Q I h => ?_⟩
  refine wpAny_Call_Name_kw (ld_glob I hg hm ?_ hdb)
  exact PySem.W.callWith_K0 I.kIn G.kp (run_o (us := []) G hr tk I .nil h)
/-- o.m(..): the object, that it is of the class, the arguments, the promise -/
def tMl (C : Addr) (m : Str) (sp : Sp) (dvs : List V) (W : WX) (ta : TE) (t : TA) : TE := fun σ H Q => ta σ H fun x H1 => ∃ a dx fs, x = .ref a ∧ H1 a = some (.ins C dx fs) ∧ fs.lookup m = none ∧ t σ H1 fun vs H2 => sp (x :: (vs ++ dvs)) H2 Q (fun cls d H' => W cls d σ H')
theorem pe_ml {pl : Sem Bool} (he : PE X o ta) (c : Cls X.K (He.ga X.K C)) (hm : Meth X.K (He.ga X.K C) m (He.ma X.K (He.ga X.K C) m)) (G : OkX X (C, some m) ps dvs k sp) (hr : Room k X.A) (tk : Takes X W) (ha : PA X (e :: es) t)
    (hst : starEach (e :: es) X.env = (false, eval e X.env) :: starEach es X.env := by rfl) (hpl : (backTo pos (starEach es X.env)).any (·.1) = false := by rfl)
    (ht : eval (.Call (.Attribute o m apos) (e :: es) [] pos) X.env = (do
      let ov ← eval o X.env
      standAt apos.atName
      let (f, first) ← holding [ov] (getMethod ov m pl)
      callWith pos f first (backTo pos (starEach (e :: es) X.env)) (backToKw pos (keywordEach [] X.env))) := by rfl) :
    PE X (.Call (.Attribute o m apos) (e :: es) [] pos) (tMl (He.ga X.K C) m sp dvs W ta t) := by
  refine ⟨fun pins s σ H Q I h => ?_⟩
  refine PySem.W.methodCall_KW (pl := pl) (thn (he.run pins s σ H _ I h) fun u s1 ⟨x, H1, I1, rx, a, dx, fs, ex, ea, l, q⟩ => ?_) ht
  subst ex
  obtain rfl : u = Value.ref a := rx
  refine getmeth_ok I1 ea c hm l ?_
  refine PySem.W.callWith_K (first := [.ref a]) (h₀ := X.base) I.ok.mod.kin hm.kp (thn (ha.run pos pins s1 σ H1 _ I1 q) fun us s2 ⟨vs, H2, I2, r, q2⟩ => ⟨I2.kIn, ?_⟩) hst hpl
  exact run_o (us := .ref a :: us) (vs := .ref a :: vs) G hr tk I2 (.cons rfl r) q2
theorem pe_ml0 {pl : Sem Bool} (he : PE X o ta) (c : Cls X.K (He.ga X.K C)) (hm : Meth X.K (He.ga X.K C) m (He.ma X.K (He.ga X.K C) m)) (G : OkX X (C, some m) ps dvs k sp) (hr : Room k X.A) (tk : Takes X W)
    (ht : eval (.Call (.Attribute o m apos) [] [] pos) X.env = (do
      let ov ← eval o X.env
      standAt apos.atName
      let (f, first) ← holding [ov] (getMethod ov m pl)
      callWith pos f first (backTo pos (starEach [] X.env)) (backToKw pos (keywordEach [] X.env))) := by rfl) :
    PE X (.Call (.Attribute o m apos) [] [] pos) (tMl (He.ga X.K C) m sp dvs W ta tNil) := by
  refine ⟨fun pins s σ H Q I h => ?_⟩
  refine PySem.W.methodCall_KW (pl := pl) (thn (he.run pins s σ H _ I h) fun u s1 ⟨x, H1, I1, rx, a, dx, fs, ex, ea, l, q⟩ => ?_) ht
  subst ex
  obtain rfl : u = Value.ref a := rx
  refine getmeth_ok I1 ea c hm l ?_
  exact PySem.W.callWith_K0 (first := [.ref a]) I1.kIn hm.kp (run_o (us := [.ref a]) (vs := [.ref a]) G hr tk I1 (.cons rfl .nil) q)
/-- C(..): a new instance, then __init__'s promise -/
def tMk (C : Addr) (sp : Sp) (dvs : List V) (W : WX) (t : TA) : TE := fun σ H Q => t σ H fun vs H1 => ∀ x dx, H1 x = none → H1 dx = none → dx ≠ x →
  sp (.ref x :: (vs ++ dvs)) (upd (upd H1 dx (.own x)) x (.ins C dx [])) (fun v H2 => v = .non ∧ Q (.ref x) H2) (fun cls d H' => W cls d σ H')
theorem run_mk {pins : List (Addr × Obj)} {σ : L2.St} {H : Hp} {s : Shared} {Q : VK} {us : List Value} {vs : List V} (M : Mk X.K (He.ga X.K C) (He.ma X.K (He.ga X.K C) "__init__")) (G : OkX X (C, some "__init__") ps dvs k sp) (hr : Room (k + 1) X.A)
    (tk : Takes X W) (I : Inv X pins σ H s) (r : Vals vs us)
    (h : ∀ x dx, H x = none → H dx = none → dx ≠ x → sp (.ref x :: (vs ++ dvs)) (upd (upd H dx (.own x)) x (.ins (He.ga X.K C) dx [])) (fun v H2 => v = .non ∧ Q (.ref x) H2) (fun cls d H' => W cls d σ H')) :
    wpAny (model X.prog X.w) X.A (call (.ref (He.ga X.K C)) us) (EP X pins σ Q) X.xe s := by
  obtain ⟨⟨fd, ds, F, hb, hd⟩, _⟩ := G
  have hq := h (s.heap.objs.size + 1) s.heap.objs.size (I.hok.fresh (Nat.le_succ _)) (I.hok.fresh (Nat.le_refl _)) (Nat.ne_of_lt (Nat.lt_succ_self _))
  have I2 := Inv.made (C := He.ga X.K C) I
  have r2 : Vals (V.ref (s.heap.objs.size + 1) :: (vs ++ dvs)) (Value.ref (s.heap.objs.size + 1) :: (us ++ ds)) := .cons rfl (r.append hd)
  have hl : (Value.ref (s.heap.objs.size + 1) :: us ++ ds).length = ps.length := by
    have e := r2.length
    rw [F.len _ _ _ _ hq] at e
    exact e.symm
  refine wpAny_call (make_map (f := He.ma X.K (He.ga X.K C) "__init__") I.kIn M.makes M.init (beq_iff_eq.mp M.fn) (codeAny_mono (F.run _ X.stack _ _ ⟨Value.ref (s.heap.objs.size + 1) :: us, []⟩ (Value.ref (s.heap.objs.size + 1) :: (us ++ ds)) _ _ _ (hr.make (He.ga X.K C) us [])
    (I2.env0.make (He.ga X.K C) us []) (hb _ (Value.ref (s.heap.objs.size + 1) :: us) I2.kIn hl) r2 hq) fun r s' hq' => ?_))
  cases r with
  | error e => exact tk e s' (XE.of_call I2 (fun _ _ _ h => h) hq')
  | ok fl =>
    cases fl with
    | ret u =>
      obtain ⟨v, H', I3, rv, ev, q3⟩ := I2.after hq'
      subst ev
      exact ⟨rv, ⟨V.ref (s.heap.objs.size + 1), H', I3, rfl, q3⟩⟩
    | next => exact False.elim hq'
    | brk => exact False.elim hq'
    | cont => exact False.elim hq'
theorem pe_mk (M : Mk X.K (He.ga X.K x) (He.ma X.K (He.ga X.K x) "__init__")) (G : OkX X (x, some "__init__") ps dvs k sp) (hr : Room (k + 1) X.A) (hg : Gl X x) (hm : X.mg x = some (.ref (He.ga X.K x))) (tk : Takes X W)
    (ha : PA X (e :: es) t) (hdb : (x == ("__debug__" : Str)) = false := by decide) (he : starEach (e :: es) X.env = (false, eval e X.env) :: starEach es X.env := by rfl) (hpl : (backTo pos (starEach es X.env)).any (·.1) = false := by rfl) :
    PE X (.Call (.Name x p) (e :: es) [] pos) (tMk (He.ga X.K x) sp dvs W t) := by
  refine ⟨fun pins s σ H Q I h => ?_⟩
  refine wpAny_Call_Name_kw (ld_glob I hg hm ?_ hdb)
  refine PySem.W.callWith_K (h₀ := X.base) I.ok.mod.kin M.kp (thn (ha.run pos pins s σ H _ I h) fun us s1 ⟨vs, H1, I1, r, q⟩ => ⟨I1.kIn, ?_⟩) he hpl
  exact run_mk M G hr tk I1 r q
theorem pe_mk0 (M : Mk X.K (He.ga X.K x) (He.ma X.K (He.ga X.K x) "__init__")) (G : OkX X (x, some "__init__") ps dvs k sp) (hr : Room (k + 1) X.A) (hg : Gl X x) (hm : X.mg x = some (.ref (He.ga X.K x))) (tk : Takes X W)
    (hdb : (x == ("__debug__" : Str)) = false := by decide) : PE X (.Call (.Name x p) [] [] pos) (tMk (He.ga X.K x) sp dvs W tNil) := by
  refine ⟨fun pins s σ H Q I h => ?_⟩
  refine wpAny_Call_Name_kw (ld_glob I hg hm ?_ hdb)
  exact PySem.W.callWith_K0 I.kIn M.kp (run_mk (us := []) M G hr tk I .nil h)
/-- raise X('..') -/
theorem ps_rs {fa : List He.Fa} {fn : List He.DefD} {ex : PySem.W.Frag → Bool} (T : Tx fa fn ex X.K X.mg) (i : Nat) (j : Nat) {z : Str} {jj : Nat} {p2 pos2 : Pos} (hc : X.calm = true) (tk : Takes X W) (hi : fa[i]? = some (.exc x)) (hj : fa[j]? = some (.glo x)) (hg : Gl X x := by rfl)
    (hdb : (x == ("__debug__" : Str)) = false := by decide) : PS X (.Raise (some (.Call (.Name x p) [.Constant (.str z) jj p2] [] pos)) none pos2) (fun _ σ H => W (.ref (He.ga X.K x)) none σ H) :=
  ps_raise hc tk (pmk_own PySem.F.excBase_ValueError (T.exc i hi).1 (T.glo j hj) (T.exc i hi).2.1 (raises_own (T.exc i hi).2.2.1 (T.exc i hi).2.2.2) hg hdb)
end
end LF

/-! LF2: promises by parameters, heaps that change, short steps. -/
namespace LF
open PySem PySem.Spec PyProof.Rows L2
/-! ### promises by parameters -/
def sp1 (q : V → Hp → VK → XK → Prop) : Sp := fun vs H Q E => ∃ a, vs = [a] ∧ q a H Q E
def sp2 (q : V → V → Hp → VK → XK → Prop) : Sp := fun vs H Q E => ∃ a b, vs = [a, b] ∧ q a b H Q E
def sp3 (q : V → V → V → Hp → VK → XK → Prop) : Sp := fun vs H Q E => ∃ a b c, vs = [a, b, c] ∧ q a b c H Q E
def sp4 (q : V → V → V → V → Hp → VK → XK → Prop) : Sp := fun vs H Q E => ∃ a b c d, vs = [a, b, c, d] ∧ q a b c d H Q E
def sp5 (q : V → V → V → V → V → Hp → VK → XK → Prop) : Sp := fun vs H Q E => ∃ a b c d e, vs = [a, b, c, d, e] ∧ q a b c d e H Q E
def sp6 (q : V → V → V → V → V → V → Hp → VK → XK → Prop) : Sp := fun vs H Q E => ∃ a b c d e f, vs = [a, b, c, d, e, f] ∧ q a b c d e f H Q E
theorem sp1_len {q : V → Hp → VK → XK → Prop} {vs : List V} {H : Hp} {Q : VK} {E : XK} (h : sp1 q vs H Q E) : vs.length = 1 := by obtain ⟨_, rfl, _⟩ := h; rfl
theorem sp2_len {q : V → V → Hp → VK → XK → Prop} {vs : List V} {H : Hp} {Q : VK} {E : XK} (h : sp2 q vs H Q E) : vs.length = 2 := by obtain ⟨_, _, rfl, _⟩ := h; rfl
theorem sp3_len {q : V → V → V → Hp → VK → XK → Prop} {vs : List V} {H : Hp} {Q : VK} {E : XK} (h : sp3 q vs H Q E) : vs.length = 3 := by obtain ⟨_, _, _, rfl, _⟩ := h; rfl
theorem sp4_len {q : V → V → V → V → Hp → VK → XK → Prop} {vs : List V} {H : Hp} {Q : VK} {E : XK} (h : sp4 q vs H Q E) : vs.length = 4 := by obtain ⟨_, _, _, _, rfl, _⟩ := h; rfl
theorem sp5_len {q : V → V → V → V → V → Hp → VK → XK → Prop} {vs : List V} {H : Hp} {Q : VK} {E : XK} (h : sp5 q vs H Q E) : vs.length = 5 := by obtain ⟨_, _, _, _, _, rfl, _⟩ := h; rfl
theorem sp6_len {q : V → V → V → V → V → V → Hp → VK → XK → Prop} {vs : List V} {H : Hp} {Q : VK} {E : XK} (h : sp6 q vs H Q E) : vs.length = 6 := by obtain ⟨_, _, _, _, _, _, rfl, _⟩ := h; rfl
/-! ### heaps -/
/-- what was tracked ahead and is not among L stands as it stood; what was tracked stays tracked -/
structure Md (L : List Addr) (H H' : Hp) : Prop where
  kp : ∀ b o, b ∉ L → H b = some o → H' b = some o
  up : ∀ b, H' b = none → H b = none
structure New (H : Hp) (p : Addr) : Prop where
  eq : H p = none
theorem Md.refl {L : List Addr} {H : Hp} : Md L H H := ⟨fun _ _ _ h => h, fun _ h => h⟩
theorem Md.trans {L : List Addr} {H H1 H2 : Hp} (a : Md L H H1) (b : Md L H1 H2) : Md L H H2 := ⟨fun c o n h => b.kp c o n (a.kp c o n h), fun c h => a.up c (b.up c h)⟩
theorem Md.mono {L M : List Addr} {H H1 : Hp} (a : Md L H H1) (s : ∀ b ∈ L, b ∈ M) : Md M H H1 := ⟨fun c o n h => a.kp c o (fun z => n (s c z)) h, a.up⟩
theorem Md.at_ {L : List Addr} {H H1 : Hp} (a : Md L H H1) {b : Addr} {o : HO} (n : b ∉ L) (h : H b = some o) : H1 b = some o := a.kp b o n h
theorem Md.to0 {L : List Addr} {H H1 : Hp} (a : Md [] H H1) : Md L H H1 := a.mono (fun _ h => by cases h)
theorem Md.at0 {H H1 : Hp} (a : Md [] H H1) {b : Addr} {o : HO} (h : H b = some o) : H1 b = some o := a.kp b o (by simp) h
theorem Md.at1 {l : Addr} {H H1 : Hp} (a : Md [l] H H1) {b : Addr} {o : HO} (n : b ≠ l) (h : H b = some o) : H1 b = some o := a.kp b o (by simpa using n) h
theorem Md.at2 {l m : Addr} {H H1 : Hp} (a : Md [l, m] H H1) {b : Addr} {o : HO} (n : b ≠ l) (n2 : b ≠ m) (h : H b = some o) : H1 b = some o := a.kp b o (by simp [n, n2]) h
theorem Md.same {H H1 : Hp} (a : Md [] H H1) : Same H H1 := fun _ _ h => a.at0 h
theorem upd_up {H : Hp} {p b : Addr} {o : HO} (h : upd H p o b = none) : H b = none := by
  by_cases e : b = p
  · rw [e, upd_same] at h; cases h
  · rw [upd_ne e] at h; exact h
theorem Md.upd_new {L : List Addr} {H : Hp} {p : Addr} {o : HO} (h : H p = none) : Md L H (upd H p o) := ⟨fun b x _ e => by
  rw [upd_ne (ne_of_none e h)]
  exact e, fun _ => upd_up⟩
theorem Md.upd_old {H : Hp} {p : Addr} {o : HO} : Md [p] H (upd H p o) := ⟨fun b x n e => by
  rw [upd_ne (by simpa using n)]
  exact e, fun _ => upd_up⟩
theorem Md.upd_in {L : List Addr} {H : Hp} {p : Addr} {o : HO} (h : p ∈ L) : Md L H (upd H p o) := ⟨fun b x n e => by
  rw [upd_ne (fun z => n (by rw [z]; exact h))]
  exact e, fun _ => upd_up⟩
theorem Md.none_of {L : List Addr} {H H1 : Hp} (a : Md L H H1) {p : Addr} (h : H1 p = none) : H p = none := a.up p h
theorem ne_new {H : Hp} {a b : Addr} {o : HO} (n : New H b) (h : H a = some o) : a ≠ b := ne_of_none h n.eq
theorem Md.seqL {K : PySem.W.Frag} {H H1 : Hp} {a : Addr} {xs : List V} (m : Md [] H H1) (h : SqL K H a xs) : SqL K H1 a xs := m.same.seq h
/-! ### tests -/
theorem ifd {p A B : Prop} [Decidable p] (h1 : p → A) (h2 : ¬ p → B) : if decide p = true then A else B := by
  by_cases h : p
  · rw [decide_eq_true h]; exact iteT (h1 h)
  · rw [decide_eq_false h]; exact iteF (h2 h)
theorem ifdn {p A B : Prop} [Decidable p] (h1 : ¬ p → A) (h2 : p → B) : if (!decide p) = true then A else B := by
  by_cases h : p
  · rw [decide_eq_true h]; exact iteF (h2 h)
  · rw [decide_eq_false h]; exact iteT (h1 h)
theorem ifdT {p A B : Prop} [Decidable p] (h : p) (h1 : A) : if decide p = true then A else B := by
  rw [decide_eq_true h]; exact iteT h1
theorem ifdF {p A B : Prop} [Decidable p] (h : ¬ p) (h1 : B) : if decide p = true then A else B := by
  rw [decide_eq_false h]; exact iteF h1
theorem ifdnT {p A B : Prop} [Decidable p] (h : ¬ p) (h1 : A) : if (!decide p) = true then A else B := by
  rw [decide_eq_false h]; exact iteT h1
theorem ifdnF {p A B : Prop} [Decidable p] (h : p) (h1 : B) : if (!decide p) = true then A else B := by
  rw [decide_eq_true h]; exact iteF h1
theorem atI_of {xs : List V} {i : Int} {v : V} (h0 : 0 ≤ i) (h : xs[i.toNat]? = some v) : atI xs i = some v := by
  have e : i = ((i.toNat : Nat) : Int) := by omega
  rw [e]
  exact atI_nat h
end LF

/-! LF3: operators by what the values are. -/
namespace LF
open PySem PySem.Spec PyProof.Rows L2
theorem newI {H : Hp} {P : Addr → Prop} (h : ∀ p, New H p → P p) : ∀ p, H p = none → P p := fun p e => h p ⟨e⟩
section
variable {X : Cx}
/-- == -/
def rEqU (K : PySem.W.Frag) : R2 := fun x y H Q => match x, y with
  | .int i, .int j => Q (.bl (decide (i = j))) H
  | .str i, .str j => Q (.bl (decide (i = j))) H
  | .bl i, .bl j => Q (.bl (decide (i = j))) H
  | .non, .non => Q (.bl true) H
  | .non, .int _ => Q (.bl false) H
  | .int _, .non => Q (.bl false) H
  | .non, .str _ => Q (.bl false) H
  | .str _, .non => Q (.bl false) H
  | .ref a, .ref b => rEqD K (.ref a) (.ref b) H Q
  | x, y => rEq x y H Q ∨ rEqD K x y H Q
def rNeU (K : PySem.W.Frag) : R2 := fun x y H Q => match x, y with
  | .int i, .int j => Q (.bl (!decide (i = j))) H
  | .str i, .str j => Q (.bl (!decide (i = j))) H
  | .bl i, .bl j => Q (.bl (!decide (i = j))) H
  | .non, .non => Q (.bl false) H
  | .non, .int _ => Q (.bl true) H
  | .int _, .non => Q (.bl true) H
  | .non, .str _ => Q (.bl true) H
  | .str _, .non => Q (.bl true) H
  | .ref a, .ref b => rNeD K (.ref a) (.ref b) H Q
  | x, y => rNe x y H Q ∨ rNeD K x y H Q
theorem d_int {i j : Int} : decide (V.int i = V.int j) = decide (i = j) := by
  by_cases h : i = j <;> simp [h]
theorem d_str {i j : Str} : decide (V.str i = V.str j) = decide (i = j) := by
  by_cases h : i = j <;> simp [h]
theorem d_bl {i j : Bool} : decide (V.bl i = V.bl j) = decide (i = j) := by
  by_cases h : i = j <;> simp [h]
theorem rEqU_to {K : PySem.W.Frag} {x y : V} {H : Hp} {Q : VK} (h : rEqU K x y H Q) : rEq x y H Q ∨ rEqD K x y H Q := by
  unfold rEqU at h
  split at h
  · exact .inl ⟨rfl, by rw [d_int]; exact h⟩
  · exact .inl ⟨rfl, by rw [d_str]; exact h⟩
  · exact .inl ⟨rfl, by rw [d_bl]; exact h⟩
  · exact .inl ⟨rfl, by simpa using h⟩
  · exact .inl ⟨rfl, by simpa using h⟩
  · exact .inl ⟨rfl, by simpa using h⟩
  · exact .inl ⟨rfl, by simpa using h⟩
  · exact .inl ⟨rfl, by simpa using h⟩
  · exact .inr h
  · exact h
theorem rNeU_to {K : PySem.W.Frag} {x y : V} {H : Hp} {Q : VK} (h : rNeU K x y H Q) : rNe x y H Q ∨ rNeD K x y H Q := by
  unfold rNeU at h
  split at h
  · exact .inl ⟨rfl, by rw [d_int]; exact h⟩
  · exact .inl ⟨rfl, by rw [d_str]; exact h⟩
  · exact .inl ⟨rfl, by rw [d_bl]; exact h⟩
  · exact .inl ⟨rfl, by simpa using h⟩
  · exact .inl ⟨rfl, by simpa using h⟩
  · exact .inl ⟨rfl, by simpa using h⟩
  · exact .inl ⟨rfl, by simpa using h⟩
  · exact .inl ⟨rfl, by simpa using h⟩
  · exact .inr h
  · exact h
theorem OpR.imp {f : Value → Value → Sem Value} {r r' : R2} (h : OpR X f r) (i : ∀ x y H Q, r' x y H Q → r x y H Q) : OpR X f r' := fun pins s σ H x y v u Q I rx ry q => h pins s σ H x y v u Q I rx ry (i _ _ _ _ q)
theorem u_eq (hu : X.A.units + 64 < cLine) : OpR X (compareOp .Eq) (rEqU X.K) := OpR.imp (OpR.or op_eq (op_eqD hu)) fun _ _ _ _ h => rEqU_to h
theorem u_ne (hu : X.A.units + 64 < cLine) : OpR X (compareOp .NotEq) (rNeU X.K) := OpR.imp (OpR.or op_ne (op_neD hu)) fun _ _ _ _ h => rNeU_to h
/-- + -/
def rAddU (K : PySem.W.Frag) : R2 := fun x y H Q => match x, y with
  | .int i, .int j => Q (.int (i + j)) H
  | .str i, .str j => i.length + j.length ≤ sizeLine ∧ Q (.str (i ++ j)) H
  | .ref a, .ref b => rCat (.ref a) (.ref b) H Q ∨ rCatA K (.ref a) (.ref b) H Q
  | _, _ => False
theorem u_add : OpR X (binaryOp .Add) (rAddU X.K) := by
  refine OpR.imp (OpR.or op_add (OpR.or op_add_str (OpR.or op_cat op_catA))) fun x y H Q h => ?_
  unfold rAddU at h
  split at h
  · exact .inl ⟨_, _, rfl, rfl, h⟩
  · exact .inr (.inl ⟨_, _, rfl, rfl, h.1, h.2⟩)
  · exact .inr (.inr h)
  · exact h.elim
/-- *, of bounded bits -/
def rMulU : R2 := fun x y H Q => match x, y with
  | .int i, .int j => (CMulW i j ∨ CMul i j) ∧ Q (.int (i * j)) H
  | .ref a, .int j => rRep (.ref a) (.int j) H Q
  | _, _ => False
theorem u_mul : OpR X (binaryOp .Mult) rMulU := by
  refine OpR.imp (OpR.or (OpR.or op_mulW op_mul) op_rep) fun x y H Q h => ?_
  unfold rMulU at h
  split at h
  · rcases h.1 with z | z
    · exact .inl (.inl ⟨_, _, rfl, rfl, z, h.2⟩)
    · exact .inl (.inr ⟨_, _, rfl, rfl, z, h.2⟩)
  · exact .inr h
  · exact h.elim
/-- // by a positive one -/
def rDivU : R2 := fun x y H Q => match x, y with
  | .int i, .int j => (CDiv i j ∨ CDivW i j) ∧ Q (.int (i / j)) H
  | _, _ => False
theorem u_div : OpR X (binaryOp .FloorDiv) rDivU := by
  refine OpR.imp (OpR.or op_fdiv op_fdivW) fun x y H Q h => ?_
  unfold rDivU at h
  split at h
  · rcases h.1 with z | z
    · exact .inl ⟨_, _, rfl, rfl, z, h.2⟩
    · exact .inr ⟨_, _, rfl, rfl, z, h.2⟩
  · exact h.elim
end
end LF
namespace LF
open PySem PySem.Spec PyProof.Rows L2
theorem atI_ints {ns : List Int} {i n : Int} (h0 : 0 ≤ i) (h : ns[i.toNat]? = some n) : atI (ns.map V.int) i = some (.int n) := atI_of h0 (by rw [List.getElem?_map, h]; rfl)
theorem ixN_of {n : Nat} {i : Int} (h0 : 0 ≤ i) (h : i < n) : ixN n i = some i.toNat := by
  unfold ixN
  first
    | (simp [h0, h]; done)
    | (split <;> first | rfl | omega | (simp_all; omega))
theorem Md.seqT {K : PySem.W.Frag} {H H1 : Hp} {a : Addr} {xs : List V} (m : Md [] H H1) (h : SqT K H a xs) : SqT K H1 a xs := by
  rcases h with (h | ⟨o, h⟩) | h
  · exact .inl (.inl (m.at0 h))
  · exact .inl (.inr ⟨o, m.at0 h⟩)
  · exact .inr h
end LF
namespace LF
open PySem PySem.Spec PyProof.Rows L2
theorem Md.new_ {L : List Addr} {H H1 : Hp} {b : Addr} {o : HO} (m : Md L H H1) (n : New H1 b) : Md L H (upd H1 b o) := m.trans (Md.upd_new n.eq)
theorem Md.in_ {L : List Addr} {H H1 : Hp} {b : Addr} {o : HO} (m : Md L H H1) (h : b ∈ L) : Md L H (upd H1 b o) := m.trans (Md.upd_in h)
/-- a cell that was new ahead may be changed -/
theorem Md.fresh_ {L : List Addr} {H H1 : Hp} {b : Addr} {o : HO} (m : Md L H H1) (n : New H b) : Md L H (upd H1 b o) := ⟨fun c u nc e => by
  rw [upd_ne (ne_of_none e n.eq)]
  exact m.kp c u nc e, fun c h => m.up c (upd_up h)⟩
theorem New.of_upd {H : Hp} {a b : Addr} {o : HO} (n : New (upd H a o) b) : New H b := by
  obtain ⟨e⟩ := n
  by_cases h : b = a
  · rw [h, upd_same] at e; cases e
  · rw [upd_ne h] at e; exact ⟨e⟩
theorem New.of_md {H H1 : Hp} {L : List Addr} {b : Addr} (n : New H1 b) (m : Md L H H1) : New H b := ⟨m.up b n.eq⟩
theorem New.of_md0 {H H1 : Hp} {b : Addr} (n : New H1 b) (m : Md [] H H1) : New H b := n.of_md m
/-- the later heap holds all that the earlier one held -/
structure Gr (H H' : Hp) : Prop where
  up : ∀ b, H' b = none → H b = none
theorem Gr.refl {H : Hp} : Gr H H := ⟨fun _ h => h⟩
theorem Gr.stp {L : List Addr} {H H1 H2 : Hp} (m : Md L H1 H2) (g : Gr H H1) : Gr H H2 := ⟨fun b h => g.up b (m.up b h)⟩
theorem New.gr {H H1 : Hp} {b : Addr} (n : New H1 b) (g : Gr H H1) : New H b := ⟨g.up b n.eq⟩
theorem ne_old {H H1 : Hp} {a b : Addr} {o : HO} (h : H a = some o) (n : New H1 b) (g : Gr H H1) : a ≠ b := ne_of_none h (g.up b n.eq)
/-- what stands at a stays -/
structure Ma (a : Addr) (H H' : Hp) : Prop where
  at_ : ∀ o, H a = some o → H' a = some o
theorem Ma.refl {a : Addr} {H : Hp} : Ma a H H := ⟨fun _ h => h⟩
theorem Ma.stp {a : Addr} {L : List Addr} {H H1 H2 : Hp} (m : Md L H1 H2) (n : a ∉ L) (k : Ma a H H1) : Ma a H H2 := ⟨fun o h => m.kp a o n (k.at_ o h)⟩
theorem ma_at {a : Addr} {H H' : Hp} {o : HO} (h : H a = some o) (k : Ma a H H') : H' a = some o := k.at_ o h
theorem New.ne {H : Hp} {a b : Addr} (n : New H b) {o : HO} (h : H a = some o) : b ≠ a := (ne_new n h).symm
end LF

namespace LF
open PySem PySem.Spec PyProof.Rows L2
theorem Md.then0 {L : List Addr} {H H1 H2 : Hp} (a : Md [] H H1) (b : Md L H1 H2) : Md L H H2 := a.to0.trans b
theorem Md.thenL {L : List Addr} {H H1 H2 : Hp} (a : Md L H H1) (b : Md [] H1 H2) : Md L H H2 := a.trans b.to0
/-- one more step at the end of a chain -/
theorem Md.stp {L L' : List Addr} {H H1 H2 : Hp} (b : Md L' H1 H2) (s : ∀ x ∈ L', x ∈ L ∨ New H x) (a : Md L H H1) : Md L H H2 := by
  refine ⟨fun c o n h => ?_, fun c h => a.up c (b.up c h)⟩
  refine b.kp c o (fun z => ?_) (a.kp c o n h)
  rcases s c z with q | q
  · exact n q
  · rw [q.eq] at h; cases h
theorem sub0 {P : Addr → Prop} : ∀ x ∈ ([] : List Addr), P x := fun _ h => by cases h
theorem sub1 {P : Addr → Prop} {a : Addr} (h : P a) : ∀ x ∈ [a], P x := fun x hx => by
  cases hx with
  | head => exact h
  | tail _ h => cases h
theorem subC {P : Addr → Prop} {a : Addr} {l : List Addr} (h : P a) (t : ∀ x ∈ l, P x) : ∀ x ∈ a :: l, P x := fun x hx => by
  cases hx with
  | head => exact h
  | tail _ h => exact t x h
theorem nin0 {a : Addr} : a ∉ ([] : List Addr) := fun h => by cases h
theorem ninC {a b : Addr} {l : List Addr} (h : a ≠ b) (t : a ∉ l) : a ∉ b :: l := fun q => by
  cases q with
  | head => exact h rfl
  | tail _ q => exact t q
/-- an allotted cell: the heap behind, as a name -/
theorem al_of {H H' : Hp} {p : Addr} {o : HO} (e : upd H p o = H') (n : New H p) : H' p = some o ∧ Md [] H H' := by
  subst e
  exact ⟨upd_same, Md.upd_new n.eq⟩
theorem mu_of {H H' : Hp} {p : Addr} {o : HO} (e : upd H p o = H') : H' p = some o ∧ Md [p] H H' := by
  subst e
  exact ⟨upd_same, Md.upd_old⟩
theorem New.up {H H1 : Hp} {b : Addr} (m : Md [] H H1) (n : New H1 b) : New H b := n.of_md0 m
theorem Md.seqLm {K : PySem.W.Frag} {H H1 : Hp} {a : Addr} {xs : List V} (h : SqL K H a xs) (m : Md [] H H1) : SqL K H1 a xs := m.seqL h
theorem Md.seqTm {K : PySem.W.Frag} {H H1 : Hp} {a : Addr} {xs : List V} (h : SqT K H a xs) (m : Md [] H H1) : SqT K H1 a xs := m.seqT h
def hoK : HO → Nat
  | .lst _ => 0
  | .tup _ => 1
  | .ins _ _ _ => 2
  | .dK _ => 3
  | .own _ => 4
  | _ => 5
theorem ne_kind {H : Hp} {a b : Addr} {o u : HO} (h : H a = some o) (h' : H b = some u) (k : (hoK o == hoK u) = false) : a ≠ b := ne_of h h' fun e => by
  rw [e, beq_self_eq_true] at k
  cases k
theorem mkI {H : Hp} {P : Addr → Addr → Prop} (h : ∀ x dx, H x = none → H dx = none → dx ≠ x → P x dx) : ∀ x dx, H x = none → H dx = none → dx ≠ x → P x dx := h
theorem Md.seqLn {K : PySem.W.Frag} {L : List Addr} {H H1 : Hp} {a : Addr} {xs : List V} (m : Md L H H1) (n : a ∉ L) (h : SqL K H a xs) : SqL K H1 a xs := by
  rcases h with (h | ⟨o, h⟩) | h
  · exact .inl (.inl (m.at_ n h))
  · exact .inl (.inr ⟨o, m.at_ n h⟩)
  · exact .inr h
theorem Md.seqTn {K : PySem.W.Frag} {L : List Addr} {H H1 : Hp} {a : Addr} {xs : List V} (m : Md L H H1) (n : a ∉ L) (h : SqT K H a xs) : SqT K H1 a xs := by
  rcases h with (h | ⟨o, h⟩) | h
  · exact .inl (.inl (m.at_ n h))
  · exact .inl (.inr ⟨o, m.at_ n h⟩)
  · exact .inr h
end LF

/-! LF4: data by values. -/
namespace LF
open PySem PySem.Spec PyProof.Rows L2
theorem kb_int_int : kitB "int" "int" = some true := by decide +kernel
theorem kb_int_bool : kitB "int" "bool" = some false := by decide +kernel
theorem kb_int_str : kitB "int" "str" = some false := by decide +kernel
theorem kb_int_list : kitB "int" "list" = some false := by decide +kernel
theorem kb_int_tuple : kitB "int" "tuple" = some false := by decide +kernel
theorem kb_int_dict : kitB "int" "dict" = some false := by decide +kernel
theorem kb_int_none : kitB "int" "NoneType" = some false := by decide +kernel
theorem kb_bool_int : kitB "bool" "int" = some true := by decide +kernel
theorem kb_bool_bool : kitB "bool" "bool" = some true := by decide +kernel
theorem kb_bool_str : kitB "bool" "str" = some false := by decide +kernel
theorem kb_bool_list : kitB "bool" "list" = some false := by decide +kernel
theorem kb_bool_tuple : kitB "bool" "tuple" = some false := by decide +kernel
theorem kb_bool_dict : kitB "bool" "dict" = some false := by decide +kernel
theorem kb_bool_none : kitB "bool" "NoneType" = some false := by decide +kernel
theorem kb_str_int : kitB "str" "int" = some false := by decide +kernel
theorem kb_str_bool : kitB "str" "bool" = some false := by decide +kernel
theorem kb_str_str : kitB "str" "str" = some true := by decide +kernel
theorem kb_str_list : kitB "str" "list" = some false := by decide +kernel
theorem kb_str_tuple : kitB "str" "tuple" = some false := by decide +kernel
theorem kb_str_dict : kitB "str" "dict" = some false := by decide +kernel
theorem kb_str_none : kitB "str" "NoneType" = some false := by decide +kernel
theorem kb_list_int : kitB "list" "int" = some false := by decide +kernel
theorem kb_list_bool : kitB "list" "bool" = some false := by decide +kernel
theorem kb_list_str : kitB "list" "str" = some false := by decide +kernel
theorem kb_list_list : kitB "list" "list" = some true := by decide +kernel
theorem kb_list_tuple : kitB "list" "tuple" = some false := by decide +kernel
theorem kb_list_dict : kitB "list" "dict" = some false := by decide +kernel
theorem kb_list_none : kitB "list" "NoneType" = some false := by decide +kernel
theorem kb_tuple_int : kitB "tuple" "int" = some false := by decide +kernel
theorem kb_tuple_bool : kitB "tuple" "bool" = some false := by decide +kernel
theorem kb_tuple_str : kitB "tuple" "str" = some false := by decide +kernel
theorem kb_tuple_list : kitB "tuple" "list" = some false := by decide +kernel
theorem kb_tuple_tuple : kitB "tuple" "tuple" = some true := by decide +kernel
theorem kb_tuple_dict : kitB "tuple" "dict" = some false := by decide +kernel
theorem kb_tuple_none : kitB "tuple" "NoneType" = some false := by decide +kernel
theorem kb_dict_int : kitB "dict" "int" = some false := by decide +kernel
theorem kb_dict_bool : kitB "dict" "bool" = some false := by decide +kernel
theorem kb_dict_str : kitB "dict" "str" = some false := by decide +kernel
theorem kb_dict_list : kitB "dict" "list" = some false := by decide +kernel
theorem kb_dict_tuple : kitB "dict" "tuple" = some false := by decide +kernel
theorem kb_dict_dict : kitB "dict" "dict" = some true := by decide +kernel
theorem kb_dict_none : kitB "dict" "NoneType" = some false := by decide +kernel
theorem kb_none_int : kitB "NoneType" "int" = some false := by decide +kernel
theorem kb_none_bool : kitB "NoneType" "bool" = some false := by decide +kernel
theorem kb_none_str : kitB "NoneType" "str" = some false := by decide +kernel
theorem kb_none_list : kitB "NoneType" "list" = some false := by decide +kernel
theorem kb_none_tuple : kitB "NoneType" "tuple" = some false := by decide +kernel
theorem kb_none_dict : kitB "NoneType" "dict" = some false := by decide +kernel
theorem kb_none_none : kitB "NoneType" "NoneType" = some true := by decide +kernel
theorem flat_ints (ns : List Int) : (ns.map V.int).all flatV = true := by
  induction ns with
  | nil => rfl
  | cons a l ih => rw [List.map_cons, List.all_cons, ih]; rfl
theorem inV_ints {i : Int} {ns : List Int} : inV (.int i) (ns.map V.int) = decide (i ∈ ns) := by
  unfold inV
  induction ns with
  | nil => rfl
  | cons a l ih =>
    rw [List.map_cons, List.any_cons, ih]
    by_cases h : i = a
    · subst h; simp [eqV]
    · have h' : ¬ a = i := fun e => h e.symm
      simp [eqV, h, h']
def cellAt (ns : List Int) (i : Int) : Int := ns.getD i.toNat 0
theorem get_ex {α : Type} {xs : List α} {i : Nat} (h : i < xs.length) : ∃ n, xs[((0 : Int) + i).toNat]? = some n ∧ xs[i]? = some n := by
  refine ⟨xs[i], ?_, List.getElem?_eq_getElem h⟩
  rw [show ((0 : Int) + i).toNat = i by omega]
  exact List.getElem?_eq_getElem h
theorem int_len {α : Type} {xs : List α} : ((xs.length : Nat) : Int).toNat = xs.length := by omega
theorem len_mi {ns : List Int} : (ns.map V.int).length = ns.length := List.length_map _
theorem int_nat {n : Nat} : ((n : Nat) : Int).toNat = n := by omega
theorem rep_ints {n : Nat} {z : Int} : (List.replicate n [V.int z]).flatten = (List.replicate n z).map V.int := by
  induction n with
  | zero => rfl
  | succ n ih => rw [List.replicate_succ, List.flatten_cons, ih]; rfl
theorem eqT {K : PySem.W.Frag} {i j : Int} {H : Hp} {Q : VK} (e : i = j) (h : Q (.bl true) H) : rEqU K (.int i) (.int j) H Q := by
  show Q (.bl (decide (i = j))) H
  rw [decide_eq_true e]; exact h
theorem qT {b : Bool} {H : Hp} {Q : VK} (e : b = true) (h : Q (.bl true) H) : Q (.bl b) H := by rw [e]; exact h
theorem mod_get {xs : List Int} (c : Int) (h : 0 < xs.length) : ∃ u, xs[(c % (xs.length : Int)).toNat]? = some u ∧ u ∈ xs ∧ 0 ≤ c % (xs.length : Int) ∧ c % (xs.length : Int) < xs.length := by
  have a := Int.emod_nonneg c (show (xs.length : Int) ≠ 0 by omega)
  have b := Int.emod_lt_of_pos c (show (0 : Int) < xs.length by omega)
  have hh : (c % (xs.length : Int)).toNat < xs.length := by omega
  exact ⟨xs[(c % (xs.length : Int)).toNat], List.getElem?_eq_getElem hh, List.getElem_mem hh, a, b⟩
/-! ### plain data -/
inductive Dat where
  | non
  | int (i : Int)
  | str (x : Str)
  | lst (xs : List Dat)
  | tup (xs : List Dat)
noncomputable instance : DecidableEq Dat := fun a b => Classical.propDecidable (a = b)
mutual
def Dat.py : Dat → PyData
  | .non => .none
  | .int i => .int i
  | .str x => .str x
  | .lst xs => .list (Dat.pys xs)
  | .tup xs => .tuple (Dat.pys xs)
def Dat.pys : List Dat → List PyData
  | [] => []
  | x :: xs => x.py :: Dat.pys xs
end
mutual
theorem Dat.eqv_py : ∀ a b : Dat, PyData.eqv a.py b.py = true ↔ a = b
  | .non, b => by cases b <;> simp [Dat.py, PyData.eqv]
  | .int i, b => by cases b <;> simp [Dat.py, PyData.eqv]
  | .str i, b => by cases b <;> simp [Dat.py, PyData.eqv]
  | .lst xs, b => by
    cases b with
    | lst ys => rw [Dat.py, Dat.py, PyData.eqv, Dat.eqv_pys xs ys]; simp
    | _ => simp [Dat.py, PyData.eqv]
  | .tup xs, b => by
    cases b with
    | tup ys => rw [Dat.py, Dat.py, PyData.eqv, Dat.eqv_pys xs ys]; simp
    | _ => simp [Dat.py, PyData.eqv]
theorem Dat.eqv_pys : ∀ a b : List Dat, PyData.eqvAll (Dat.pys a) (Dat.pys b) = true ↔ a = b
  | [], [] => by simp [Dat.pys, PyData.eqvAll]
  | [], _ :: _ => by simp [Dat.pys, PyData.eqvAll]
  | _ :: _, [] => by simp [Dat.pys, PyData.eqvAll]
  | x :: xs, y :: ys => by
    rw [Dat.pys, Dat.pys, PyData.eqvAll, Bool.and_eq_true, Dat.eqv_py x y, Dat.eqv_pys xs ys]
    simp
end
theorem Dat.eqv_dec {a b : Dat} : PyData.eqv a.py b.py = decide (a = b) := by
  by_cases h : a = b
  · rw [decide_eq_true h]; exact (Dat.eqv_py a b).mpr h
  · rw [decide_eq_false h]
    cases e : PyData.eqv a.py b.py with
    | false => rfl
    | true => exact (h ((Dat.eqv_py a b).mp e)).elim
mutual
/-- no deeper than n, its texts of a right length -/
def Dat.okn : Nat → Dat → Prop
  | _, .non => True
  | _, .int _ => True
  | _, .str x => PyData.strOk x = true
  | 0, .lst _ => False
  | 0, .tup _ => False
  | n + 1, .lst xs => Dat.okns n xs
  | n + 1, .tup xs => Dat.okns n xs
def Dat.okns : Nat → List Dat → Prop
  | _, [] => True
  | n, x :: xs => Dat.okn n x ∧ Dat.okns n xs
end
mutual
theorem Dat.sh : ∀ (n : Nat) (d : Dat), Dat.okn n d → d.py.canLay0 = true ∧ d.py.depth ≤ n
  | _, .non, _ => ⟨by simp [Dat.py, PyData.canLay0], by simp [Dat.py, PyData.depth]⟩
  | _, .int _, _ => ⟨by simp [Dat.py, PyData.canLay0], by simp [Dat.py, PyData.depth]⟩
  | _, .str x, h => ⟨by rw [Dat.okn] at h; simp [Dat.py, PyData.canLay0, h], by simp [Dat.py, PyData.depth]⟩
  | 0, .lst _, h => by simp [Dat.okn] at h
  | 0, .tup _, h => by simp [Dat.okn] at h
  | n + 1, .lst xs, h => by
    rw [Dat.okn] at h
    obtain ⟨a, b⟩ := Dat.shs n xs h
    exact ⟨by rw [Dat.py, PyData.canLay0]; exact a, by rw [Dat.py, PyData.depth]; omega⟩
  | n + 1, .tup xs, h => by
    rw [Dat.okn] at h
    obtain ⟨a, b⟩ := Dat.shs n xs h
    exact ⟨by rw [Dat.py, PyData.canLay0]; exact a, by rw [Dat.py, PyData.depth]; omega⟩
theorem Dat.shs : ∀ (n : Nat) (d : List Dat), Dat.okns n d → PyData.canLayAll0 (Dat.pys d) = true ∧ PyData.depthAll (Dat.pys d) ≤ n
  | _, [], _ => ⟨by simp [Dat.pys, PyData.canLayAll0], by simp [Dat.pys, PyData.depthAll]⟩
  | n, x :: xs, h => by
    rw [Dat.okns] at h
    obtain ⟨a, b⟩ := Dat.sh n x h.1
    obtain ⟨c, e⟩ := Dat.shs n xs h.2
    exact ⟨by rw [Dat.pys, PyData.canLayAll0, a, c]; rfl, by rw [Dat.pys, PyData.depthAll]; omega⟩
end
theorem Dat.shaped {d : Dat} {n : Nat} (h : Dat.okn n d) (hn : n ≤ 64 := by decide) : SeqAt.shaped d.py = true := by
  obtain ⟨a, b⟩ := Dat.sh n d h
  unfold SeqAt.shaped
  rw [a, decide_eq_true (Nat.le_trans b hn)]
  rfl
theorem Dat.okns_all {n : Nat} : ∀ {ds : List Dat}, (∀ d ∈ ds, Dat.okn n d) → Dat.okns n ds
  | [], _ => by rw [Dat.okns]; trivial
  | d :: ds, h => by
    rw [Dat.okns]
    exact ⟨h d (List.mem_cons_self ..), Dat.okns_all fun e he => h e (List.mem_cons_of_mem _ he)⟩
abbrev Dat.ints (ns : List Int) : Dat := .lst (ns.map .int)
abbrev Dat.tints (ns : List Int) : Dat := .tup (ns.map .int)
theorem Dat.okns_ints {n : Nat} {ns : List Int} : Dat.okns n (ns.map .int) := Dat.okns_all fun d h => by
  obtain ⟨i, _, rfl⟩ := List.mem_map.mp h
  cases n <;> simp [Dat.okn]
theorem Dat.okn_ints {ns : List Int} : Dat.okn 1 (.ints ns) := by rw [Dat.ints, Dat.okn]; exact Dat.okns_ints
theorem Dat.okn_tints {ns : List Int} : Dat.okn 1 (.tints ns) := by rw [Dat.tints, Dat.okn]; exact Dat.okns_ints
theorem Dat.int_inj {ns ms : List Int} : ns.map Dat.int = ms.map Dat.int ↔ ns = ms := by
  constructor
  · intro h
    exact (List.map_inj_right (fun a b e => by cases e; rfl)).mp h
  · intro h; rw [h]
theorem Dat.ints_inj {ns ms : List Int} : Dat.ints ns = Dat.ints ms ↔ ns = ms := by
  constructor
  · intro h; exact Dat.int_inj.mp (by injection h)
  · intro h; rw [h]
theorem Dat.tints_inj {ns ms : List Int} : Dat.tints ns = Dat.tints ms ↔ ns = ms := by
  constructor
  · intro h; exact Dat.int_inj.mp (by injection h)
  · intro h; rw [h]
section
variable {K : PySem.W.Frag} {H H' : Hp}
abbrev Dk (K : PySem.W.Frag) (H : Hp) (v : V) (d : Dat) : Prop := Dp K H v d.py
abbrev Dks (K : PySem.W.Frag) (H : Hp) (vs : List V) (ds : List Dat) : Prop := DpAll K H vs (Dat.pys ds)
theorem Dk.non : Dk K H .non .non := by unfold Dk; rw [Dat.py]; exact .non
theorem Dk.int {i : Int} : Dk K H (.int i) (.int i) := by unfold Dk; rw [Dat.py]; exact .int i
theorem Dk.str {x : Str} : Dk K H (.str x) (.str x) := by unfold Dk; rw [Dat.py]; exact .str x
theorem Dk.lst {a : Addr} {vs : List V} {ds : List Dat} (h : SqL K H a vs) (t : Dks K H vs ds) : Dk K H (.ref a) (.lst ds) := by unfold Dk; rw [Dat.py]; exact .lst h t
theorem Dk.tup {a : Addr} {vs : List V} {ds : List Dat} (h : SqT K H a vs) (t : Dks K H vs ds) : Dk K H (.ref a) (.tup ds) := by unfold Dk; rw [Dat.py]; exact .tup h t
theorem Dks.nil : Dks K H [] [] := by unfold Dks; rw [Dat.pys]; exact .nil
theorem Dks.cons {v : V} {vs : List V} {d : Dat} {ds : List Dat} (h : Dk K H v d) (t : Dks K H vs ds) : Dks K H (v :: vs) (d :: ds) := by unfold Dks; rw [Dat.pys]; exact .cons h t
theorem Dks.ints {ns : List Int} : Dks K H (ns.map V.int) (ns.map .int) := by
  induction ns with
  | nil => exact .nil
  | cons a l ih => exact .cons .int ih
theorem Dk.ints {a : Addr} {ns : List Int} (h : SqL K H a (ns.map V.int)) : Dk K H (.ref a) (.ints ns) := .lst h .ints
theorem Dk.tints {a : Addr} {ns : List Int} (h : SqT K H a (ns.map V.int)) : Dk K H (.ref a) (.tints ns) := .tup h .ints
theorem Dks.append {vs ws : List V} {ds es : List Dat} (h : Dks K H vs ds) (t : Dks K H ws es) : Dks K H (vs ++ ws) (ds ++ es) := by
  induction ds generalizing vs with
  | nil => unfold Dks at h; rw [Dat.pys] at h; cases h; exact t
  | cons d ds ih =>
    unfold Dks at h
    rw [Dat.pys] at h
    cases h with
    | cons h1 h2 => exact .cons h1 (ih h2)
mutual
theorem Dp.md0 (m : Md [] H H') : ∀ (d : PyData) (v : V), Dp K H v d → Dp K H' v d
  | .none, _, h => by cases h; exact .non
  | .bool b, _, h => by cases h; exact .bl b
  | .int i, _, h => by cases h; exact .int i
  | .str x, _, h => by cases h; exact .str x
  | .list ds, _, h => by
    cases h with
    | lst hs ha => exact .lst (m.seqL hs) (DpAll.md0 m ds _ ha)
  | .tuple ds, _, h => by
    cases h with
    | tup hs ha => exact .tup (m.seqT hs) (DpAll.md0 m ds _ ha)
  | .dict _, _, h => by cases h
theorem DpAll.md0 (m : Md [] H H') : ∀ (ds : List PyData) (vs : List V), DpAll K H vs ds → DpAll K H' vs ds
  | [], _, h => by cases h; exact .nil
  | d :: ds, _, h => by
    cases h with
    | cons h1 h2 => exact .cons (Dp.md0 m d _ h1) (DpAll.md0 m ds _ h2)
end
theorem eq_dk {a b : Addr} {d e : Dat} {n m : Nat} {Q : VK} (ha : Dk K H (.ref a) d) (hb : Dk K H (.ref b) e) (on : Dat.okn n d) (om : Dat.okn m e) (hn : n ≤ 64) (hm : m ≤ 64) (h : Q (.bl (decide (d = e))) H) : rEqU K (.ref a) (.ref b) H Q :=
  show rEqD K (.ref a) (.ref b) H Q from ⟨_, _, ha, hb, Dat.shaped on hn, Dat.shaped om hm, by rw [Dat.eqv_dec]; exact h⟩
theorem ne_dk {a b : Addr} {d e : Dat} {n m : Nat} {Q : VK} (ha : Dk K H (.ref a) d) (hb : Dk K H (.ref b) e) (on : Dat.okn n d) (om : Dat.okn m e) (hn : n ≤ 64) (hm : m ≤ 64) (h : Q (.bl (!decide (d = e))) H) : rNeU K (.ref a) (.ref b) H Q :=
  show rNeD K (.ref a) (.ref b) H Q from ⟨_, _, ha, hb, Dat.shaped on hn, Dat.shaped om hm, by rw [Dat.eqv_dec]; exact h⟩
theorem dec_iff {p q : Prop} [Decidable p] [Decidable q] (h : p ↔ q) : decide p = decide q := by
  by_cases z : p
  · rw [decide_eq_true z, decide_eq_true (h.mp z)]
  · rw [decide_eq_false z, decide_eq_false (fun y => z (h.mpr y))]
theorem eq_ll {a b : Addr} {ns ms : List Int} {Q : VK} (ha : SqL K H a (ns.map V.int)) (hb : SqL K H b (ms.map V.int)) (h : Q (.bl (decide (ns = ms))) H) : rEqU K (.ref a) (.ref b) H Q :=
  eq_dk (.ints ha) (.ints hb) Dat.okn_ints Dat.okn_ints (by decide) (by decide) (by rw [dec_iff Dat.ints_inj]; exact h)
theorem ne_ll {a b : Addr} {ns ms : List Int} {Q : VK} (ha : SqL K H a (ns.map V.int)) (hb : SqL K H b (ms.map V.int)) (h : Q (.bl (!decide (ns = ms))) H) : rNeU K (.ref a) (.ref b) H Q :=
  ne_dk (.ints ha) (.ints hb) Dat.okn_ints Dat.okn_ints (by decide) (by decide) (by rw [dec_iff Dat.ints_inj]; exact h)
theorem eq_tt {a b : Addr} {ns ms : List Int} {Q : VK} (ha : SqT K H a (ns.map V.int)) (hb : SqT K H b (ms.map V.int)) (h : Q (.bl (decide (ns = ms))) H) : rEqU K (.ref a) (.ref b) H Q :=
  eq_dk (.tints ha) (.tints hb) Dat.okn_tints Dat.okn_tints (by decide) (by decide) (by rw [dec_iff Dat.tints_inj]; exact h)
theorem ne_tt {a b : Addr} {ns ms : List Int} {Q : VK} (ha : SqT K H a (ns.map V.int)) (hb : SqT K H b (ms.map V.int)) (h : Q (.bl (!decide (ns = ms))) H) : rNeU K (.ref a) (.ref b) H Q :=
  ne_dk (.tints ha) (.tints hb) Dat.okn_tints Dat.okn_tints (by decide) (by decide) (by rw [dec_iff Dat.tints_inj]; exact h)
theorem eq_ln {a b : Addr} {ns : List Int} {Q : VK} (ha : SqL K H a (ns.map V.int)) (hb : SqL K H b []) (h : Q (.bl (decide (ns = []))) H) : rEqU K (.ref a) (.ref b) H Q := eq_ll (ms := []) ha hb h
theorem ne_ln {a b : Addr} {ns : List Int} {Q : VK} (ha : SqL K H a (ns.map V.int)) (hb : SqL K H b []) (h : Q (.bl (!decide (ns = []))) H) : rNeU K (.ref a) (.ref b) H Q := ne_ll (ms := []) ha hb h
end
end LF

/-! LF5: rules over K. -/
namespace LF
open PySem PySem.Spec PyProof.Rows L2
section
variable {X : Cx}
theorem ixl (K : PySem.W.Frag) (h : X.K = K := by rfl) : IxR X (rIxL K) := by subst h; exact ix_list
theorem ixt (K : PySem.W.Frag) (h : X.K = K := by rfl) : IxR X (rIxT K) := by subst h; exact ix_tup
theorem ixu (K : PySem.W.Frag) (h : X.K = K := by rfl) : IxR X (rIx K) := by subst h; exact ix_seq
theorem ueq (K : PySem.W.Frag) (hu : X.A.units + 64 < cLine) (h : X.K = K := by rfl) : OpR X (compareOp .Eq) (rEqU K) := by subst h; exact u_eq hu
theorem une (K : PySem.W.Frag) (hu : X.A.units + 64 < cLine) (h : X.K = K := by rfl) : OpR X (compareOp .NotEq) (rNeU K) := by subst h; exact u_ne hu
theorem uadd (K : PySem.W.Frag) (h : X.K = K := by rfl) : OpR X (binaryOp .Add) (rAddU K) := by subst h; exact u_add
theorem uin (K : PySem.W.Frag) (h : X.K = K := by rfl) : OpR X (compareOp .In) (rIn K false) := by subst h; exact op_in_seq
theorem unotin (K : PySem.W.Frag) (h : X.K = K := by rfl) : OpR X (compareOp .NotIn) (rIn K true) := by subst h; exact op_notIn_seq
theorem clen (K : PySem.W.Frag) (h : X.K = K := by rfl) : CallR X (.builtin "len") (fun xs H Q => ∃ x n, xs = [x] ∧ LenV K x H n ∧ Q (.int n) H) := by subst h; exact call_len
theorem cisi (K : PySem.W.Frag) (h : X.K = K := by rfl) : CallR X (.builtin "isinstance") (rIsi K) := by subst h; exact call_isi
theorem cisiT (K : PySem.W.Frag) (h : X.K = K := by rfl) : CallR X (.builtin "isinstance") (rIsiT K) := by subst h; exact call_isiT
theorem csum (K : PySem.W.Frag) (hc : X.calm = true) (h : X.K = K := by rfl) : CallR X (.builtin "sum") (rSum K) := by subst h; exact cr_sum hc
theorem call' (K : PySem.W.Frag) (hc : X.calm = true) (h : X.K = K := by rfl) : CallR X (.builtin "all") (rAll K) := by subst h; exact cr_all hc
theorem cmax (K : PySem.W.Frag) (hc : X.calm = true) (h : X.K = K := by rfl) : CallR X (.builtin "max") (rMax K) := by subst h; exact cr_max hc
theorem cmin (K : PySem.W.Frag) (hc : X.calm = true) (h : X.K = K := by rfl) : CallR X (.builtin "min") (rMin K) := by subst h; exact cr_min hc
theorem csorted (K : PySem.W.Frag) (h : X.K = K := by rfl) : CallR X (.builtin "sorted") (rSorted K) := by subst h; exact cr_sorted
theorem csortedS (K : PySem.W.Frag) (h : X.K = K := by rfl) : CallR X (.builtin "sorted") (rSortedS K) := by subst h; exact cr_sortedS
theorem clist (K : PySem.W.Frag) (h : X.K = K := by rfl) : CallR X (.type "list") (fun xs H Q => ∃ p ys, xs = [.ref p] ∧ (SqL K H p ys ∨ SqT K H p ys) ∧ ∀ l, H l = none → Q (.ref l) (upd H l (.lst ys))) := by subst h; exact call_list_of
theorem ctuple (K : PySem.W.Frag) (h : X.K = K := by rfl) : CallR X (.type "tuple") (fun xs H Q => ∃ p ys, xs = [.ref p] ∧ ((SqL K H p ys ∧ ∀ l, H l = none → Q (.ref l) (upd H l (.tup ys))) ∨ (SqT K H p ys ∧ Q (.ref p) H))) := by subst h; exact call_tuple_of
theorem sll (K : PySem.W.Frag) (h : X.K = K := by rfl) : SlR X (rSlL K) := by subst h; exact sl_list
theorem slt (K : PySem.W.Frag) (h : X.K = K := by rfl) : SlR X (rSlA K) := by subst h; exact sl_tupA
theorem mindex (K : PySem.W.Frag) (h : X.K = K := by rfl) : MtR X "list.index" (rIndex K) := by subst h; exact mt_index
theorem mcount (K : PySem.W.Frag) (h : X.K = K := by rfl) : MtR X "list.count" (rCntI K) := by subst h; exact mt_lcount
theorem pfld (K : PySem.W.Frag) {e : Expr} {ta : TE} {f : Str} {pos : Pos} (he : PE X e ta) (hb : attributeBase e f X.env (eval e X.env) = eval e X.env) (h : X.K = K := by rfl) : PE X (.Attribute e f pos) (tFld K ta f) := by subst h; exact pe_fld he hb
theorem pml (K : PySem.W.Frag) {e : Expr} {C m : Str} {sp : Sp} {dvs : List V} {W : WX} {ta : TE} {t : TA} (p : PE X e (tMl (He.ga X.K C) m sp dvs W ta t)) (h : X.K = K := by rfl) : PE X e (tMl (He.ga K C) m sp dvs W ta t) := by subst h; exact p
theorem pbm (K : PySem.W.Frag) {e : Expr} {T : String} {r : V → List V → Hp → VK → Prop} {to : TE} {t : TA} (p : PE X e (tBM X.K T r to t)) (h : X.K = K := by rfl) : PE X e (tBM K T r to t) := by subst h; exact p
theorem pbm0 (K : PySem.W.Frag) {e : Expr} {T : String} {r : V → List V → Hp → VK → Prop} {to : TE} (p : PE X e (tBM0 X.K T r to)) (h : X.K = K := by rfl) : PE X e (tBM0 K T r to) := by subst h; exact p
/-- two ways that meet -/
def tCut (t u : TS) : TS := fun D σ H => ∃ J : L2.St → Hp → Prop, t { D with nx := J } σ H ∧ ∀ σ' H', J σ' H' → u D σ' H'
theorem pss_cut {st : Stmt} {rest : List Stmt} {t u : TS} (h1 : PS X st t) (h2 : PSs X rest u) : PSs X (st :: rest) (tCut t u) := by
  refine ⟨fun pins s σ H D I h => ?_⟩
  obtain ⟨J, h, hJ⟩ := h
  refine wpAny_execs_cons (thn (h1.run pins s σ H { D with nx := J } I h) fun f s1 q => ?_)
  cases f with
  | next =>
    obtain ⟨σ', H', I', q⟩ := q
    exact h2.run pins s1 σ' H' D I' (hJ _ _ q)
  | ret v => exact q
  | brk => exact q
  | cont => exact q
end
theorem cut {t u : TS} {D : Ends} {σ : L2.St} {H : Hp} (J : L2.St → Hp → Prop) (h1 : t { D with nx := J } σ H) (h2 : ∀ σ' H', J σ' H' → u D σ' H') : tCut t u D σ H := ⟨J, h1, h2⟩
/-- a fact that the steps do not look into -/
inductive Hold (p : Prop) : Prop where
  | mk (h : p)
  | no (h : False)
theorem Hold.out {p : Prop} (h : Hold p) : p := by
  cases h with
  | mk h => exact h
  | no h => exact h.elim
/-- an instance that was made -/
theorem mk_of {H H' : Hp} {C x dx : Addr} (hx : H x = none) (hdx : H dx = none) (e : upd (upd H dx (.own x)) x (.ins C dx []) = H') : New H x ∧ H' x = some (.ins C dx []) ∧ Md [] H H' := by
  subst e
  refine ⟨⟨hx⟩, upd_same, ⟨fun b o _ h => ?_, fun b h => upd_up (upd_up h)⟩⟩
  rw [upd_ne (ne_of_none h hx), upd_ne (ne_of_none h hdx)]
  exact h
/-! ### lists of lists of numbers, held -/
inductive Kept (H : Hp) (M : List Addr) : List Addr → List (List Int) → Prop where
  | nil : Kept H M [] []
  | cons {h : Addr} {hs : List Addr} {d : List Int} {ds : List (List Int)} (a : H h = some (.lst (d.map V.int))) (n : h ∉ M) (t : Kept H M hs ds) : Kept H M (h :: hs) (d :: ds)
section
variable {K : PySem.W.Frag} {H H' : Hp} {M L : List Addr} {hs cs : List Addr} {ds es : List (List Int)}
theorem Kept.md (k : Kept H M hs ds) (m : Md L H H') (s : ∀ x ∈ L, x ∈ M ∨ New H x) : Kept H' M hs ds := by
  induction k with
  | nil => exact .nil
  | cons a n t ih =>
    refine .cons (m.kp _ _ (fun z => ?_) a) n ih
    rcases s _ z with q | q
    · exact n q
    · rw [q.eq] at a; cases a
theorem Kept.st (m : Md L H H') (s : ∀ x ∈ L, x ∈ M ∨ New H x) (k : Kept H M hs ds) : Kept H' M hs ds := k.md m s
theorem Kept.push (k : Kept H M hs ds) {h : Addr} {d : List Int} (a : H h = some (.lst (d.map V.int))) (n : h ∉ M) : Kept H M (hs ++ [h]) (ds ++ [d]) := by
  induction k with
  | nil => exact .cons a n .nil
  | cons a' n' t ih => exact .cons a' n' ih
theorem Kept.dks (k : Kept H M hs ds) : Dks K H (hs.map V.ref) (ds.map Dat.ints) := by
  induction k with
  | nil => exact .nil
  | cons a n t ih => exact .cons (.ints (.of a)) ih
theorem Kept.len (k : Kept H M hs ds) : hs.length = ds.length := by
  induction k with
  | nil => rfl
  | cons a n t ih => simp [ih]
theorem Kept.get (k : Kept H M hs ds) {i : Nat} (h : i < hs.length) : ∃ d, ds[i]? = some d ∧ H hs[i] = some (.lst (d.map V.int)) := by
  induction k generalizing i with
  | nil => simp at h
  | cons a n t ih =>
    cases i with
    | zero => exact ⟨_, rfl, a⟩
    | succ i => exact ih (by simpa using h)
/-- lists, all outside of M -/
structure Lists (H : Hp) (M : List Addr) (hs : List Addr) : Prop where
  all : ∀ t ∈ hs, t ∉ M ∧ ∃ xs, H t = some (.lst xs)
theorem Kept.lists (k : Kept H M hs ds) : Lists H M hs := by
  induction k with
  | nil => exact ⟨fun _ h => by cases h⟩
  | cons a n t ih => exact ⟨fun x h => by
      rcases List.mem_cons.mp h with e | e
      · subst e; exact ⟨n, _, a⟩
      · exact ih.all x e⟩
theorem Lists.set (k : Lists H M hs) {t : Addr} {ys : List V} (m : Md [t] H H') (e : H' t = some (.lst ys)) : Lists H' M hs := ⟨fun x h => by
  obtain ⟨n, xs, q⟩ := k.all x h
  refine ⟨n, ?_⟩
  by_cases z : x = t
  · subst z; exact ⟨_, e⟩
  · exact ⟨_, m.at1 z q⟩⟩
theorem Lists.st (m : Md L H H') (s : ∀ x ∈ L, x ∈ M ∨ New H x) (k : Lists H M hs) : Lists H' M hs := ⟨fun x h => by
  obtain ⟨n, xs, q⟩ := k.all x h
  refine ⟨n, xs, m.kp _ _ (fun z => ?_) q⟩
  rcases s _ z with w | w
  · exact n w
  · rw [w.eq] at q; cases q⟩
theorem okn_kept {ds : List (List Int)} : Dat.okn 2 (.lst (ds.map Dat.ints)) := by
  rw [Dat.okn]
  refine Dat.okns_all fun d h => ?_
  obtain ⟨x, _, rfl⟩ := List.mem_map.mp h
  exact Dat.okn_ints
theorem kept_inj : Dat.lst (ds.map Dat.ints) = Dat.lst (es.map Dat.ints) ↔ ds = es := by
  constructor
  · intro h
    exact (List.map_inj_right (fun a b e => Dat.ints_inj.mp e)).mp (by injection h)
  · intro h; rw [h]
theorem ne_kept {a b : Addr} {Q : VK} {M' : List Addr} (ha : SqL K H a (hs.map V.ref)) (hb : SqL K H b (cs.map V.ref)) (k : Kept H M hs ds) (k' : Kept H M' cs es) (h : Q (.bl (!decide (ds = es))) H) : rNeU K (.ref a) (.ref b) H Q :=
  ne_dk (.lst ha k.dks) (.lst hb k'.dks) okn_kept okn_kept (by decide) (by decide) (by rw [dec_iff kept_inj]; exact h)
theorem eq_kept {a b : Addr} {Q : VK} {M' : List Addr} (ha : SqL K H a (hs.map V.ref)) (hb : SqL K H b (cs.map V.ref)) (k : Kept H M hs ds) (k' : Kept H M' cs es) (h : Q (.bl (decide (ds = es))) H) : rEqU K (.ref a) (.ref b) H Q :=
  eq_dk (.lst ha k.dks) (.lst hb k'.dks) okn_kept okn_kept (by decide) (by decide) (by rw [dec_iff kept_inj]; exact h)
end
/-! ### slices of numbers -/
def cutI (xs : List Int) (lo hi : Option Int) : List Int := (xs.drop (HT.sIx xs.length 0 lo)).take (HT.sIx xs.length xs.length hi - HT.sIx xs.length 0 lo)
theorem cutV_ints {ns : List Int} {lo hi : Option Int} : cutV (ns.map V.int) lo hi = (cutI ns lo hi).map V.int := by
  unfold cutV cutI
  rw [List.map_take, List.map_drop, List.length_map]
theorem map_push {α β : Type} {f : α → β} {xs : List α} {a : α} : xs.map f ++ [f a] = (xs ++ [a]).map f := by simp
theorem cutI_len {ns : List Int} {lo hi : Option Int} : (cutI ns lo hi).length ≤ ns.length := by
  unfold cutI
  rw [List.length_take, List.length_drop]
  omega
theorem ints_at {ns : List Int} {i : Nat} {v : V} (h : (ns.map V.int)[i]? = some v) : ∃ n, v = .int n ∧ ns[i]? = some n := by
  rw [List.getElem?_map] at h
  cases e : ns[i]? with
  | none => rw [e] at h; cases h
  | some n => rw [e] at h; cases h; exact ⟨n, rfl, rfl⟩
theorem refs_at {hs : List Addr} {i : Nat} {v : V} (h : (hs.map V.ref)[i]? = some v) : ∃ n, v = .ref n ∧ hs[i]? = some n := by
  rw [List.getElem?_map] at h
  cases e : hs[i]? with
  | none => rw [e] at h; cases h
  | some n => rw [e] at h; cases h; exact ⟨n, rfl, rfl⟩
theorem upd_old {H : Hp} {p a : Addr} {o x : HO} (n : H p = none) (h : H a = some o) : upd H p x a = some o := by
  rw [upd_ne (ne_of_none h n)]
  exact h
/-! ### comprehensions by index -/
/-- the list at D after i turns, each by f -/
structure PvV (H : Hp) (D : Addr) (f : Nat → Option V) (i : Nat) (H' : Hp) : Prop where
  at_ : H' D = some (.lst ((List.range i).filterMap f))
  md : Md [] H H'
theorem fm_succ {α : Type} {f : Nat → Option α} {i : Nat} : (List.range (i + 1)).filterMap f = (List.range i).filterMap f ++ (f i).toList := by
  rw [List.range_succ, List.filterMap_append]
  cases h : f i <;> simp [h]
theorem fm_len {α : Type} {f : Nat → Option α} {n : Nat} : ((List.range n).filterMap f).length ≤ n := by
  have := List.length_filterMap_le f (List.range n)
  simpa using this
theorem PvV.start {H : Hp} {D : Addr} {f : Nat → Option V} (n : H D = none) : PvV H D f 0 (upd H D (.lst [])) := ⟨upd_same, Md.upd_new n⟩
theorem PvV.next {H H' H4 : Hp} {D : Addr} {f : Nat → Option V} {i : Nat} {y : V} (n : H D = none) (pv : PvV H D f i H') (m : Md [] H' H4) (e : f i = some y) (hi : i < sizeLine) :
    ∃ acc, H4 D = some (.lst acc) ∧ acc.length < sizeLine ∧ PvV H D f (i + 1) (upd H4 D (.lst (acc ++ [y]))) := by
  refine ⟨_, m.at0 pv.at_, Nat.lt_of_le_of_lt fm_len hi, ?_, Md.fresh_ (pv.md.trans m) ⟨n⟩⟩
  rw [upd_same, fm_succ, e]
  rfl
theorem PvV.skip {H H' H4 : Hp} {D : Addr} {f : Nat → Option V} {i : Nat} (pv : PvV H D f i H') (m : Md [] H' H4) (e : f i = none) : PvV H D f (i + 1) H4 := by
  refine ⟨?_, pv.md.trans m⟩
  rw [m.at0 pv.at_, fm_succ, e]
  try simp
/-- the same of numbers -/
structure PvI (H : Hp) (D : Addr) (f : Nat → Option Int) (i : Nat) (H' : Hp) : Prop where
  at_ : H' D = some (.lst (((List.range i).filterMap f).map V.int))
  md : Md [] H H'
theorem PvI.start {H : Hp} {D : Addr} {f : Nat → Option Int} (n : New H D) : PvI H D f 0 (upd H D (.lst [])) := ⟨upd_same, Md.upd_new n.eq⟩
theorem PvI.next {H H' H4 : Hp} {D : Addr} {f : Nat → Option Int} {i : Nat} {y : Int} (n : New H D) (pv : PvI H D f i H') (m : Md [] H' H4) (e : f i = some y) (hi : i < 16777216) :
    ∃ acc, H4 D = some (.lst acc) ∧ acc.length < sizeLine ∧ PvI H D f (i + 1) (upd H4 D (.lst (acc ++ [.int y]))) := by
  refine ⟨_, m.at0 pv.at_, ?_, ?_, Md.fresh_ (pv.md.trans m) n⟩
  · rw [List.length_map, sizeLine_eq]
    exact Nat.lt_of_le_of_lt fm_len hi
  · rw [upd_same, fm_succ, e]
    simp
theorem PvI.skip {H H' H4 : Hp} {D : Addr} {f : Nat → Option Int} {i : Nat} (pv : PvI H D f i H') (m : Md [] H' H4) (e : f i = none) : PvI H D f (i + 1) H4 := by
  refine ⟨?_, pv.md.trans m⟩
  rw [m.at0 pv.at_, fm_succ, e]
  try simp
end LF

/-! LF6: a law's end. -/
namespace LF
open PySem PySem.Spec PyProof.Rows L2
/-- what a law is asked: at each script, True -/
def qLaw (K : PySem.W.Frag) (script : V) (H : Hp) (Q : VK) (_ : XK) : Prop := ∃ (a : Addr) (ns : List Int), script = .ref a ∧ SqL K H a (ns.map V.int) ∧ ns.length ≤ 63 ∧ (∀ k ∈ ns, Builtin.Int.intBits k ≤ 1048576) ∧ ∀ H', Q (.bl true) H'
section
variable {fa : List He.Fa} {fn : List He.DefD} {ex : PySem.W.Frag → Bool} {P : Program} {w : World} {K : PySem.W.Frag} {mg : Str → Option Value} {N : List Str} {k : Nat} {x : Str} {sp : Sp}
structure OkL (P : Program) (w : World) (K : PySem.W.Frag) (mg : Str → Option Value) (at_ : Str × Option Str) (x : Str) (k : Nat) (sp : Sp) : Prop where
  ex : ∃ fd : FuncData, (∀ (s : Shared) (u : Value), BindsTo s fd ⟨[u], []⟩ [(x, u)]) ∧ ∀ base : Heap, FnOk P w K mg base (L2.CX P w) k (He.fAd K at_) fd [x] sp
theorem okl_mk (T : Tx fa fn ex K mg) (i : Nat) {d : He.DefD} (hi : fn[i]? = some d) (S : FnScope N [x] d.scope) (h0 : d.dfl = []) (h1 : d.kwd = [])
    (hb : ∀ (kV doc pm : Value) (an : Option Addr) (cdv ct : Value) (us : List Value), us.length = [x].length → bindArgs (PySem.W.fnOf d.name d.qual d.params d.body d.scope .none kV doc pm an cdv ct) ⟨us, []⟩ = pure ([x].zip us))
    (len : ∀ vs H Q E, sp vs H Q E → vs.length = [x].length)
    (body : ∀ (base : Heap) (cdv : Value) (A : Around) (outer : List Env) (s : Shared) (H : Hp) (vs : List V) (Q : VK) (E : XK), Room k (A.deeper (envOfC d.qual d.scope s.heap.objs.size (He.fAd K d.at_) cdv)) → Takes (bodyX P w K mg base N d cdv A outer s H E) (fun cls dd _ H' => E cls dd H') → sp vs H Q E →
      ∃ t, PSs (bodyX P w K mg base N d cdv A outer s H E) d.body t ∧ t { nx := fun _ H' => Q .non H', rt := Q } (start N vs) H) : OkL P w K mg d.at_ x (k + 1) sp := by
  obtain ⟨fd, F⟩ := T.c.d.def_ i (d := d) hi
  have e1 : d.dvs K = [] := by unfold He.DefD.dvs; rw [h0]; rfl
  rw [e1] at F
  exact ⟨fd, fun s u => F.bindsA hb s [u] rfl, fun base => F.ok S len fun cdv A outer s H vs Q E hr h => body base cdv A outer s H vs Q E hr (takes_of rfl rfl rfl rfl) h⟩
end
theorem walk_end {l : PySem.W.OpenLaw} {k : Nat} {q : Program} {loose : List Str} {XP : (Str → Option Value) → Heap → Prop} {d : DefRec} {x : Str} {m : Nat} {fa : List He.Fa} {fn : List He.DefD} {ex : PySem.W.Frag → Bool}
    (hn : l.most = some 63) (hdf : d.params.defaults = []) (hr : Room k callerA) (i : Nat) (hi : fa[i]? = some (.glo d.name))
    (F : ∀ (w : World) (K : PySem.W.Frag) (mg : Str → Option Value), Tx fa fn ex K mg → OkL l.prog w K mg (d.name, none) x k (sp1 (qLaw K))) :
    PySem.W.WalkO q loose XP (hookB m fa fn ex).says l.row.toRowW d [] (fun f vs => PySem.call f vs) := by
  refine Att.attach_callB hn hdf fun w s₀ s₁ mg mb ad o pm cd doc a vs ns G Y ho hd hcd hmg hobj hints hlen hbits hg => ?_
  obtain ⟨K, KX, c⟩ := Y
  have T : Tx fa fn ex K mg := ⟨c, _, KX, G.T.g⟩
  obtain ⟨⟨fd, hb, hF⟩⟩ := F w K mg T
  have e := hmg.symm.trans (T.glo i hi)
  cases e
  exact law_call KX G.T.g G.T.b G.T.builtins G.T.nolimit hg hobj hints (Nat.le_trans hlen (by rw [sizeLine_eq]; decide)) hr (fun base _ _ => hF base) hb (fun H _ hS => ⟨_, rfl, a, ns, rfl, hS, hlen, hbits, fun _ => rfl⟩)
    fun H e s' h => by
      obtain ⟨_, _, _, _, _, _, _, _, _, _, _, _, z⟩ := h
      exact z.elim
end LF

/-! LF7: exceptions in a suite, while, lists of truths. -/
namespace LF
open PySem PySem.Spec PyProof.Rows L2
/-! ### what the classes of exceptions say -/
def exCB (K : PySem.W.Frag) (D : Addr) : Bool :=
  decide (PySem.W.findIn K (.ref D) "__getattribute__" = some (some (.builtin "BaseException.__getattribute__"))) && (decide (PySem.W.findIn K (.ref D) "__getattr__" = some none) && (decide (PySem.W.subIn K (.ref D) (.type "BaseException") = some true) &&
  (PySem.W.hasDictIn K D && (decide (PySem.W.findIn K (.ref D) "__class__" = some (some (.builtin "object.__class__"))) && (decide (PySem.W.specialIn K (.builtin "object.__class__") "__get__" = some (some (.builtin "getset_descriptor.__get__"))) &&
  (decide (PySem.W.takesIn K (.builtin "object.__class__") = some true) && decide (PySem.W.mroIn K D (.type "object") = some true)))))))
theorem exC_of {K : PySem.W.Frag} {D : Addr} (h : exCB K D = true) : ExcC K D := by
  unfold exCB at h
  simp only [Bool.and_eq_true, decide_eq_true_eq] at h
  obtain ⟨a, b, c, d, e, f, g, i⟩ := h
  exact ⟨a, b, c, d, e, f, g, i⟩
/-- es: classes whose instances are asked; ks, ts: what isinstance answers of own and of built-in classes -/
def exAll (es : List Str) (ks : List (Str × Str × Bool)) (ts : List (Str × String × Bool)) (K : PySem.W.Frag) : Bool :=
  es.all (fun x => exCB K (He.ga K x)) && (ks.all (fun p => decide (PySem.W.kitOne K (.ref (He.ga K p.1)) (.ref (He.ga K p.2.1)) = some p.2.2)) && ts.all (fun p => decide (PySem.W.kitOne K (.ref (He.ga K p.1)) (.type p.2.1) = some p.2.2)))
section
variable {fa : List He.Fa} {fn : List He.DefD} {es : List Str} {ks : List (Str × Str × Bool)} {ts : List (Str × String × Bool)} {K : PySem.W.Frag} {mg : Str → Option Value}
theorem Tx.xc (T : Tx fa fn (exAll es ks ts) K mg) (i : Nat) {x : Str} (h : es[i]? = some x := by rfl) : ExcC K (He.ga K x) := by
  have b := T.c.b
  unfold exAll at b
  simp only [Bool.and_eq_true] at b
  exact exC_of (List.all_eq_true.mp b.1 x (List.mem_of_getElem? h))
theorem Tx.ko (T : Tx fa fn (exAll es ks ts) K mg) (i : Nat) {x y : Str} {r : Bool} (h : ks[i]? = some (x, y, r) := by rfl) : PySem.W.kitOne K (.ref (He.ga K x)) (.ref (He.ga K y)) = some r := by
  have b := T.c.b
  unfold exAll at b
  simp only [Bool.and_eq_true] at b
  exact of_decide_eq_true (List.all_eq_true.mp b.2.1 (x, y, r) (List.mem_of_getElem? h))
theorem Tx.kt (T : Tx fa fn (exAll es ks ts) K mg) (i : Nat) {x : Str} {y : String} {r : Bool} (h : ts[i]? = some (x, y, r) := by rfl) : PySem.W.kitOne K (.ref (He.ga K x)) (.type y) = some r := by
  have b := T.c.b
  unfold exAll at b
  simp only [Bool.and_eq_true] at b
  exact of_decide_eq_true (List.all_eq_true.mp b.2.2 (x, y, r) (List.mem_of_getElem? h))
end
/-- isinstance of what a suite holds, by the class -/
def rIsEU (K : PySem.W.Frag) (cls : Value) (d : Option Addr) (a : Addr) : List V → Hp → VK → Prop := fun xs H Q => ∃ D, cls = .ref D ∧ d = none ∧ ExcC K D ∧ rIsE K D a xs H Q
theorem uc_isE {X : Cx} {a : Addr} {oe : Obj} {pn : List (Addr × Obj)} {cls : Value} {d : Option Addr} (K : PySem.W.Frag) (hz : Zc cls d oe) (hf : ∃ vs, oe.data = .fields vs) (h : X.K = K := by rfl) :
    CallR (X.suite a ((a, oe) :: pn)) (.builtin "isinstance") (rIsEU K cls d a) := by
  subst h
  intro pins s σ H xs us Q I r h
  obtain ⟨D, rfl, rfl, C, q⟩ := h
  exact call_isE C hz hf pins s σ H xs us Q I r q
/-- isinstance of what a suite holds, by a tuple of classes -/
def rIsET (K : PySem.W.Frag) (cls : Value) (d : Option Addr) (a : Addr) : List V → Hp → VK → Prop := fun xs H Q => ∃ D, cls = .ref D ∧ d = none ∧ ExcC K D ∧ ∃ (tp : Addr) (cs : List V) (us : List Value) (b : Bool), xs = [.ref a, .ref tp] ∧ H tp = some (.tup cs) ∧ Paired ClsV cs us ∧ PySem.W.kitAny K (.ref D) us = some b ∧ Q (.bl b) H
theorem uc_isET {X : Cx} {a : Addr} {oe : Obj} {pn : List (Addr × Obj)} {cls : Value} {d : Option Addr} (K : PySem.W.Frag) (hz : Zc cls d oe) (hf : ∃ vs, oe.data = .fields vs) (h : X.K = K := by rfl) :
    CallR (X.suite a ((a, oe) :: pn)) (.builtin "isinstance") (rIsET K cls d a) := by
  subst h
  intro pins s σ H xs us Q I r h
  obtain ⟨D, rfl, rfl, C, tp, cs, ws, b, rfl, hT, k, e, q⟩ := h
  obtain ⟨u1, u2, rfl, r1, r2⟩ := vals2 r
  cases (show u1 = Value.ref a from r1)
  cases (show u2 = Value.ref tp from r2)
  obtain ⟨_, its, rv, o, h1, h2, n, h3⟩ := (show ObjOk X.prog X.w H s.heap tp (.tup cs) from I.hok tp _ hT)
  have e3 := ClsV.all k rv
  subst e3
  obtain ⟨hget, _⟩ := I.pin (a, oe) (List.mem_append.mpr (.inl List.mem_cons_self))
  obtain ⟨vs, hv⟩ := hf
  have J : PySem.W.InstAt s.heap a oe D none := by
    obtain ⟨oc, od, oda, osl⟩ := oe
    obtain ⟨h1, h2⟩ := hz
    dsimp only at h1 h2 hv
    subst h1 h2 hv
    exact ⟨hget, rfl, rfl, trivial⟩
  obtain ⟨oc, od, dt, sl⟩ := o
  simp only at h2 h3
  subst h2 h3
  exact PySem.W.kia_tup (PySem.W.handS_kitx_exc C.hg C.hk C.hs C.hd C.ha C.hn C.ht C.hm) I.kIn J h1 e (fun z => nomatch z) fun tk => ⟨.bl b, H, I.kept (t' := tk) fun _ _ z => z, rfl, q⟩
theorem any_no {K : PySem.W.Frag} {t c : Value} {cs : List Value} {r : Bool} (h : PySem.W.kitOne K t c = some false) (hr : PySem.W.kitAny K t cs = some r) : PySem.W.kitAny K t (c :: cs) = some r := kitAny_cons h (fun _ => hr) (fun z => by cases z)
theorem any_yes {K : PySem.W.Frag} {t c : Value} {cs : List Value} (h : PySem.W.kitOne K t c = some true) (hr : ∃ r, PySem.W.kitAny K t cs = some r) : PySem.W.kitAny K t (c :: cs) = some true := kitAny_cons h (fun z => by cases z) (fun _ => rfl)
theorem any_nil {K : PySem.W.Frag} {t : Value} : PySem.W.kitAny K t [] = some false := rfl
/-- an instance's fields are changed: lists stay -/
theorem Md.seqI {K : PySem.W.Frag} {H H1 : Hp} {a p C dx : Addr} {fs : List (Str × V)} {xs : List V} (m : Md [p] H H1) (hp : H p = some (.ins C dx fs)) (h : SqL K H a xs) : SqL K H1 a xs := by
  rcases h with (h | ⟨o, h⟩) | h
  · exact .inl (.inl (m.at1 (ne_of h hp (by intro z; cases z)) h))
  · exact .inl (.inr ⟨o, m.at1 (ne_of h hp (by intro z; cases z)) h⟩)
  · exact .inr h
/-- while, by an invariant with its own measure -/
theorem whl {c : TT} {tb : TS} {D : Ends} {σ : L2.St} {H : Hp} (W : Nat → L2.St → Hp → Prop) (m0 : Nat) (h0 : W m0 σ H)
    (hs : ∀ m σ H, W m σ H → c σ H fun b H1 => if b = true then ∃ N : L2.St → Hp → Prop, (∀ σ' H', N σ' H' → ∃ m', m' < m ∧ W m' σ' H') ∧ tb { D with nx := N, ct := N, bk := D.nx } σ H1 else D.nx σ H1) : tWhile c tb D σ H := ⟨W, ⟨m0, h0⟩, hs⟩
/-! ### lists of truths -/
theorem Dps.bls {K : PySem.W.Frag} {H : Hp} {bs : List Bool} : DpAll K H (bs.map V.bl) (bs.map PyData.bool) := by
  induction bs with
  | nil => exact .nil
  | cons a l ih => exact .cons (.bl a) ih
theorem eqv_bls {bs cs : List Bool} : PyData.eqvAll (bs.map .bool) (cs.map .bool) = decide (bs = cs) := by
  induction bs generalizing cs with
  | nil => cases cs <;> simp [PyData.eqvAll]
  | cons a l ih =>
    cases cs with
    | nil => simp [PyData.eqvAll]
    | cons b m =>
      rw [List.map_cons, List.map_cons, PyData.eqvAll, ih]
      by_cases h : a = b
      · subst h; simp [PyData.eqv]
      · simp [PyData.eqv, h]
theorem sh_bls {bs : List Bool} : SeqAt.shaped (.list (bs.map .bool)) = true := by
  have q : PyData.canLayAll0 (bs.map .bool) = true ∧ PyData.depthAll (bs.map .bool) = 0 := by
    induction bs with
    | nil => exact ⟨by simp [PyData.canLayAll0], by simp [PyData.depthAll]⟩
    | cons a l ih => exact ⟨by rw [List.map_cons, PyData.canLayAll0, ih.1]; simp [PyData.canLay0], by rw [List.map_cons, PyData.depthAll, ih.2]; simp [PyData.depth]⟩
  unfold SeqAt.shaped
  rw [PyData.canLay0, q.1, PyData.depth, q.2]
  decide
section
variable {K : PySem.W.Frag} {H : Hp} {a b : Addr} {bs cs : List Bool} {Q : VK}
theorem eq_bb (ha : SqL K H a (bs.map V.bl)) (hb : SqL K H b (cs.map V.bl)) (h : Q (.bl (decide (bs = cs))) H) : rEqU K (.ref a) (.ref b) H Q :=
  show rEqD K (.ref a) (.ref b) H Q from ⟨_, _, .lst ha Dps.bls, .lst hb Dps.bls, sh_bls, sh_bls, by rw [PyData.eqv, eqv_bls]; exact h⟩
theorem ne_bb (ha : SqL K H a (bs.map V.bl)) (hb : SqL K H b (cs.map V.bl)) (h : Q (.bl (!decide (bs = cs))) H) : rNeU K (.ref a) (.ref b) H Q :=
  show rNeD K (.ref a) (.ref b) H Q from ⟨_, _, .lst ha Dps.bls, .lst hb Dps.bls, sh_bls, sh_bls, by rw [PyData.eqv, eqv_bls]; exact h⟩
end
theorem rep_bls {n : Nat} {z : Bool} : (List.replicate n [V.bl z]).flatten = (List.replicate n z).map V.bl := by
  induction n with
  | zero => rfl
  | succ n ih => rw [List.replicate_succ, List.flatten_cons, ih]; rfl
theorem fm_const {α β : Type} {n : Nat} {y : β} {f : α → β} {x : α} (e : f x = y) : (List.range n).filterMap (fun _ => some y) = (List.replicate n x).map f := by
  subst e
  induction n with
  | zero => rfl
  | succ n ih => rw [fm_succ, ih]; simp [List.replicate_succ']
theorem fm_map {α β : Type} {n : Nat} {f : α → β} {g : Nat → α} : (List.range n).filterMap (fun i => some (f (g i))) = ((List.range n).map g).map f := by
  induction n with
  | zero => rfl
  | succ n ih => rw [fm_succ, ih, List.range_succ]; simp
theorem all_rep {n : Nat} : (List.replicate n true).all id = true := by
  induction n with
  | zero => rfl
  | succ n ih => rw [List.replicate_succ, List.all_cons, ih]; rfl
theorem bls_at {bs : List Bool} {i : Nat} {v : V} (h : (bs.map V.bl)[i]? = some v) : ∃ n, v = .bl n ∧ bs[i]? = some n := by
  rw [List.getElem?_map] at h
  cases e : bs[i]? with
  | none => rw [e] at h; cases h
  | some n => rw [e] at h; cases h; exact ⟨n, rfl, rfl⟩
theorem atI_bls {ns : List Bool} {i : Int} {n : Bool} (h0 : 0 ≤ i) (h : ns[i.toNat]? = some n) : atI (ns.map V.bl) i = some (.bl n) := atI_of h0 (by rw [List.getElem?_map, h]; rfl)
theorem pdnewK {X : Cx} {pos : Pos} : PE X (.Dict [] [] pos) (fun σ H Q => (0 : Nat) ≤ sizeLine ∧ tDNewK σ H Q) := ⟨fun pins s σ H Q I h => pe_dnewK.run pins s σ H Q I h.2⟩
theorem pdnewT {X : Cx} {pos : Pos} : PE X (.Dict [] [] pos) (fun σ H Q => (0 : Nat) ≤ sizeLine ∧ tDNewT σ H Q) := ⟨fun pins s σ H Q I h => pe_dnewT.run pins s σ H Q I h.2⟩
theorem pmk (K : PySem.W.Frag) {X : Cx} {e : Expr} {C : Str} {sp : Sp} {dvs : List V} {W : WX} {t : TA} (p : PE X e (tMk (He.ga X.K C) sp dvs W t)) (h : X.K = K := by rfl) : PE X e (tMk (He.ga K C) sp dvs W t) := by subst h; exact p
theorem eqn {X : Cx} {b : List Stmt} {t u : TS} (h : PSs X b t) (e : t = u) : PSs X b u := e ▸ h
theorem putF_le {f : Str} {v : V} : ∀ fs : List (Str × V), (putF f v fs).length ≤ fs.length + 1
  | [] => Nat.le_refl _
  | (g, x) :: r => by
    rw [putF]
    by_cases h : g = f
    · rw [if_pos h]; simp
    · rw [if_neg h]
      have := putF_le (f := f) (v := v) r
      simp only [List.length_cons]
      omega
theorem putF_lt {f : Str} {v : V} {fs : List (Str × V)} {n : Nat} (h : fs.length < n) : (putF f v fs).length < n + 1 := Nat.lt_of_le_of_lt (putF_le fs) (by omega)
end LF

namespace LW
open PySem PySem.Spec PyProof.Rows L2 LF
/-! ### the text of the row -/
def topS (i : Nat) : Stmt := PySem.Challenge.pw_leafframe_k05_shapes.main.body.getD i (.Pass ⟨0, 0, 0, 0⟩)
abbrev s_Shape___init__ : Stmt := inClass (topS 10) 0
abbrev s_Shape_pages : Stmt := inClass (topS 10) 1
abbrev s_Shape_size : Stmt := inClass (topS 10) 2
abbrev s__law_cell_at : Stmt := topS 12
abbrev s__law_whole : Stmt := topS 13
abbrev s__law_doubled : Stmt := topS 14
abbrev s__law_widths : Stmt := topS 15
abbrev s__law_low : Stmt := topS 16
abbrev s__law_outside : Stmt := topS 17
abbrev s__law_good : Stmt := topS 18
abbrev s__law_refused : Stmt := topS 19
abbrev s__law_right : Stmt := topS 20
abbrev s_law : Stmt := topS 21
def d_Shape___init__ : He.DefD := ⟨("Shape", some "__init__"), "__init__", "Shape.__init__", defArgs s_Shape___init__, defBody s_Shape___init__, defScope s_Shape___init__, [], []⟩
def d_Shape_pages : He.DefD := ⟨("Shape", some "pages"), "pages", "Shape.pages", defArgs s_Shape_pages, defBody s_Shape_pages, defScope s_Shape_pages, [], []⟩
def d_Shape_size : He.DefD := ⟨("Shape", some "size"), "size", "Shape.size", defArgs s_Shape_size, defBody s_Shape_size, defScope s_Shape_size, [], []⟩
def d__law_cell_at : He.DefD := ⟨("_law_cell_at", none), "_law_cell_at", "_law_cell_at", defArgs s__law_cell_at, defBody s__law_cell_at, defScope s__law_cell_at, [], []⟩
def d__law_whole : He.DefD := ⟨("_law_whole", none), "_law_whole", "_law_whole", defArgs s__law_whole, defBody s__law_whole, defScope s__law_whole, [], []⟩
def d__law_doubled : He.DefD := ⟨("_law_doubled", none), "_law_doubled", "_law_doubled", defArgs s__law_doubled, defBody s__law_doubled, defScope s__law_doubled, [], []⟩
def d__law_widths : He.DefD := ⟨("_law_widths", none), "_law_widths", "_law_widths", defArgs s__law_widths, defBody s__law_widths, defScope s__law_widths, [], []⟩
def d__law_low : He.DefD := ⟨("_law_low", none), "_law_low", "_law_low", defArgs s__law_low, defBody s__law_low, defScope s__law_low, [], []⟩
def d__law_outside : He.DefD := ⟨("_law_outside", none), "_law_outside", "_law_outside", defArgs s__law_outside, defBody s__law_outside, defScope s__law_outside, [], []⟩
def d__law_good : He.DefD := ⟨("_law_good", none), "_law_good", "_law_good", defArgs s__law_good, defBody s__law_good, defScope s__law_good, [], []⟩
def d__law_refused : He.DefD := ⟨("_law_refused", none), "_law_refused", "_law_refused", defArgs s__law_refused, defBody s__law_refused, defScope s__law_refused, [], []⟩
def d__law_right : He.DefD := ⟨("_law_right", none), "_law_right", "_law_right", defArgs s__law_right, defBody s__law_right, defScope s__law_right, [], []⟩
def d_law : He.DefD := ⟨("law", none), "law", "law", defArgs s_law, defBody s_law, defScope s_law, [], []⟩
def fn : List He.DefD := [d_Shape___init__, d_Shape_pages, d_Shape_size, d__law_cell_at, d__law_whole, d__law_doubled, d__law_widths, d__law_low, d__law_outside, d__law_good, d__law_refused, d__law_right, d_law]
def fa : List He.Fa := [.cls "Shape", .exc "NoAddress", .exc "NoShape", .exc "NoStretch", .exm "NoAddress" "LeafError" true, .exm "NoShape" "LeafError" true, .exm "NoStretch" "LeafError" true, .free "ValueError", .free "all", .free "bool", .free "int", .free "isinstance", .free "len", .free "list", .free "range", .free "reversed", .free "sum", .free "tuple", .glo "LeafError", .glo "NoAddress", .glo "NoShape", .glo "NoStretch", .glo "Shape", .glo "_law_cell_at", .glo "_law_doubled", .glo "_law_good", .glo "_law_low", .glo "_law_outside", .glo "_law_refused", .glo "_law_right", .glo "_law_whole", .glo "_law_widths", .glo "law", .int "MOST_LOW" 6, .int "MOST_PAGES" 64, .int "MOST_WIDTH" 24, .meth "Shape" "need", .meth "Shape" "pages", .meth "Shape" "size", .mkr "Shape", .noat "Shape" "bits", .noat "Shape" "high", .noat "Shape" "low"]
def es : List Str := ["NoAddress", "NoShape", "NoStretch"]
def ks : List (Str × Str × Bool) := [("NoAddress", "NoAddress", true), ("NoAddress", "NoShape", false), ("NoAddress", "NoStretch", false), ("NoShape", "NoAddress", false), ("NoShape", "NoShape", true), ("NoShape", "NoStretch", false), ("NoStretch", "NoAddress", false), ("NoStretch", "NoShape", false), ("NoStretch", "NoStretch", true)]
def ts : List (Str × String × Bool) := [("NoAddress", "ValueError", true), ("NoShape", "ValueError", true), ("NoStretch", "ValueError", true)]
abbrev ex : PySem.W.Frag → Bool := LF.exAll es ks ts
abbrev R : PySem.W.OpenRow := PySem.W.OpenLaw.row PySem.Challenge.rw_leafframe_k05_shapes
abbrev hk : PySem.W.Hook := LF.hookB 4 fa fn ex
def ob (s : PySem.W.SharedT) : LF.AlB := LF.obsB 4 fa fn ex (HandSHeadRun.getT s)
theorem ob_eq (s : PySem.W.SharedT) : ob s = hk.obs s.abs := LF.obsB_eq (HandSHeadRun.getT_eq s)
def loose0 : List Str := ["LeafError", "NoShape", "NoAddress", "NoStretch", "Shape", "_wall", "_law_cell_at", "_law_whole", "_law_doubled", "_law_widths", "_law_low", "_law_outside", "_law_good", "_law_refused", "_law_right", "MOST_WIDTH", "MOST_LOW", "MOST_PAGES"]
def loose : List Str := loose0
abbrev TX (K : PySem.W.Frag) (mg : Str → Option Value) : Prop := LF.Tx fa fn ex K mg
section
variable {K : PySem.W.Frag} {mg : Str → Option Value} (T : TX K mg)
include T
theorem f_cls_Shape : Cls K (He.ga K "Shape") := T.cls 0
theorem f_exm_NoAddress_LeafError : PySem.W.exmOne K (.ref (He.ga K "NoAddress")) (.ref (He.ga K "LeafError")) = some true := T.exm 4
theorem f_exm_NoShape_LeafError : PySem.W.exmOne K (.ref (He.ga K "NoShape")) (.ref (He.ga K "LeafError")) = some true := T.exm 5
theorem f_exm_NoStretch_LeafError : PySem.W.exmOne K (.ref (He.ga K "NoStretch")) (.ref (He.ga K "LeafError")) = some true := T.exm 6
theorem f_free_ValueError : mg "ValueError" = none := T.free 7
theorem f_free_all : mg "all" = none := T.free 8
theorem f_free_bool : mg "bool" = none := T.free 9
theorem f_free_int : mg "int" = none := T.free 10
theorem f_free_isinstance : mg "isinstance" = none := T.free 11
theorem f_free_len : mg "len" = none := T.free 12
theorem f_free_list : mg "list" = none := T.free 13
theorem f_free_range : mg "range" = none := T.free 14
theorem f_free_reversed : mg "reversed" = none := T.free 15
theorem f_free_sum : mg "sum" = none := T.free 16
theorem f_free_tuple : mg "tuple" = none := T.free 17
theorem f_glo_LeafError : mg "LeafError" = some (.ref (He.ga K "LeafError")) := T.glo 18
theorem f_glo_NoAddress : mg "NoAddress" = some (.ref (He.ga K "NoAddress")) := T.glo 19
theorem f_glo_NoShape : mg "NoShape" = some (.ref (He.ga K "NoShape")) := T.glo 20
theorem f_glo_NoStretch : mg "NoStretch" = some (.ref (He.ga K "NoStretch")) := T.glo 21
theorem f_glo_Shape : mg "Shape" = some (.ref (He.ga K "Shape")) := T.glo 22
theorem f_glo__law_cell_at : mg "_law_cell_at" = some (.ref (He.ga K "_law_cell_at")) := T.glo 23
theorem f_glo__law_doubled : mg "_law_doubled" = some (.ref (He.ga K "_law_doubled")) := T.glo 24
theorem f_glo__law_good : mg "_law_good" = some (.ref (He.ga K "_law_good")) := T.glo 25
theorem f_glo__law_low : mg "_law_low" = some (.ref (He.ga K "_law_low")) := T.glo 26
theorem f_glo__law_outside : mg "_law_outside" = some (.ref (He.ga K "_law_outside")) := T.glo 27
theorem f_glo__law_refused : mg "_law_refused" = some (.ref (He.ga K "_law_refused")) := T.glo 28
theorem f_glo__law_right : mg "_law_right" = some (.ref (He.ga K "_law_right")) := T.glo 29
theorem f_glo__law_whole : mg "_law_whole" = some (.ref (He.ga K "_law_whole")) := T.glo 30
theorem f_glo__law_widths : mg "_law_widths" = some (.ref (He.ga K "_law_widths")) := T.glo 31
theorem f_glo_law : mg "law" = some (.ref (He.ga K "law")) := T.glo 32
theorem f_int_MOST_LOW : ∃ t, mg "MOST_LOW" = some (.int 6 t) := T.int 33
theorem f_int_MOST_PAGES : ∃ t, mg "MOST_PAGES" = some (.int 64 t) := T.int 34
theorem f_int_MOST_WIDTH : ∃ t, mg "MOST_WIDTH" = some (.int 24 t) := T.int 35
theorem f_meth_Shape_need : Meth K (He.ga K "Shape") "need" (He.ma K (He.ga K "Shape") "need") := T.meth 36
theorem f_meth_Shape_pages : Meth K (He.ga K "Shape") "pages" (He.ma K (He.ga K "Shape") "pages") := T.meth 37
theorem f_meth_Shape_size : Meth K (He.ga K "Shape") "size" (He.ma K (He.ga K "Shape") "size") := T.meth 38
theorem f_mkr_Shape : Mk K (He.ga K "Shape") (He.ma K (He.ga K "Shape") "__init__") := T.mkr 39
theorem f_noat_Shape_bits : NoAttr K (He.ga K "Shape") "bits" := T.noat 40
theorem f_noat_Shape_high : NoAttr K (He.ga K "Shape") "high" := T.noat 41
theorem f_noat_Shape_low : NoAttr K (He.ga K "Shape") "low" := T.noat 42
theorem f_xc_NoAddress : ExcC K (He.ga K "NoAddress") := T.xc 0
theorem f_xc_NoShape : ExcC K (He.ga K "NoShape") := T.xc 1
theorem f_xc_NoStretch : ExcC K (He.ga K "NoStretch") := T.xc 2
theorem f_ki_NoAddress_NoAddress : PySem.W.kitOne K (.ref (He.ga K "NoAddress")) (.ref (He.ga K "NoAddress")) = some true := T.ko 0
theorem f_ki_NoAddress_NoShape : PySem.W.kitOne K (.ref (He.ga K "NoAddress")) (.ref (He.ga K "NoShape")) = some false := T.ko 1
theorem f_ki_NoAddress_NoStretch : PySem.W.kitOne K (.ref (He.ga K "NoAddress")) (.ref (He.ga K "NoStretch")) = some false := T.ko 2
theorem f_ki_NoShape_NoAddress : PySem.W.kitOne K (.ref (He.ga K "NoShape")) (.ref (He.ga K "NoAddress")) = some false := T.ko 3
theorem f_ki_NoShape_NoShape : PySem.W.kitOne K (.ref (He.ga K "NoShape")) (.ref (He.ga K "NoShape")) = some true := T.ko 4
theorem f_ki_NoShape_NoStretch : PySem.W.kitOne K (.ref (He.ga K "NoShape")) (.ref (He.ga K "NoStretch")) = some false := T.ko 5
theorem f_ki_NoStretch_NoAddress : PySem.W.kitOne K (.ref (He.ga K "NoStretch")) (.ref (He.ga K "NoAddress")) = some false := T.ko 6
theorem f_ki_NoStretch_NoShape : PySem.W.kitOne K (.ref (He.ga K "NoStretch")) (.ref (He.ga K "NoShape")) = some false := T.ko 7
theorem f_ki_NoStretch_NoStretch : PySem.W.kitOne K (.ref (He.ga K "NoStretch")) (.ref (He.ga K "NoStretch")) = some true := T.ko 8
theorem f_ki_NoAddress_ValueError : PySem.W.kitOne K (.ref (He.ga K "NoAddress")) (.type "ValueError") = some true := T.kt 0
theorem f_ki_NoShape_ValueError : PySem.W.kitOne K (.ref (He.ga K "NoShape")) (.type "ValueError") = some true := T.kt 1
theorem f_ki_NoStretch_ValueError : PySem.W.kitOne K (.ref (He.ga K "NoStretch")) (.type "ValueError") = some true := T.kt 2
end
abbrev n_exc_NoAddress : Nat := 1
abbrev n_exc_NoShape : Nat := 2
abbrev n_exc_NoStretch : Nat := 3
abbrev n_glo_LeafError : Nat := 18
abbrev n_glo_NoAddress : Nat := 19
abbrev n_glo_NoShape : Nat := 20
abbrev n_glo_NoStretch : Nat := 21
abbrev n_glo_Shape : Nat := 22
abbrev n_glo__law_cell_at : Nat := 23
abbrev n_glo__law_doubled : Nat := 24
abbrev n_glo__law_good : Nat := 25
abbrev n_glo__law_low : Nat := 26
abbrev n_glo__law_outside : Nat := 27
abbrev n_glo__law_refused : Nat := 28
abbrev n_glo__law_right : Nat := 29
abbrev n_glo__law_whole : Nat := 30
abbrev n_glo__law_widths : Nat := 31
abbrev n_glo_law : Nat := 32
theorem run (w : World) : HandSHeadRun.RunEq R (PySem.W.view R.prog [21]) hk ob 4000 loose w := by
  intro os
  kernel_rfl
local macro_rules | `(tactic| fail "raw") => `(tactic| first | assumption | fail "hpx")
local macro_rules | `(tactic| fail "gr") => `(tactic| first
  | exact Gr.refl
  | (refine Gr.stp (by assumption) ?_; fail "gr")
  | fail "none")
local macro_rules | `(tactic| fail "ne0") => `(tactic| first
  | assumption
  | exact Ne.symm (by assumption)
  | (refine ne_old (by fail "raw") (by assumption) ?_; fail "gr")
  | (refine Ne.symm (ne_old (by fail "raw") (by assumption) ?_); fail "gr")
  | exact ne_kind (by fail "raw") (by fail "raw") (by first | exact rfl | fail "none")
  | fail "none")
local macro_rules | `(tactic| fail "nin0") => `(tactic| first
  | exact nin0
  | assumption
  | (refine ninC ?_ ?_; fail "ne0"; fail "nin0")
  | fail "none")
local macro_rules | `(tactic| fail "hpw") => `(tactic| first
  | assumption
  | fail "hpx"
  | exact Md.at_ (by assumption) (by fail "nin0") (by fail "hpw")
  | fail "none")
local macro_rules | `(tactic| fail "ne1") => `(tactic| first
  | fail "ne0"
  | exact ne_new (by assumption) (by fail "hpw")
  | exact Ne.symm (ne_new (by assumption) (by fail "hpw"))
  | exact ne_kind (by fail "raw") (by fail "hpw") (by first | exact rfl | fail "none")
  | exact Ne.symm (ne_kind (by fail "raw") (by fail "hpw") (by first | exact rfl | fail "none"))
  | fail "none")
local macro_rules | `(tactic| fail "nin") => `(tactic| first
  | exact nin0
  | assumption
  | (refine ninC ?_ ?_; fail "ne1"; fail "nin")
  | fail "none")
local macro_rules | `(tactic| fail "mda") => `(tactic| first
  | exact Ma.refl
  | (refine Ma.stp (by assumption) ?_ ?_; fail "nin"; fail "mda")
  | fail "none")
local macro_rules | `(tactic| fail "hp") => `(tactic| first
  | assumption
  | fail "hpx"
  | exact ma_at (by assumption) (by fail "mda")
  | exact ma_at (by fail "hpx") (by fail "mda")
  | fail "hpw"
  | fail "none")
local macro_rules | `(tactic| fail "nw") => `(tactic| first
  | assumption
  | (refine New.gr (by assumption) ?_; fail "gr")
  | fail "none")
local macro_rules | `(tactic| fail "mem") => `(tactic| first
  | exact List.mem_cons_self ..
  | (refine List.mem_cons_of_mem _ ?_; fail "mem")
  | fail "none")
local macro_rules | `(tactic| fail "subi") => `(tactic| first
  | (refine Or.inl ?_; fail "mem")
  | (refine Or.inr ?_; fail "nw")
  | fail "none")
local macro_rules | `(tactic| fail "sub") => `(tactic| first
  | exact sub0
  | (refine subC ?_ ?_; fail "subi"; fail "sub")
  | exact fun x h => Or.inl h
  | fail "none")
local macro_rules | `(tactic| fail "md") => `(tactic| first
  | assumption
  | exact Md.refl
  | (refine Md.stp (by assumption) ?_ ?_; fail "sub"; fail "md")
  | fail "none")
local macro_rules | `(tactic| fail "sql") => `(tactic| first
  | assumption
  | exact Md.seqLm (by assumption) (by fail "md")
  | exact SqL.of (by fail "hp")
  | exact Md.seqLn (by assumption) (by fail "nin") (by fail "sql")
  | exact Md.seqI (by assumption) (by fail "hp") (by fail "sql")
  | fail "none")
local macro_rules | `(tactic| fail "sqt") => `(tactic| first
  | assumption
  | exact Md.seqTm (by assumption) (by fail "md")
  | exact SqT.of (by fail "hp")
  | exact Md.seqTn (by assumption) (by fail "nin") (by fail "sqt")
  | fail "none")
local macro_rules | `(tactic| fail "gn") => `(tactic| first
  | (generalize hU : upd _ _ _ = HH; obtain ⟨h1, h2⟩ := al_of hU (by assumption); clear hU; (try simp only [rep_ints, rep_bls, cutV_ints, int_nat, map_push] at h1); have h3 := h2; clear h2)
  | skip
  | fail "none")
local macro_rules | `(tactic| fail "gm") => `(tactic| first
  | (generalize hU : upd _ _ _ = HH; obtain ⟨h1, h2⟩ := mu_of hU; clear hU; (try simp only [rep_ints, rep_bls, cutV_ints, int_nat, map_push, ← List.map_set] at h1); have h3 := h2; clear h2)
  | skip
  | fail "none")
local macro_rules | `(tactic| fail "nu") => `(tactic| (refine newI (fun p np => ?_); fail "gn"))
local macro_rules | `(tactic| fail "mk") => `(tactic| (refine mkI (fun x dx nx ndx nex => ?_); generalize hU : upd (upd _ _ _) _ _ = HH; obtain ⟨h1, h2, h3⟩ := mk_of nx ndx hU; clear hU nx ndx nex))
local macro_rules | `(tactic| fail "fsl") => `(tactic| first
  | decide
  | (refine putF_lt ?_; fail "fsl")
  | (simp only [List.length_cons, List.length_nil]; omega)
  | fail "none")
local macro_rules | `(tactic| fail "pcv") => `(tactic| first
  | exact Paired.nil
  | exact Paired.cons (by fail "clsv") (by fail "pcv")
  | fail "none")
local macro_rules | `(tactic| fail "kany") => `(tactic| first
  | exact any_nil
  | exact any_no (by first | fail "ki" | fail "kit") (by fail "kany")
  | exact any_yes (by first | fail "ki" | fail "kit") ⟨_, by fail "kany"⟩
  | fail "none")
local macro_rules | `(tactic| fail "lk") => `(tactic| first | rfl | (simp [List.lookup]; done))
local macro_rules | `(tactic| fail "sz") => `(tactic| first | exact Nat.zero_le _ | (rw [sizeLine_eq]; omega) | (rw [sizeLine_eq]; simp only [List.length_map, List.length_cons, List.length_nil, List.length_append, List.length_set, List.length_replicate]; omega) | (rw [sizeLine_eq]; decide) | fail "none")
local macro_rules | `(tactic| fail "at") => `(tactic| first
  | assumption
  | exact rfl
  | exact atI_ints (by omega) (by assumption)
  | exact atI_bls (by omega) (by assumption)
  | exact atI_of (by omega) (by assumption)
  | fail "none")
local macro_rules | `(tactic| fail "ixn") => `(tactic| exact ixN_of (by omega) (by simp only [List.length_map, List.length_set, List.length_append, List.length_cons, List.length_nil, List.length_replicate]; omega))
local macro_rules | `(tactic| fail "om") => `(tactic| first | omega | (simp only [List.length_map, List.length_set, List.length_append, List.length_cons, List.length_nil, List.length_replicate, List.length_take, List.length_drop]; omega))
local macro_rules | `(tactic| fail "szl") => `(tactic| first | assumption | (refine small1000 ?_; fail "om"))
local macro_rules | `(tactic| fail "clsv") => `(tactic| first | exact ClsV.ty _ | exact ClsV.own _)
local macro_rules | `(tactic| fail "tyx") => `(tactic| first
  | exact TyX.base (TyOf.int _) | exact TyX.base (TyOf.bl _) | exact TyX.base TyOf.non | exact TyX.base (TyOf.str _)
  | exact TyX.base (TyOf.lst (by fail "hp")) | exact TyX.base (TyOf.tup (by fail "hp")) | exact TyX.base (TyOf.dK (by fail "hp"))
  | fail "none")
local macro_rules | `(tactic| fail "kit") => `(tactic| first
  | exact kit_ty kb_int_int | exact kit_ty kb_int_bool | exact kit_ty kb_bool_int | exact kit_ty kb_bool_bool | exact kit_ty kb_none_int | exact kit_ty kb_none_bool | exact kit_ty kb_str_int | exact kit_ty kb_str_bool | exact kit_ty kb_str_str
  | exact kit_ty kb_list_list | exact kit_ty kb_tuple_tuple | exact kit_ty kb_dict_dict | exact kit_ty kb_list_int | exact kit_ty kb_list_bool | exact kit_ty kb_list_tuple | exact kit_ty kb_tuple_int | exact kit_ty kb_tuple_bool | exact kit_ty kb_tuple_list
  | exact kit_ty kb_dict_int | exact kit_ty kb_dict_bool | exact kit_ty kb_none_tuple | exact kit_ty kb_none_list | exact kit_ty kb_none_str | exact kit_ty kb_int_tuple | exact kit_ty kb_int_list | exact kit_ty kb_int_str
  | fail "none")
local macro_rules | `(tactic| fail "flat") => `(tactic| first | exact flat_ints _ | rfl)
local macro_rules | `(tactic| fail "bd") => `(tactic| first
  | exact Or.inl ⟨by decide, by decide⟩
  | exact Or.inr (Or.inr ⟨by decide, by decide⟩)
  | exact Or.inr (Or.inl ⟨by decide, by decide⟩)
  | exact Or.inr (Or.inr ⟨by omega, by omega⟩)
  | exact Or.inr (Or.inl ⟨by omega, by omega⟩)
  | exact Or.inl ⟨by omega, by omega⟩
  | exact ⟨by decide, by decide, by decide⟩
  | exact ⟨by omega, by omega, by omega⟩
  | fail "none")
local macro_rules | `(tactic| fail "st") => `(tactic| first
  | (refine ⟨_, rfl, ?_⟩)
  | (refine ⟨_, _, rfl, rfl, ?_⟩)
  | (refine iteT ?_)
  | (refine ⟨_, _, _, rfl, (by fail "hp"), (by fail "lk"), ?_⟩)
  | (refine iteF ?_)
  | (refine ⟨_, _, _, _, _, rfl, (by fail "hp"), (by fail "cls"), (by fail "noat"), (by fail "lk"), ?_⟩)
  | (refine ⟨_, _, rfl, Or.inl ⟨_, (by fail "sql"), rfl⟩, ?_⟩)
  | (refine ⟨_, _, rfl, Or.inr ⟨_, (by fail "sqt"), rfl⟩, ?_⟩)
  | (refine ⟨_, _, rfl, ⟨by fail "sz", rfl⟩, ?_⟩)
  | (refine ⟨_, _, _, _, rfl, rfl, (by fail "sql"), (by fail "at"), ?_⟩)
  | (refine ⟨_, _, _, _, rfl, rfl, (by fail "sqt"), (by fail "at"), ?_⟩)
  | (refine Or.inl ⟨_, _, _, _, rfl, rfl, (by fail "sql"), (by fail "at"), ?_⟩)
  | (refine Or.inr (Or.inl ⟨_, _, _, _, rfl, rfl, (by fail "sqt"), (by fail "at"), ?_⟩))
  | (refine ⟨_, _, rfl, rfl, (by first | decide | omega), ?_⟩)
  | (refine ⟨_, _, rfl, rfl, (by fail "bd"), ?_⟩)
  | (refine And.intro ?_ ?_; fail "bd")
  | (refine And.intro ?_ ?_; fail "sz"; fail "nu")
  | (refine ⟨_, _, _, _, rfl, (by fail "hp"), (by fail "cls"), (by fail "noat"), (by fail "fsl"), ?_⟩; fail "gm")
  | fail "call"
  | fail "stx"
  | (refine ⟨_, _, _, _, rfl, rfl, (by fail "hp"), (by fail "ixn"), ?_⟩; fail "gm")
  | (refine ⟨_, rfl, by fail "om", by fail "om", ?_⟩)
  | (refine ⟨_, _, rfl, ⟨by fail "om", by fail "om", by fail "om", by fail "om"⟩, ?_⟩)
  | (refine ⟨_, _, rfl, Or.inl (by fail "sql"), ?_⟩; fail "nu")
  | (refine ⟨_, _, rfl, Or.inr (by fail "sqt"), ?_⟩; fail "nu")
  | (refine ⟨Or.inl ⟨rfl, _, (by fail "sql")⟩, ?_⟩)
  | (refine ⟨_, _, _, rfl, rfl, (by fail "hp"), (by fail "szl"), ?_⟩; fail "gm")
  | (refine ⟨_, _, _, rfl, rfl, (by fail "sql"), ?_⟩)
  | (refine ⟨_, _, rfl, rfl, (by fail "hp"), ?_⟩; fail "gm")
  | (refine ⟨_, _, _, rfl, rfl, (by fail "hp"), by fail "om", by fail "om", (by fail "sz"), ?_⟩; fail "nu")
  | (refine ⟨_, _, _, _, _, rfl, (by fail "clsv"), (by fail "tyx"), (by fail "kit"), ?_⟩)
  | (refine ⟨_, _, rfl, Or.inl (by fail "sql"), rfl, (by fail "flat"), ?_⟩)
  | (refine ⟨_, _, rfl, Or.inr (by fail "sqt"), rfl, (by fail "flat"), ?_⟩)
  | ((with_reducible show rEqU _ (V.ref _) (V.ref _) _ _); refine eq_ll (by fail "sql") (by fail "sql") ?_)
  | ((with_reducible show rNeU _ (V.ref _) (V.ref _) _ _); refine ne_ll (by fail "sql") (by fail "sql") ?_)
  | ((with_reducible show rEqU _ (V.ref _) (V.ref _) _ _); refine eq_ln (by fail "sql") (by fail "sql") ?_)
  | ((with_reducible show rNeU _ (V.ref _) (V.ref _) _ _); refine ne_ln (by fail "sql") (by fail "sql") ?_)
  | (refine ⟨_, _, rfl, (by fail "sqt"), rfl, ?_⟩)
  | (refine ⟨_, _, rfl, ?_⟩)
  | (refine And.intro rfl ?_)
  | (refine ⟨true, (by fail "exm"), fun _ a na => ?_, fun z => by cases z⟩)
  | (refine ⟨false, (by fail "exm"), fun z => by cases z, fun _ => ?_⟩)
  | (refine And.intro ?_ ?_; fail "xc")
  | (refine ⟨_, _, _, _, rfl, (by fail "hp"), (by fail "pcv"), (by fail "kany"), ?_⟩)
  | (refine ⟨_, _, _, _, _, _, rfl, (by fail "hp"), (by fail "pcv"), (by fail "tyx"), (by fail "kany"), ?_⟩)
  | (refine ⟨_, _, _, rfl, (fun _ r => r), (by fail "ki"), ?_⟩)
  | (refine ⟨_, _, rfl, (by fail "sql"), ?_⟩; fail "nu")
  | (refine Or.inl ⟨_, _, _, _, rfl, rfl, (by fail "hp"), (by fail "hp"), (by fail "sz"), ?_⟩; fail "nu")
  | (refine ⟨_, _, rfl, (by fail "sql"), ?_⟩)
  | (refine And.intro ?_ ?_; exact ⟨_, by fail "sql"⟩)
  | fail "mk"
  | (refine And.intro ?_ ?_; fail "om")
  | (refine And.intro ?_ ?_; (dsimp only; decide))
  | ((with_reducible show ite _ _ _); refine ifdT ?_ ?_; first | exact rfl | omega)
  | ((with_reducible show ite _ _ _); refine ifdF ?_ ?_; omega)
  | ((with_reducible show ite _ _ _); refine ifdnT ?_ ?_; omega)
  | ((with_reducible show ite _ _ _); refine ifdnF ?_ ?_; first | exact rfl | omega)
  | fail "none")
local macro_rules | `(tactic| fail "call") => `(tactic| first
  | (refine (show sp1 _ _ _ _ _ from ⟨_, rfl, ?_⟩))
  | (refine (show sp2 _ _ _ _ _ from ⟨_, _, rfl, ?_⟩))
  | (refine (show sp3 _ _ _ _ _ from ⟨_, _, _, rfl, ?_⟩))
  | (refine (show sp4 _ _ _ _ _ from ⟨_, _, _, _, rfl, ?_⟩))
  | (refine (show sp5 _ _ _ _ _ from ⟨_, _, _, _, _, rfl, ?_⟩))
  | (refine (show sp6 _ _ _ _ _ from ⟨_, _, _, _, _, _, rfl, ?_⟩))
  | fail "none")
local macro_rules | `(tactic| fail "go") => `(tactic| repeat fail "st")
local macro_rules | `(tactic| fail "sp") => `(tactic| first
  | ((with_reducible show ite _ _ _); refine ifd (fun c => ?_) (fun c => ?_))
  | ((with_reducible show ite _ _ _); refine ifdn (fun c => ?_) (fun c => ?_))
  | fail "none")
local macro_rules | `(tactic| fail "all") => `(tactic| repeat' (first | fail "st" | fail "sp"))
local macro_rules | `(tactic| fail "cls") => `(tactic| first | exact f_cls_Shape (by assumption))
local macro_rules | `(tactic| fail "noat") => `(tactic| first | exact f_noat_Shape_bits (by assumption) | exact f_noat_Shape_high (by assumption) | exact f_noat_Shape_low (by assumption))
local macro_rules | `(tactic| fail "exm") => `(tactic| first | exact f_exm_NoAddress_LeafError (by assumption) | exact f_exm_NoShape_LeafError (by assumption) | exact f_exm_NoStretch_LeafError (by assumption) | fail "none")
local macro_rules | `(tactic| fail "xc") => `(tactic| first | exact f_xc_NoAddress (by assumption) | exact f_xc_NoShape (by assumption) | exact f_xc_NoStretch (by assumption) | fail "none")
local macro_rules | `(tactic| fail "ki") => `(tactic| first | exact f_ki_NoAddress_NoAddress (by assumption) | exact f_ki_NoAddress_NoShape (by assumption) | exact f_ki_NoAddress_NoStretch (by assumption) | exact f_ki_NoShape_NoAddress (by assumption) | exact f_ki_NoShape_NoShape (by assumption) | exact f_ki_NoShape_NoStretch (by assumption) | exact f_ki_NoStretch_NoAddress (by assumption) | exact f_ki_NoStretch_NoShape (by assumption) | exact f_ki_NoStretch_NoStretch (by assumption) | exact f_ki_NoAddress_ValueError (by assumption) | exact f_ki_NoShape_ValueError (by assumption) | exact f_ki_NoStretch_ValueError (by assumption) | fail "none")

theorem sc_Shape___init__ : FnScope ["self", "widths", "low", "width"] ["self", "widths", "low"] (defScope s_Shape___init__) := ⟨rfl, rfl, rfl, by decide +kernel, rfl, by decide +kernel, by decide +kernel⟩
/-- widths and a low width that make a shape -/
structure GoodS (ws : List Int) (lo : Int) : Prop where
  n : ws.length = 2 ∨ ws.length = 3
  w : ∀ x ∈ ws, 1 ≤ x ∧ x ≤ 24
  l : 0 ≤ lo ∧ lo ≤ 6
structure ShapeAt (K : PySem.W.Frag) (H : Hp) (p dx b : Addr) (ws : List Int) (lo : Int) : Prop where
  ins : H p = some (.ins (He.ga K "Shape") dx [("bits", .ref b), ("high", .int ws.sum), ("low", .int lo)])
  lst : H b = some (.lst ((ws ++ [lo]).map V.int))
  good : GoodS ws lo
theorem GoodS.sum {ws : List Int} {lo : Int} (g : GoodS ws lo) : 0 ≤ ws.sum ∧ ws.sum ≤ 72 := by
  obtain ⟨n, w, _⟩ := g
  match ws, n with
  | [a, b], _ =>
    have h1 := w a (by simp)
    have h2 := w b (by simp)
    simp
    omega
  | [a, b, c], _ =>
    have h1 := w a (by simp)
    have h2 := w b (by simp)
    have h3 := w c (by simp)
    simp
    omega
theorem shl1 {j : Int} (h0 : 0 ≤ j) (h1 : j ≤ 1000) : CShl 1 j := ⟨h0, by
  have e : Builtin.Int.intBits 1 = 1 := by decide +kernel
  rw [e]
  omega⟩
theorem ShapeAt.st {K : PySem.W.Frag} {H H' : Hp} {p dx b : Addr} {ws : List Int} {lo : Int} {L : List Addr} (m : Md L H H') (C : ShapeAt K H p dx b ws lo) (hp : p ∉ L) (hl : b ∉ L) : ShapeAt K H' p dx b ws lo := ⟨m.at_ hp C.ins, m.at_ hl C.lst, C.good⟩
local macro_rules | `(tactic| fail "hpx") => `(tactic| (first | exact ShapeAt.ins (by assumption) | exact ShapeAt.lst (by assumption) | fail "none"))
local macro_rules | `(tactic| fail "shp") => `(tactic| (first | assumption | exact ShapeAt.st (by assumption) (by fail "shp") (by fail "nin") (by fail "nin") | fail "none"))
def q_Shape___init__ (K : PySem.W.Frag) (self widths low : V) (H : Hp) (Q : VK) (E : XK) : Prop := ∃ p dx a ws lo, self = .ref p ∧ widths = .ref a ∧ low = .int lo ∧ H p = some (.ins (He.ga K "Shape") dx []) ∧ SqL K H a (ws.map V.int) ∧ ws.length ≤ 1000 ∧
  (GoodS ws lo → ∀ H' b, Md [p] H H' → New H b → ShapeAt K H' p dx b ws lo → Q .non H') ∧ (¬ GoodS ws lo → E (.ref (He.ga K "NoShape")) none H)
local macro_rules | `(tactic| fail "stx") => `(tactic| ((with_reducible show q_Shape___init__ _ _ _ _ _ _ _); refine ⟨_, _, _, _, _, rfl, rfl, rfl, (by fail "hp"), (by fail "sql"), (by fail "om"), ?_⟩))
theorem ok_Shape___init__ {P : Program} {w : World} {K : PySem.W.Frag} {mg : Str → Option Value} {base : Heap} (T : TX K mg) : LF.Okf P w K mg base ("Shape", some "__init__") ["self", "widths", "low"] [] 1 (LF.sp3 (q_Shape___init__ K)) := by
  refine LF.okf_mk T 0 (d := d_Shape___init__) rfl sc_Shape___init__ rfl rfl (fun _ _ _ _ _ _ us hl => match us, hl with | [_, _, _], _ => rfl) (fun vs H Q E h => LF.sp3_len h) (fun cdv A outer s H vs Q E hr tk h => ?_)
  obtain ⟨self, widths, low, rfl, h⟩ := h
  have ND := (sc_Shape___init__).nd
  refine ⟨_, (pss_cons (ps_if (PW.pt (pw_or (pt_cmpR op_lt (pe_callB (clen K) rfl (f_free_len T) (by decide +kernel) (pa_cons (pv 1) pa_nil)) pe_int (nomark _)) (pw_or (pt_cmpR op_gt (pe_callB (clen K) rfl (f_free_len T) (by decide +kernel) (pa_cons (pv 1) pa_nil)) pe_int (nomark _)) (pw_or1 (pt_not (pt_chain op_le op_le pe_int (pv 2) (pe_glob (v := .int 6) rfl (f_int_MOST_LOW T).choose_spec ⟨_, rfl⟩))))))) (pss_one (ps_rs T n_exc_NoShape n_glo_NoShape rfl tk rfl rfl)) pss_nil)
 (pss_cons (ps_for (passes_of rfl) rfl (pi_list (pv 1)) (pg_name (i := 3) ND rfl (Or.inl rfl))
 (pss_one (ps_if (pt_not (pt_chain op_le op_le pe_int (pv 3) (pe_glob (v := .int 24) rfl (f_int_MOST_WIDTH T).choose_spec ⟨_, rfl⟩))) (pss_one (ps_rs T n_exc_NoShape n_glo_NoShape rfl tk rfl rfl)) pss_nil)))
 (pss_cons (ps_fld (pv 0) (pe_op (uadd K) (pe_callTy (clist K) rfl (f_free_list T) (by decide +kernel) (pa_cons (pv 1) pa_nil)) (pe_lst (pa_cons (pv 2) pa_nil))) rfl)
 (pss_cons (ps_fld (pv 0) (pe_callB (csum K rfl) rfl (f_free_sum T) (by decide +kernel) (pa_cons (pv 1) pa_nil)) rfl)
 (pss_one (ps_fld (pv 0) (pv 2) rfl)))))), ?_⟩
  rw [show start ["self", "widths", "low", "width"] [self, widths, low] = [some self, some widths, some low, none] from rfl]
  try dsimp only [LF.bodyX, L2.cxOf]
  clear ND hr tk
  obtain ⟨p, dx, a, ws, lo, rfl, rfl, rfl, h1, hS, hlen, hQ, hE⟩ := h
  fail "go"
  rw [List.length_map]
  refine ifd (fun c => ?_) (fun c => ?_)
  · fail "go"
    exact hE fun g => by have := g.n; omega
  fail "go"
  rw [List.length_map]
  refine ifd (fun c2 => ?_) (fun c2 => ?_)
  · fail "go"
    exact hE fun g => by have := g.n; omega
  fail "go"
  refine ifd (fun c3 => ?_) (fun c3 => ?_)
  · fail "go"
    refine ifdn (fun c4 => ?_) (fun c4 => ?_)
    · exact hE fun g => by have := g.l; omega
    · fail "go"
      refine for_list (xs := ws.map V.int) (fun i σ H' => Hold (∃ v, σ = [some (.ref p), some (.ref a), some (.int lo), v] ∧ H' = H ∧ ∀ (j : Nat) (x : Int), j < i → ws[j]? = some x → 1 ≤ x ∧ x ≤ 24)) ?_ ?_ ?_ ?_
      · exact .mk ⟨_, rfl, rfl, fun j x z => by omega⟩
      · intro i σ H' hi hh
        obtain ⟨v, rfl, rfl, hj⟩ := hh.out
        exact hS
      · intro i x σ H' hx hh
        obtain ⟨v, rfl, rfl, hj⟩ := hh.out
        obtain ⟨x, rfl, ex⟩ := ints_at hx
        clear hh hx
        have bad : ¬ (1 ≤ x ∧ x ≤ 24) → ¬ GoodS ws lo := fun n g => n (g.w x (List.mem_of_getElem? ex))
        fail "go"
        refine ifd (fun d => ?_) (fun d => ?_)
        · fail "go"
          refine ifdn (fun d2 => ?_) (fun d2 => ?_)
          · exact hE (bad (by omega))
          · refine .mk ⟨_, rfl, rfl, fun j y z e => ?_⟩
            rcases Nat.lt_or_eq_of_le (Nat.le_of_lt_succ z) with q | q
            · exact hj j y q e
            · rw [q, ex] at e
              cases e
              exact ⟨by omega, by omega⟩
        · fail "go"
          exact hE (bad (by omega))
      · intro σ H' hh
        obtain ⟨v, rfl, rfl, hj⟩ := hh.out
        clear hh
        have g : GoodS ws lo := ⟨by omega, fun x hx => by
          obtain ⟨j, jl, e⟩ := List.getElem_of_mem hx
          exact hj j x (by rw [List.length_map]; exact jl) (by rw [List.getElem?_eq_getElem jl, e]), by omega⟩
        fail "go"
        rename_i b nb H3 hb m3 H4 hp4 m4 H5 hp5 m5 H6 hp6 m6
        exact hQ g _ b (by fail "md") (by fail "nw") ⟨hp6, by fail "hp", g⟩
  · fail "go"
    exact hE fun g => by have := g.l; omega
theorem sc_Shape_pages : FnScope ["self"] ["self"] (defScope s_Shape_pages) := ⟨rfl, rfl, rfl, by decide +kernel, rfl, by decide +kernel, by decide +kernel⟩
def q_Shape_pages (K : PySem.W.Frag) (self : V) (H : Hp) (Q : VK) (E : XK) : Prop := ∃ p dx b ws lo, self = .ref p ∧ ShapeAt K H p dx b ws lo ∧ Q (.int (2 ^ ws.sum.toNat)) H
local macro_rules | `(tactic| fail "stx") => `(tactic| ((with_reducible show q_Shape_pages _ _ _ _ _); refine ⟨_, _, _, _, _, rfl, (by fail "shp"), ?_⟩))
theorem ok_Shape_pages {P : Program} {w : World} {K : PySem.W.Frag} {mg : Str → Option Value} {base : Heap} (T : TX K mg) : LF.Okf P w K mg base ("Shape", some "pages") ["self"] [] 1 (LF.sp1 (q_Shape_pages K)) := by
  refine LF.okf_mk T 1 (d := d_Shape_pages) rfl sc_Shape_pages rfl rfl (fun _ _ _ _ _ _ us hl => match us, hl with | [_], _ => rfl) (fun vs H Q E h => LF.sp1_len h) (fun cdv A outer s H vs Q E hr tk h => ?_)
  obtain ⟨self, rfl, h⟩ := h
  have ND := (sc_Shape_pages).nd
  refine ⟨_, (pss_one (ps_ret (pe_op op_shlW pe_int (pfld K (pv 0) rfl)))), ?_⟩
  rw [show start ["self"] [self] = [some self] from rfl]
  try dsimp only [LF.bodyX, L2.cxOf]
  clear ND hr tk
  obtain ⟨p, dx, b, ws, lo, rfl, C, h⟩ := h
  have sb := C.good.sum
  fail "go"
  refine ⟨shl1 sb.1 (by omega), ?_⟩
  simp only [Int.one_mul]
  exact h
theorem sc_Shape_size : FnScope ["self"] ["self"] (defScope s_Shape_size) := ⟨rfl, rfl, rfl, by decide +kernel, rfl, by decide +kernel, by decide +kernel⟩
def q_Shape_size (K : PySem.W.Frag) (self : V) (H : Hp) (Q : VK) (E : XK) : Prop := ∃ p dx b ws lo, self = .ref p ∧ ShapeAt K H p dx b ws lo ∧ Q (.int (2 ^ lo.toNat)) H
local macro_rules | `(tactic| fail "stx") => `(tactic| ((with_reducible show q_Shape_size _ _ _ _ _); refine ⟨_, _, _, _, _, rfl, (by fail "shp"), ?_⟩))
theorem ok_Shape_size {P : Program} {w : World} {K : PySem.W.Frag} {mg : Str → Option Value} {base : Heap} (T : TX K mg) : LF.Okf P w K mg base ("Shape", some "size") ["self"] [] 1 (LF.sp1 (q_Shape_size K)) := by
  refine LF.okf_mk T 2 (d := d_Shape_size) rfl sc_Shape_size rfl rfl (fun _ _ _ _ _ _ us hl => match us, hl with | [_], _ => rfl) (fun vs H Q E h => LF.sp1_len h) (fun cdv A outer s H vs Q E hr tk h => ?_)
  obtain ⟨self, rfl, h⟩ := h
  have ND := (sc_Shape_size).nd
  refine ⟨_, (pss_one (ps_ret (pe_op op_shlW pe_int (pfld K (pv 0) rfl)))), ?_⟩
  rw [show start ["self"] [self] = [some self] from rfl]
  try dsimp only [LF.bodyX, L2.cxOf]
  clear ND hr tk
  obtain ⟨p, dx, b, ws, lo, rfl, C, h⟩ := h
  have sb := C.good.l
  fail "go"
  refine ⟨shl1 sb.1 (by omega), ?_⟩
  simp only [Int.one_mul]
  exact h
theorem sc__law_cell_at : FnScope ["_law_script", "_law_k"] ["_law_script", "_law_k"] (defScope s__law_cell_at) := ⟨rfl, rfl, rfl, by decide +kernel, rfl, by decide +kernel, by decide +kernel⟩
def q__law_cell_at (K : PySem.W.Frag) (script k : V) (H : Hp) (Q : VK) (E : XK) : Prop := ∃ a ns i, script = .ref a ∧ k = .int i ∧ SqL K H a (ns.map V.int) ∧ 0 ≤ i ∧ Q (.int (cellAt ns i)) H
theorem ok__law_cell_at {P : Program} {w : World} {K : PySem.W.Frag} {mg : Str → Option Value} {base : Heap} (T : TX K mg) : LF.Okf P w K mg base ("_law_cell_at", none) ["_law_script", "_law_k"] [] 1 (LF.sp2 (q__law_cell_at K)) := by
  refine LF.okf_mk T 3 (d := d__law_cell_at) rfl sc__law_cell_at rfl rfl (fun _ _ _ _ _ _ us hl => match us, hl with | [_, _], _ => rfl) (fun vs H Q E h => LF.sp2_len h) (fun cdv A outer s H vs Q E hr tk h => ?_)
  obtain ⟨script, k, rfl, h⟩ := h
  have ND := (sc__law_cell_at).nd
  refine ⟨_, (pss_cons (ps_if (pt_cmpR op_lt (pv 1) (pe_callB (clen K) rfl (f_free_len T) (by decide +kernel) (pa_cons (pv 0) pa_nil)) (nomark _)) (pss_one (ps_ret (pe_ix (ixu K) (pv 0) (pv 1) (fun _ _ => rfl)))) pss_nil)
 (pss_one (ps_ret pe_int))), ?_⟩
  rw [show start ["_law_script", "_law_k"] [script, k] = [some script, some k] from rfl]
  try dsimp only [LF.bodyX, L2.cxOf]
  clear ND hr tk
  obtain ⟨a, ns, i, rfl, rfl, hS, h0, h⟩ := h
  fail "go"
  rw [List.length_map]
  unfold cellAt at h
  refine ifd (fun c => ?_) (fun c => ?_)
  · have e : ns[i.toNat]? = some (ns.getD i.toNat 0) := by
      have hh : i.toNat < ns.length := by omega
      rw [List.getElem?_eq_getElem hh, List.getD_eq_getElem?_getD, List.getElem?_eq_getElem hh]
      rfl
    fail "go"
    exact h
  · have e : ns.getD i.toNat 0 = 0 := by
      rw [List.getD_eq_getElem?_getD, List.getElem?_eq_none_iff.mpr (by omega)]
      rfl
    rw [e] at h
    fail "go"
    exact h
theorem sc__law_whole : FnScope ["_law_found"] ["_law_found"] (defScope s__law_whole) := ⟨rfl, rfl, rfl, by decide +kernel, rfl, by decide +kernel, by decide +kernel⟩
def q__law_whole (K : PySem.W.Frag) (found : V) (H : Hp) (Q : VK) (E : XK) : Prop := ∃ i, found = .int i ∧ Q (.bl true) H
theorem ok__law_whole {P : Program} {w : World} {K : PySem.W.Frag} {mg : Str → Option Value} {base : Heap} (T : TX K mg) : LF.Okf P w K mg base ("_law_whole", none) ["_law_found"] [] 1 (LF.sp1 (q__law_whole K)) := by
  refine LF.okf_mk T 4 (d := d__law_whole) rfl sc__law_whole rfl rfl (fun _ _ _ _ _ _ us hl => match us, hl with | [_], _ => rfl) (fun vs H Q E h => LF.sp1_len h) (fun cdv A outer s H vs Q E hr tk h => ?_)
  obtain ⟨found, rfl, h⟩ := h
  have ND := (sc__law_whole).nd
  refine ⟨_, (pss_one (ps_ret (pe_and (pe_callB (cisi K) rfl (f_free_isinstance T) (by decide +kernel) (pa_cons (pv 0) (pa_cons (pe_bltn (v := .ty "int") rfl (f_free_int T) (by decide +kernel) rfl) pa_nil))) (pe_one (pe_not (pe_callB (cisi K) rfl (f_free_isinstance T) (by decide +kernel) (pa_cons (pv 0) (pa_cons (pe_bltn (v := .ty "bool") rfl (f_free_bool T) (by decide +kernel) rfl) pa_nil)))))))), ?_⟩
  rw [show start ["_law_found"] [found] = [some found] from rfl]
  try dsimp only [LF.bodyX, L2.cxOf]
  clear ND hr tk
  obtain ⟨i, rfl, h⟩ := h
  fail "go"
  exact h
theorem sc__law_doubled : FnScope ["_law_many", "_law_total", "_law_k"] ["_law_many"] (defScope s__law_doubled) := ⟨rfl, rfl, rfl, by decide +kernel, rfl, by decide +kernel, by decide +kernel⟩
def q__law_doubled (K : PySem.W.Frag) (many : V) (H : Hp) (Q : VK) (E : XK) : Prop := ∃ n, many = .int n ∧ 0 ≤ n ∧ n ≤ 1000 ∧ Q (.int (2 ^ n.toNat)) H
local macro_rules | `(tactic| fail "stx") => `(tactic| ((with_reducible show q__law_doubled _ _ _ _ _); refine ⟨_, rfl, (by fail "om"), (by fail "om"), ?_⟩))
theorem ok__law_doubled {P : Program} {w : World} {K : PySem.W.Frag} {mg : Str → Option Value} {base : Heap} (T : TX K mg) : LF.Okf P w K mg base ("_law_doubled", none) ["_law_many"] [] 1 (LF.sp1 (q__law_doubled K)) := by
  refine LF.okf_mk T 5 (d := d__law_doubled) rfl sc__law_doubled rfl rfl (fun _ _ _ _ _ _ us hl => match us, hl with | [_], _ => rfl) (fun vs H Q E h => LF.sp1_len h) (fun cdv A outer s H vs Q E hr tk h => ?_)
  obtain ⟨many, rfl, h⟩ := h
  have ND := (sc__law_doubled).nd
  refine ⟨_, (pss_cons (ps_set (i := 1) ND rfl (Or.inl rfl) pe_int)
 (pss_cons (ps_for (passes_of rfl) rfl (pi_range1 rfl (f_free_range T) (pa_cons (pv 0) pa_nil)) (pg_name (i := 2) ND rfl (Or.inl rfl))
 (pss_one (ps_set (i := 1) ND rfl (Or.inl rfl) (pe_op (uadd K) (pv 1) (pv 1)))))
 (pss_one (ps_ret (pv 1))))), ?_⟩
  rw [show start ["_law_many", "_law_total", "_law_k"] [many] = [some many, none, none] from rfl]
  try dsimp only [LF.bodyX, L2.cxOf]
  clear ND hr tk
  obtain ⟨n, rfl, n0, n1, h⟩ := h
  fail "go"
  refine for_range (lo := 0) (n := n.toNat) (fun i σ H' => ∃ v, σ = [some (.int n), some (.int (2 ^ i)), v] ∧ H' = H) ⟨_, rfl, rfl⟩ ?_ ?_
  · rintro i σ H' hi ⟨v, rfl, rfl⟩
    fail "go"
    refine ⟨some (.int (0 + (i : Int))), ?_, rfl⟩
    rw [show (2 : Int) ^ i + 2 ^ i = 2 ^ (i + 1) by rw [Int.pow_succ]; omega]
    rfl
  · rintro σ H' ⟨v, rfl, rfl⟩
    fail "go"
    exact h
theorem sc__law_low : FnScope ["_law_cell"] ["_law_cell"] (defScope s__law_low) := ⟨rfl, rfl, rfl, by decide +kernel, rfl, by decide +kernel, by decide +kernel⟩
def q__law_low (K : PySem.W.Frag) (cell : V) (H : Hp) (Q : VK) (E : XK) : Prop := ∃ c, cell = .int c ∧ Q (.int (c / 30 % 7)) H
local macro_rules | `(tactic| fail "stx") => `(tactic| ((with_reducible show q__law_low _ _ _ _ _); refine ⟨_, rfl, ?_⟩))
theorem ok__law_low {P : Program} {w : World} {K : PySem.W.Frag} {mg : Str → Option Value} {base : Heap} (T : TX K mg) : LF.Okf P w K mg base ("_law_low", none) ["_law_cell"] [] 1 (LF.sp1 (q__law_low K)) := by
  refine LF.okf_mk T 7 (d := d__law_low) rfl sc__law_low rfl rfl (fun _ _ _ _ _ _ us hl => match us, hl with | [_], _ => rfl) (fun vs H Q E h => LF.sp1_len h) (fun cdv A outer s H vs Q E hr tk h => ?_)
  obtain ⟨cell, rfl, h⟩ := h
  have ND := (sc__law_low).nd
  refine ⟨_, (pss_one (ps_ret (pe_op op_mod (pe_op u_div (pv 0) pe_int) pe_int))), ?_⟩
  rw [show start ["_law_cell"] [cell] = [some cell] from rfl]
  try dsimp only [LF.bodyX, L2.cxOf]
  clear ND hr tk
  obtain ⟨c, rfl, h⟩ := h
  fail "go"
  exact h
theorem sc__law_widths : FnScope ["_law_cell", "_law_widths_here", "_law_k"] ["_law_cell"] (defScope s__law_widths) := ⟨rfl, rfl, rfl, by decide +kernel, rfl, by decide +kernel, by decide +kernel⟩
def q__law_widths (K : PySem.W.Frag) (cell : V) (H : Hp) (Q : VK) (E : XK) : Prop := ∃ c, cell = .int c ∧ ∀ (p : Addr) (H' : Hp) (ws : List Int), New H p → H' p = some (.lst (ws.map V.int)) → Md [] H H' → ws.length ≤ 5 → Q (.ref p) H'
local macro_rules | `(tactic| fail "stx") => `(tactic| ((with_reducible show q__law_widths _ _ _ _ _); refine ⟨_, rfl, ?_⟩))
theorem ok__law_widths {P : Program} {w : World} {K : PySem.W.Frag} {mg : Str → Option Value} {base : Heap} (T : TX K mg) : LF.Okf P w K mg base ("_law_widths", none) ["_law_cell"] [] 1 (LF.sp1 (q__law_widths K)) := by
  refine LF.okf_mk T 6 (d := d__law_widths) rfl sc__law_widths rfl rfl (fun _ _ _ _ _ _ us hl => match us, hl with | [_], _ => rfl) (fun vs H Q E h => LF.sp1_len h) (fun cdv A outer s H vs Q E hr tk h => ?_)
  obtain ⟨cell, rfl, h⟩ := h
  have ND := (sc__law_widths).nd
  refine ⟨_, (pss_cons (ps_set (i := 1) ND rfl (Or.inl rfl) (pe_lst pa_nil))
 (pss_cons (ps_for (passes_of rfl) rfl (pi_range1 rfl (f_free_range T) (pa_cons (pe_ix (ixl K) (pe_lst (pa_cons pe_int (pa_cons pe_int (pa_cons pe_int (pa_cons pe_int (pa_cons pe_int (pa_cons pe_int (pa_cons pe_int (pa_cons pe_int (pa_cons pe_int (pa_cons pe_int pa_nil))))))))))) (pe_op op_mod (pv 0) pe_int) (fun _ _ => rfl)) pa_nil)) (pg_name (i := 2) ND rfl (Or.inl rfl))
 (pss_one (ps_expr (pbm K (pe_bm PySem.F.plainAttrs_list PySem.F.slot_list_append PySem.F.type_list_append mt_append (pv 1) (pa_cons (pe_op (uadd K) pe_int (pe_op op_mod (pe_op u_mul (pe_op u_div (pv 0) pe_int) (pe_op (uadd K) (pe_op u_mul (pv 2) (pv 2)) pe_int)) pe_int)) pa_nil))))))
 (pss_one (ps_ret (pv 1))))), ?_⟩
  rw [show start ["_law_cell", "_law_widths_here", "_law_k"] [cell] = [some cell, none, none] from rfl]
  try dsimp only [LF.bodyX, L2.cxOf]
  clear ND hr tk
  obtain ⟨c, rfl, h⟩ := h
  fail "go"
  rename_i p np H1 hp1 m1 q nq H2 hq2 m2
  have ez : ∃ z : Int, atI [V.int 2, V.int 3, V.int 2, V.int 3, V.int 2, V.int 3, V.int 0, V.int 1, V.int 4, V.int 5] (c % 10) = some (.int z) ∧ 0 ≤ z ∧ z ≤ 5 := by
    rcases (by omega : c % 10 = 0 ∨ c % 10 = 1 ∨ c % 10 = 2 ∨ c % 10 = 3 ∨ c % 10 = 4 ∨ c % 10 = 5 ∨ c % 10 = 6 ∨ c % 10 = 7 ∨ c % 10 = 8 ∨ c % 10 = 9) with e | e | e | e | e | e | e | e | e | e
    all_goals
      rw [e]
      exact ⟨_, rfl, by decide, by decide⟩
  obtain ⟨z, ez, z0, z5⟩ := ez
  refine ⟨_, _, _, _, rfl, rfl, SqL.of (by fail "hp"), ez, ?_⟩
  fail "go"
  refine for_range (lo := 0) (n := z.toNat) (fun i σ H' => Hold (∃ v ws, σ = [some (.int c), some (.ref p), v] ∧ Md [] H H' ∧ H' p = some (.lst (ws.map V.int)) ∧ ws.length = i)) (.mk ⟨_, [], rfl, by fail "md", by fail "hp", rfl⟩) ?_ ?_
  · intro i σ H' hi hh
    obtain ⟨v, ws, rfl, m3, hp3, wl⟩ := hh.out
    clear hh
    have wl5 : ws.length ≤ 5 := by omega
    rcases (by omega : i = 0 ∨ i = 1 ∨ i = 2 ∨ i = 3 ∨ i = 4) with e | e | e | e | e
    all_goals
      subst e
      fail "go"
      rename_i H4 h4 m4
      exact .mk ⟨_, _, rfl, by fail "md", h4, by rw [List.length_append, wl]; rfl⟩
  · intro σ H' hh
    obtain ⟨v, ws, rfl, m3, hp3, wl⟩ := hh.out
    fail "go"
    exact h _ _ ws np hp3 m3 (by omega)
theorem sc__law_outside : FnScope ["_law_cell", "_law_most", "_law_far"] ["_law_cell", "_law_most"] (defScope s__law_outside) := ⟨rfl, rfl, rfl, by decide +kernel, rfl, by decide +kernel, by decide +kernel⟩
def q__law_outside (K : PySem.W.Frag) (cell most : V) (H : Hp) (Q : VK) (E : XK) : Prop := ∃ c m, cell = .int c ∧ most = .int m ∧ ∀ z H', Md [] H H' → Q (.int z) H'
local macro_rules | `(tactic| fail "stx") => `(tactic| ((with_reducible show q__law_outside _ _ _ _ _ _); refine ⟨_, _, rfl, rfl, ?_⟩))
theorem ok__law_outside {P : Program} {w : World} {K : PySem.W.Frag} {mg : Str → Option Value} {base : Heap} (T : TX K mg) : LF.Okf P w K mg base ("_law_outside", none) ["_law_cell", "_law_most"] [] 1 (LF.sp2 (q__law_outside K)) := by
  refine LF.okf_mk T 8 (d := d__law_outside) rfl sc__law_outside rfl rfl (fun _ _ _ _ _ _ us hl => match us, hl with | [_, _], _ => rfl) (fun vs H Q E h => LF.sp2_len h) (fun cdv A outer s H vs Q E hr tk h => ?_)
  obtain ⟨cell, most, rfl, h⟩ := h
  have ND := (sc__law_outside).nd
  refine ⟨_, (pss_cons (ps_set (i := 2) ND rfl (Or.inl rfl) (pe_op u_mul (pe_op op_mod (pe_op u_div (pv 0) pe_int) (pe_op op_pow pe_int pe_int)) (pe_op op_mod (pe_op u_div (pv 0) pe_int) pe_int)))
 (pss_one (ps_ret (pe_ix (ixl K) (pe_lst (pa_cons (pe_op op_sub pe_int (pv 2)) (pa_cons (pe_op (uadd K) (pe_op (uadd K) (pv 1) pe_int) (pv 2)) pa_nil))) (pe_op op_mod (pv 0) pe_int) (fun _ _ => rfl))))), ?_⟩
  rw [show start ["_law_cell", "_law_most", "_law_far"] [cell, most] = [some cell, some most, none] from rfl]
  try dsimp only [LF.bodyX, L2.cxOf]
  clear ND hr tk
  obtain ⟨c, m, rfl, rfl, h⟩ := h
  fail "go"
  rcases (by omega : c % 2 = 0 ∨ c % 2 = 1) with e | e
  all_goals
    simp only [e]
    refine ⟨_, _, _, _, rfl, rfl, SqL.of (by fail "hp"), rfl, ?_⟩
    exact h _ _ (by fail "md")
theorem sc__law_good : FnScope ["_law_widths_here", "_law_low_here", "_law_width"] ["_law_widths_here", "_law_low_here"] (defScope s__law_good) := ⟨rfl, rfl, rfl, by decide +kernel, rfl, by decide +kernel, by decide +kernel⟩
def q__law_good (K : PySem.W.Frag) (widths low : V) (H : Hp) (Q : VK) (E : XK) : Prop := ∃ a ws lo, widths = .ref a ∧ low = .int lo ∧ H a = some (.lst (ws.map V.int)) ∧ ws.length ≤ 1000 ∧ (GoodS ws lo → ∀ H', Md [] H H' → Q (.bl true) H') ∧ (¬ GoodS ws lo → ∀ H', Md [] H H' → Q (.bl false) H')
local macro_rules | `(tactic| fail "stx") => `(tactic| ((with_reducible show q__law_good _ _ _ _ _ _); refine ⟨_, _, _, rfl, rfl, (by fail "hp"), (by fail "om"), ?_⟩))
theorem ok__law_good {P : Program} {w : World} {K : PySem.W.Frag} {mg : Str → Option Value} {base : Heap} (T : TX K mg) : LF.Okf P w K mg base ("_law_good", none) ["_law_widths_here", "_law_low_here"] [] 1 (LF.sp2 (q__law_good K)) := by
  refine LF.okf_mk T 9 (d := d__law_good) rfl sc__law_good rfl rfl (fun _ _ _ _ _ _ us hl => match us, hl with | [_, _], _ => rfl) (fun vs H Q E h => LF.sp2_len h) (fun cdv A outer s H vs Q E hr tk h => ?_)
  obtain ⟨widths_here, low_here, rfl, h⟩ := h
  have ND := (sc__law_good).nd
  refine ⟨_, (pss_cons (ps_if (PW.pt (pw_or (pt_cmpR (unotin K) (pe_callB (clen K) rfl (f_free_len T) (by decide +kernel) (pa_cons (pv 0) pa_nil)) (pe_tup (pa_cons pe_int (pa_cons pe_int pa_nil))) rfl) (pw_or (pt_cmpR op_lt (pv 1) pe_int (nomark _)) (pw_or1 (pt_cmpR op_gt (pv 1) pe_int (nomark _)))))) (pss_one (ps_ret pe_bl)) pss_nil)
 (pss_one (ps_ret (pe_callB (call' K rfl) rfl (f_free_all T) (by decide +kernel) (pa_cons (pe_lc (own := [("_law_width", 2)]) (g := gName 2) (tt := tYes) rfl ND (pi_list (pv 0)) (blkOk_by (own := [("_law_width", 2)]) (N := ["_law_widths_here", "_law_low_here", "_law_width"]) (sc := (defScope s__law_good)) (by decide +kernel)) (fun _ _ _ _ _ => (pg_name (i := 2) ND rfl (Or.inl rfl))) (fun _ _ _ _ _ => pts_nil) (fun _ _ _ _ _ => (pe_chain op_lt op_lt pe_int (pv 2) pe_int))) pa_nil))))), ?_⟩
  rw [show start ["_law_widths_here", "_law_low_here", "_law_width"] [widths_here, low_here] = [some widths_here, some low_here, none] from rfl]
  try dsimp only [LF.bodyX, L2.cxOf]
  clear ND hr tk
  obtain ⟨a, ws, lo, rfl, rfl, ha, hlen, hT, hF⟩ := h
  fail "go"
  rw [List.length_map]
  rw [show inV (V.int (ws.length : Int)) [V.int 2, V.int 3] = decide ((ws.length : Int) ∈ ([2, 3] : List Int)) from inV_ints (ns := [2, 3])]
  refine ifdn (fun c => ?_) (fun c => ?_)
  · fail "go"
    exact hF (fun g => by have := g.n; simp at c; omega) _ (by fail "md")
  have c' : ws.length = 2 ∨ ws.length = 3 := by simp at c; omega
  fail "go"
  refine ifd (fun c2 => ?_) (fun c2 => ?_)
  · fail "go"
    exact hF (fun g => by have := g.l; omega) _ (by fail "md")
  fail "go"
  refine ifd (fun c3 => ?_) (fun c3 => ?_)
  · fail "go"
    exact hF (fun g => by have := g.l; omega) _ (by fail "md")
  fail "go"
  rename_i H1 _ _
  intro D hD
  have ha1 : H1 a = some (.lst (ws.map V.int)) := by fail "hp"
  let g : Nat → Bool := fun i => decide (0 < ws.getD i 0 ∧ ws.getD i 0 < 25)
  refine lc_list (xs := ws.map V.int) (PvV H1 D fun i => some (V.bl (g i))) (.start hD) (fun i H2 hi pv => .of (pv.md.at0 ha1)) ?_ ?_
  · intro i x H2 hx pv
    obtain ⟨x, rfl, ex⟩ := ints_at hx
    have hi : i < ws.length := (List.getElem?_eq_some_iff.mp ex).1
    have eg : g i = decide (0 < x ∧ x < 25) := by
      show decide (0 < ws.getD i 0 ∧ ws.getD i 0 < 25) = _
      rw [List.getD_eq_getElem?_getD, ex]
      rfl
    refine ⟨rfl, ?_⟩
    fail "go"
    refine ifd (fun d => ?_) (fun d => ?_)
    · fail "go"
      exact pv.next hD Md.refl (by rw [eg, dec_iff (q := x < 25) ⟨fun z => z.2, fun z => ⟨d, z⟩⟩]) (by rw [sizeLine_eq]; omega)
    · fail "go"
      exact pv.next hD Md.refl (by rw [eg, decide_eq_false (fun z => d z.1)]) (by rw [sizeLine_eq]; omega)
  intro H2 pv
  have hD2 := pv.at_
  have m2 := pv.md
  rw [fm_map (f := V.bl), List.length_map] at hD2
  fail "go"
  have good_iff : ((List.range ws.length).map g).all id = true ↔ GoodS ws lo := by
    constructor
    · intro z
      refine ⟨c', fun x hx => ?_, by omega⟩
      obtain ⟨j, jl, e⟩ := List.getElem_of_mem hx
      have q := List.all_eq_true.mp z (g j) (List.mem_map.mpr ⟨j, List.mem_range.mpr jl, rfl⟩)
      have q2 : 0 < ws.getD j 0 ∧ ws.getD j 0 < 25 := of_decide_eq_true q
      rw [List.getD_eq_getElem?_getD, List.getElem?_eq_getElem jl, e] at q2
      exact ⟨by have := q2.1; simp at this; omega, by have := q2.2; simp at this; omega⟩
    · intro gd
      refine List.all_eq_true.mpr fun b hb => ?_
      obtain ⟨j, jl, rfl⟩ := List.mem_map.mp hb
      have jl' := List.mem_range.mp jl
      have q := gd.w ws[j] (List.getElem_mem jl')
      refine decide_eq_true ?_
      rw [List.getD_eq_getElem?_getD, List.getElem?_eq_getElem jl']
      exact ⟨by simp; omega, by simp; omega⟩
  by_cases z : GoodS ws lo
  · rw [good_iff.mpr z]
    exact hT z _ (by fail "md")
  · rw [show ((List.range ws.length).map g).all id = false from Bool.eq_false_iff.mpr (fun y => z (good_iff.mp y))]
    exact hF z _ (by fail "md")
theorem sc__law_refused : FnScope ["_law_widths_here", "_law_low_here", "_law_refused_here", "e"] ["_law_widths_here", "_law_low_here"] (defScope s__law_refused) := ⟨rfl, rfl, rfl, by decide +kernel, rfl, by decide +kernel, by decide +kernel⟩
def q__law_refused (K : PySem.W.Frag) (widths low : V) (H : Hp) (Q : VK) (E : XK) : Prop := ∃ (a : Addr) (ws : List Int) (lo : Int), widths = .ref a ∧ low = .int lo ∧ H a = some (.lst (ws.map V.int)) ∧ ws.length ≤ 1000 ∧ ¬ GoodS ws lo ∧ ∀ H', Md [] H H' → Q (.bl true) H'
local macro_rules | `(tactic| fail "stx") => `(tactic| ((with_reducible show q__law_refused _ _ _ _ _ _); refine ⟨_, _, _, rfl, rfl, (by fail "hp"), (by fail "om"), ?_⟩))
theorem ok__law_refused {P : Program} {w : World} {K : PySem.W.Frag} {mg : Str → Option Value} {base : Heap} (T : TX K mg) : LF.Okf P w K mg base ("_law_refused", none) ["_law_widths_here", "_law_low_here"] [] 3 (LF.sp2 (q__law_refused K)) := by
  have G_Shape___init__ := ok_Shape___init__ (P := P) (w := w) (base := base) T
  refine LF.okf_mk T 10 (d := d__law_refused) rfl sc__law_refused rfl rfl (fun _ _ _ _ _ _ us hl => match us, hl with | [_, _], _ => rfl) (fun vs H Q E h => LF.sp2_len h) (fun cdv A outer s H vs Q E hr tk h => ?_)
  obtain ⟨widths_here, low_here, rfl, h⟩ := h
  have ND := (sc__law_refused).nd
  refine ⟨_, (pss_cons (ps_set (i := 2) ND rfl (Or.inl rfl) pe_bl)
 (pss_cons (ps_try_as (i := 3) rfl rfl ND rfl rfl ⟨rfl, by decide, .inl (f_glo_LeafError T)⟩ tk (fun W pn xe tk PO => eqn (pss_one (ps_expr (pmk K (pe_mk (f_mkr_Shape T) G_Shape___init__ (hr.mono (by decide)) rfl (f_glo_Shape T) tk (by exact (pa_cons (pv 0) (pa_cons (pv 1) pa_nil))))))) rfl)
 (fun a oe cls d pn hz hf => eqn (pss_cons (ps_set (i := 2) ND rfl (Or.inl rfl) (pe_and (pe_callB (uc_isE K hz hf) rfl (f_free_isinstance T) (by decide +kernel) (pa_cons (pv 3) (pa_cons (pe_glob (v := .ref (He.ga K "NoShape")) rfl (f_glo_NoShape T) rfl) pa_nil))) (pe_one (pe_callB (uc_isE K hz hf) rfl (f_free_isinstance T) (by decide +kernel) (pa_cons (pv 3) (pa_cons (pe_bltn (v := .ty "ValueError") rfl (f_free_ValueError T) (by decide +kernel) rfl) pa_nil))))))
 (pss_one (ps_set (i := 2) ND rfl (Or.inl rfl) (pe_and (pv 2) (pe_one (pe_not (pe_callB (uc_isET K hz hf) rfl (f_free_isinstance T) (by decide +kernel) (pa_cons (pv 3) (pa_cons (pe_tup (pa_cons (pe_glob (v := .ref (He.ga K "NoAddress")) rfl (f_glo_NoAddress T) rfl) (pa_cons (pe_glob (v := .ref (He.ga K "NoStretch")) rfl (f_glo_NoStretch T) rfl) pa_nil))) pa_nil))))))))) rfl))
 (pss_one (ps_ret (pv 2))))), ?_⟩
  rw [show start ["_law_widths_here", "_law_low_here", "_law_refused_here", "e"] [widths_here, low_here] = [some widths_here, some low_here, none, none] from rfl]
  try dsimp only [LF.bodyX, L2.cxOf]
  clear ND hr tk G_Shape___init__
  obtain ⟨a, ws, lo, rfl, rfl, ha, hlen, hn, h⟩ := h
  fail "go"
  refine And.intro (fun q => absurd q hn) (fun _ => ?_)
  fail "go"

  exact h _ (by fail "md")
theorem sc__law_right : FnScope ["_law_widths_here", "_law_low_here", "_law_handed", "_law_shape", "_law_pages", "_law_size"] ["_law_widths_here", "_law_low_here"] (defScope s__law_right) := ⟨rfl, rfl, rfl, by decide +kernel, rfl, by decide +kernel, by decide +kernel⟩
def q__law_right (K : PySem.W.Frag) (widths low : V) (H : Hp) (Q : VK) (E : XK) : Prop := ∃ (a : Addr) (ws : List Int) (lo : Int), widths = .ref a ∧ low = .int lo ∧ H a = some (.lst (ws.map V.int)) ∧ ws.length ≤ 1000 ∧ ∀ H', Md [] H H' → Q (.bl true) H'
local macro_rules | `(tactic| fail "stx") => `(tactic| ((with_reducible show q__law_right _ _ _ _ _ _); refine ⟨_, _, _, rfl, rfl, (by fail "hp"), (by fail "om"), ?_⟩))
theorem ok__law_right {P : Program} {w : World} {K : PySem.W.Frag} {mg : Str → Option Value} {base : Heap} (T : TX K mg) : LF.Okf P w K mg base ("_law_right", none) ["_law_widths_here", "_law_low_here"] [] 4 (LF.sp2 (q__law_right K)) := by
  have G_Shape___init__ := ok_Shape___init__ (P := P) (w := w) (base := base) T
  have G_Shape_pages := ok_Shape_pages (P := P) (w := w) (base := base) T
  have G_Shape_size := ok_Shape_size (P := P) (w := w) (base := base) T
  have G__law_doubled := ok__law_doubled (P := P) (w := w) (base := base) T
  have G__law_good := ok__law_good (P := P) (w := w) (base := base) T
  have G__law_refused := ok__law_refused (P := P) (w := w) (base := base) T
  have G__law_whole := ok__law_whole (P := P) (w := w) (base := base) T
  refine LF.okf_mk T 11 (d := d__law_right) rfl sc__law_right rfl rfl (fun _ _ _ _ _ _ us hl => match us, hl with | [_, _], _ => rfl) (fun vs H Q E h => LF.sp2_len h) (fun cdv A outer s H vs Q E hr tk h => ?_)
  obtain ⟨widths_here, low_here, rfl, h⟩ := h
  have ND := (sc__law_right).nd
  refine ⟨_, (pss_cons (ps_set (i := 2) ND rfl (Or.inl rfl) (pe_callTy (clist K) rfl (f_free_list T) (by decide +kernel) (pa_cons (pv 0) pa_nil)))
 (pss_cons (ps_if (pt_not (pt_val (pe_cl G__law_good (hr.mono (by decide)) rfl (f_glo__law_good T) tk (by exact (pa_cons (pv 0) (pa_cons (pv 1) pa_nil)))))) (pss_one (ps_ret (pe_and (pe_cl G__law_refused (hr.mono (by decide)) rfl (f_glo__law_refused T) tk (by exact (pa_cons (pv 2) (pa_cons (pv 1) pa_nil)))) (pe_one (pe_cmpR (ueq K hr.units) (pv 2) (pv 0) (nomark _)))))) pss_nil)
 (pss_cons (ps_set (i := 3) ND rfl (Or.inl rfl) (pmk K (pe_mk (f_mkr_Shape T) G_Shape___init__ (hr.mono (by decide)) rfl (f_glo_Shape T) tk (by exact (pa_cons (pv 2) (pa_cons (pv 1) pa_nil))))))
 (pss_cons (ps_if (pt_cmpR (une K hr.units) (pv 2) (pv 0) (nomark _)) (pss_one (ps_ret pe_bl)) pss_nil)
 (pss_cons (ps_expr (pbm0 K (pe_bm0 PySem.F.plainAttrs_list PySem.F.slot_list_clear PySem.F.type_list_clear mt_clear (pv 2))))
 (pss_cons (ps_set (i := 4) ND rfl (Or.inl rfl) (pml K (pe_ml0 (pv 3) (f_cls_Shape T) (f_meth_Shape_pages T) G_Shape_pages (hr.mono (by decide)) tk)))
 (pss_cons (ps_set (i := 5) ND rfl (Or.inl rfl) (pml K (pe_ml0 (pv 3) (f_cls_Shape T) (f_meth_Shape_size T) G_Shape_size (hr.mono (by decide)) tk)))
 (pss_cons (ps_if (PW.pt (pw_or (pt_not (pt_val (pe_cl G__law_whole (hr.mono (by decide)) rfl (f_glo__law_whole T) tk (by exact (pa_cons (pv 4) pa_nil))))) (pw_or1 (pt_not (pt_val (pe_cl G__law_whole (hr.mono (by decide)) rfl (f_glo__law_whole T) tk (by exact (pa_cons (pv 5) pa_nil)))))))) (pss_one (ps_ret pe_bl)) pss_nil)
 (pss_one (ps_ret (pe_and (pe_cmpR (ueq K hr.units) (pv 4) (pe_cl G__law_doubled (hr.mono (by decide)) rfl (f_glo__law_doubled T) tk (by exact (pa_cons (pe_callB (csum K rfl) rfl (f_free_sum T) (by decide +kernel) (pa_cons (pv 0) pa_nil)) pa_nil))) (nomark _)) (pe_one (pe_cmpR (ueq K hr.units) (pv 5) (pe_cl G__law_doubled (hr.mono (by decide)) rfl (f_glo__law_doubled T) tk (by exact (pa_cons (pv 1) pa_nil))) (nomark _)))))))))))))), ?_⟩
  rw [show start ["_law_widths_here", "_law_low_here", "_law_handed", "_law_shape", "_law_pages", "_law_size"] [widths_here, low_here] = [some widths_here, some low_here, none, none, none, none] from rfl]
  try dsimp only [LF.bodyX, L2.cxOf]
  clear ND hr tk G_Shape___init__ G_Shape_pages G_Shape_size G__law_doubled G__law_good G__law_refused G__law_whole
  obtain ⟨a, ws, lo, rfl, rfl, ha, hlen, h⟩ := h
  fail "go"
  refine And.intro (fun g H1 m1 => ?_) (fun g H1 m1 => ?_)
  · have sb := g.sum
    have gl := g.l
    fail "go"
    refine And.intro (fun _ H2 b m2 nb C => ?_) (fun q => absurd g q)
    fail "go"
    fail "go"
    refine eqT rfl ?_
    fail "go"
    exact h _ (by fail "md")
  · fail "go"
    refine fun H2 m2 => ?_
    fail "go"
    rw [decide_eq_true rfl]
    exact h _ (by fail "md")
theorem sc_law : FnScope ["_law_script", "_law_cell", "_law_widths_here", "_law_low_here"] ["_law_script"] (defScope s_law) := ⟨rfl, rfl, rfl, by decide +kernel, rfl, by decide +kernel, by decide +kernel⟩
abbrev q_law := LF.qLaw
theorem ok_law {P : Program} {w : World} {K : PySem.W.Frag} {mg : Str → Option Value} (T : TX K mg) : LF.OkL P w K mg ("law", none) "_law_script" 5 (LF.sp1 (q_law K)) := by
  refine LF.okl_mk T 12 (d := d_law) rfl sc_law rfl rfl (fun _ _ _ _ _ _ us hl => match us, hl with | [_], _ => rfl) (fun vs H Q E h => LF.sp1_len h) (fun base cdv A outer s H vs Q E hr tk h => ?_)
  have G__law_cell_at := ok__law_cell_at (P := P) (w := w) (base := base) T
  have G__law_low := ok__law_low (P := P) (w := w) (base := base) T
  have G__law_outside := ok__law_outside (P := P) (w := w) (base := base) T
  have G__law_right := ok__law_right (P := P) (w := w) (base := base) T
  have G__law_widths := ok__law_widths (P := P) (w := w) (base := base) T
  obtain ⟨script, rfl, h⟩ := h
  have ND := (sc_law).nd
  refine ⟨_, (pss_cons (ps_for (passes_of rfl) rfl (pi_list (pe_op (uadd K) (pe_lst (pa_cons (pe_cl G__law_cell_at (hr.mono (by decide)) rfl (f_glo__law_cell_at T) tk (by exact (pa_cons (pv 0) (pa_cons pe_int pa_nil)))) pa_nil)) (pe_slice (sll K) (pv 0) (po_some pe_int) (po_some pe_int)))) (pg_name (i := 1) ND rfl (Or.inl rfl))
 (pss_cons (ps_set (i := 2) ND rfl (Or.inl rfl) (pe_cl G__law_widths (hr.mono (by decide)) rfl (f_glo__law_widths T) tk (by exact (pa_cons (pv 1) pa_nil))))
 (pss_cons (ps_set (i := 3) ND rfl (Or.inl rfl) (pe_cl G__law_low (hr.mono (by decide)) rfl (f_glo__law_low T) tk (by exact (pa_cons (pv 1) pa_nil))))
 (pss_cons (ps_if (pt_not (pt_val (pe_cl G__law_right (hr.mono (by decide)) rfl (f_glo__law_right T) tk (by exact (pa_cons (pv 2) (pa_cons (pv 3) pa_nil)))))) (pss_one (ps_ret pe_bl)) pss_nil)
 (pss_cut (ps_if (pt_cmpR (ueq K hr.units) (pe_op op_mod (pe_op u_div (pv 1) pe_int) pe_int) pe_int (nomark _)) (pss_one (ps_set (i := 3) ND rfl (Or.inl rfl) (pe_op op_sub (pe_cl G__law_outside (hr.mono (by decide)) rfl (f_glo__law_outside T) tk (by exact (pa_cons (pe_op u_div (pv 1) pe_int) (pa_cons pe_int pa_nil)))) (pe_callTy call_int1 rfl (f_free_int T) (by decide +kernel) (pa_cons (pe_cmpR (ueq K hr.units) (pe_op op_mod (pe_op u_div (pv 1) pe_int) pe_int) pe_int (nomark _)) pa_nil))))) (pss_one (ps_if (pt_cmpR (une K hr.units) (pv 2) (pe_lst pa_nil) (nomark _)) (pss_one (ps_asg (pe_cl G__law_outside (hr.mono (by decide)) rfl (f_glo__law_outside T) tk (by exact (pa_cons (pe_op u_div (pv 1) pe_int) (pa_cons pe_int pa_nil)))) (pg_sub (pv 2) (pe_op op_mod (pe_op u_div (pv 1) pe_int) (pe_callB (clen K) rfl (f_free_len T) (by decide +kernel) (pa_cons (pv 2) pa_nil))) set_list))) pss_nil)))
 (pss_one (ps_if (pt_not (pt_val (pe_cl G__law_right (hr.mono (by decide)) rfl (f_glo__law_right T) tk (by exact (pa_cons (pv 2) (pa_cons (pv 3) pa_nil)))))) (pss_one (ps_ret pe_bl)) pss_nil)))))))
 (pss_one (ps_ret pe_bl))), ?_⟩
  rw [show start ["_law_script", "_law_cell", "_law_widths_here", "_law_low_here"] [script] = [some script, none, none, none] from rfl]
  try dsimp only [LF.bodyX, L2.cxOf]
  clear ND hr tk G__law_cell_at G__law_low G__law_outside G__law_right G__law_widths
  obtain ⟨a, sc, rfl, hS, hlen, _, h⟩ := h
  have cl := cutI_len (ns := sc) (lo := some 1) (hi := some 80)
  fail "go"
  rename_i fl nfl H2 hfl m2
  refine for_list (xs := (cellAt sc 0 :: cutI sc (some 1) (some 80)).map V.int) (fun i σ H => Hold (∃ v1 v2 v3, σ = [some (.ref a), v1, v2, v3] ∧ H fl = some (.lst ((cellAt sc 0 :: cutI sc (some 1) (some 80)).map V.int)))) ?_ ?_ ?_ ?_
  · exact .mk ⟨_, _, _, rfl, hfl⟩
  · intro i σ H hi hh
    obtain ⟨v1, v2, v3, rfl, hf⟩ := hh.out
    exact .of hf
  · intro i x σ H hx hh
    obtain ⟨v1, v2, v3, rfl, hf⟩ := hh.out
    obtain ⟨cell, rfl, ecell⟩ := ints_at hx
    clear hh hx hfl m2 nfl hS
    fail "go"
    intro w H3 ws nw hw m3 wl
    fail "go"
    intro H4 m4
    fail "go"
    refine cut (fun σ' H' => Hold (∃ (lo : Int) (ws' : List Int), σ' = [some (.ref a), some (.int cell), some (.ref w), some (.int lo)] ∧ Md [w] H4 H' ∧ H' w = some (.lst (ws'.map V.int)) ∧ ws'.length ≤ 5)) ?_ ?_
    · fail "go"
      refine ifd (fun z => ?_) (fun z => ?_)
      · fail "go"
        intro z2 H5 m5
        fail "go"
        refine Or.inr ⟨_, rfl, ?_⟩
        fail "go"
        exact .mk ⟨_, ws, rfl, by fail "md", by fail "hp", wl⟩
      · fail "go"
        refine ifdn (fun z2 => ?_) (fun z2 => ?_)
        · have pos : 0 < ws.length := List.length_pos_iff.mpr z2
          fail "go"
          intro z3 H5 m5
          fail "go"
          rw [len_mi]
          have j0 := Int.emod_nonneg (cell / 630) (show (ws.length : Int) ≠ 0 by omega)
          have j1 := Int.emod_lt_of_pos (cell / 630) (show (0 : Int) < ws.length by omega)
          fail "go"
          rename_i H6 h6 m6
          exact .mk ⟨_, _, rfl, by fail "md", h6, by rw [List.length_set]; exact wl⟩
        · exact .mk ⟨_, ws, rfl, by fail "md", by fail "hp", wl⟩
    intro σ' H5 hh
    obtain ⟨lo, ws', rfl, m5, hw', wl'⟩ := hh.out
    clear hh
    fail "go"
    intro H6 m6
    fail "go"
    exact .mk ⟨_, _, _, rfl, by fail "hp"⟩
  · intro σ H hh
    obtain ⟨v1, v2, v3, rfl, hf⟩ := hh.out
    fail "go"
    exact h _
end LW
open PySem PySem.W PySem.Calls PyProof.Rows
theorem PySem.Challenge.cw_leafframe_k05_shapes_holds : PySem.Challenge.rw_leafframe_k05_shapes.Holds := by
  w_on; o_law
  refine HandSHeadRun.head_any (r := OpenLaw.row PySem.Challenge.rw_leafframe_k05_shapes) (q := view (OpenLaw.row PySem.Challenge.rw_leafframe_k05_shapes).prog [21]) (H := LW.hk) (ob := LW.ob) (M := 4000) (loose := LW.loose) (d := HandSHeadRun.topDef (OpenLaw.row PySem.Challenge.rw_leafframe_k05_shapes).prog 21) (kwd := []) LW.ob_eq
    (by kernel_rfl) (fun s => by kernel_rfl) LW.run (by kernel_rfl) (by kernel_rfl) (by kernel_rfl) (by rfl) (by first | assumption | decide +kernel) (by decide +kernel) ⟨rfl, rfl, rfl, rfl, rfl, by decide +kernel⟩ ?hw ?hc
  case hw => w_witness2
  case hc =>
    have e : (HandSHeadRun.topDef (OpenLaw.row PySem.Challenge.rw_leafframe_k05_shapes).prog 21).name = ("law" : PySem.Str) := by kernel_rfl
    refine LF.walk_end (l := PySem.Challenge.rw_leafframe_k05_shapes) (k := 5) (x := "_law_script") (m := 4) (fa := LW.fa) (fn := LW.fn) (ex := LW.ex) rfl (by kernel_rfl) ⟨rfl, by decide, by decide⟩ 32 (by rw [e]; rfl) ?F
    intro w K mg T
    rw [e]
    exact LW.ok_law T
