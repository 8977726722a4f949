import PyProof.Rows.All
import Wide.All
import OpenK.AllK
import Wide.FinOn
import HandS.ForMost
import HandS.ForExc
import HandS.IsInst
import HandS.ExcIs
import HandS.Defaults
import HandS.ExcInit
import HandS.ExcField
import HandS.ExcValue
import HandS.TryMany
import HandS.Wide
import HandS.WideBits
import HandS.SortInts
import HandS.SetFor
import HandS.Rev
import HandS.RevRange
import HandS.Zip
import HandS.TupAny
import HandS.TupMul
import HandS.TupLe
import HandS.Conv
import HandS.More
import HandS.Deep
import HandS.Small
import HandS.EndBits
import HandS.Head0
import HandS.Head1
import HandS.Head2
import HandS.HeadEnd
import HandS.HeadHook1
import HandS.HeadHook2
import PySem.Challenge.RW_leafframe_k25_hand
set_option Elab.async false
set_option linter.all false
set_option maxRecDepth 100000
set_option maxHeartbeats 4000000
/-! LF1: what the top holds, defs by name, calls by promise. -/
namespace LF
open PySem PySem.Spec PyProof.Rows L2
/-! ### the hook: facts, defs, one more truth of the written part -/
abbrev AlB : Type := He.AlD × Bool
def obsB (n : Nat) (fa : List He.Fa) (fn : List He.DefD) (ex : PySem.W.Frag → Bool) (g : Addr → Option Obj) : AlB := (He.obsD fa fn (He.frG g (He.asD g n)), ex (He.frG g (He.asD g n)))
def valB (fn : List He.DefD) : AlB := (He.valD fn, true)
structure Says (fa : List He.Fa) (fn : List He.DefD) (ex : PySem.W.Frag → Bool) (K : PySem.W.Frag) : Prop where
  d : He.SaysD fa fn K
  b : ex K = true
def hookB (n : Nat) (fa : List He.Fa) (fn : List He.DefD) (ex : PySem.W.Frag → Bool) : PySem.W.Hook where
  α := AlB
  obs := fun s => obsB n fa fn ex s.heap.get?
  val := fun _ => valB fn
  says := fun _ h => ∃ K : PySem.W.Frag, K.In h ∧ Says fa fn ex K
  of := fun _ _ e => ⟨_, He.frG_in, congrArg (fun z : AlB => z.1) e, congrArg (fun z : AlB => z.2) e⟩
  keeps := fun _ _ _ ⟨K, hK, c⟩ k => ⟨K, PySem.W.Frag.In.keeps hK k, c⟩
theorem obsB_eq {n : Nat} {fa : List He.Fa} {fn : List He.DefD} {ex : PySem.W.Frag → Bool} {g : Addr → Option Obj} {s : Shared} (h : ∀ a, g a = s.heap.get? a) : obsB n fa fn ex g = (hookB n fa fn ex).obs s := by
  have e : g = s.heap.get? := funext h
  rw [e] <;> rfl
/-! ### the text's facts -/
structure Tx (fa : List He.Fa) (fn : List He.DefD) (ex : PySem.W.Frag → Bool) (K : PySem.W.Frag) (mg : Str → Option Value) : Prop where
  c : Says fa fn ex K
  g : ∃ h, K.In h ∧ h.Ns mainGlobals mg
section
variable {fa : List He.Fa} {fn : List He.DefD} {ex : PySem.W.Frag → Bool} {K : PySem.W.Frag} {mg : Str → Option Value}
theorem Tx.glo (T : Tx fa fn ex K mg) (i : Nat) {x : Str} (h : fa[i]? = some (.glo x) := by rfl) : mg x = some (.ref (He.ga K x)) := by
  obtain ⟨hp, X, G⟩ := T.g
  exact He.glo_ok X G (T.c.d.fact i h)
theorem Tx.free (T : Tx fa fn ex K mg) (i : Nat) {x : Str} (h : fa[i]? = some (.free x) := by rfl) : mg x = none := by
  obtain ⟨hp, X, G⟩ := T.g
  exact He.free_ok X G (T.c.d.fact i h)
theorem Tx.int (T : Tx fa fn ex K mg) (i : Nat) {x : Str} {z : Int} (h : fa[i]? = some (.int x z) := by rfl) : ∃ t, mg x = some (.int z t) := by
  obtain ⟨hp, X, G⟩ := T.g
  exact He.int_ok X G (T.c.d.fact i h)
theorem Tx.str (T : Tx fa fn ex K mg) (i : Nat) {x z : Str} (h : fa[i]? = some (.str x z) := by rfl) : ∃ t, mg x = some (.str z t) := by
  obtain ⟨hp, X, G⟩ := T.g
  exact He.str_ok X G (T.c.d.fact i h)
theorem Tx.cls (T : Tx fa fn ex K mg) (i : Nat) {x : Str} (h : fa[i]? = some (.cls x) := by rfl) : Cls K (He.ga K x) := He.cls_ok (T.c.d.fact i h)
theorem Tx.noat (T : Tx fa fn ex K mg) (i : Nat) {x f : Str} (h : fa[i]? = some (.noat x f) := by rfl) : NoAttr K (He.ga K x) f := He.noat_ok (T.c.d.fact i h)
theorem Tx.meth (T : Tx fa fn ex K mg) (i : Nat) {x m : Str} (h : fa[i]? = some (.meth x m) := by rfl) : Meth K (He.ga K x) m (He.ma K (He.ga K x) m) := He.meth_ok (T.c.d.fact i h)
theorem Tx.mkr (T : Tx fa fn ex K mg) (i : Nat) {x : Str} (h : fa[i]? = some (.mkr x) := by rfl) : Mk K (He.ga K x) (He.ma K (He.ga K x) "__init__") := He.mkr_ok (T.c.d.fact i h)
theorem Tx.exm (T : Tx fa fn ex K mg) (i : Nat) {x y : Str} {b : Bool} (h : fa[i]? = some (.exm x y b) := by rfl) : PySem.W.exmOne K (.ref (He.ga K x)) (.ref (He.ga K y)) = some b := He.exm_ok (T.c.d.fact i h)
theorem Tx.exc (T : Tx fa fn ex K mg) (i : Nat) {x : Str} (h : fa[i]? = some (.exc x) := by rfl) : PySem.W.excIn K (He.ga K x) He.veBase "ValueError.__new__" = true ∧ PySem.W.keepIn K (.ref (He.ga K x)) = true ∧
    PySem.W.subIn K (.ref (He.ga K x)) (.type "BaseException") = some true ∧ PySem.W.typeIn K (.ref (He.ga K x)) = some (.type "type") := He.exc_ok (T.c.d.fact i h)
end
/-! ### a def that keeps its promise, by where it stands -/
structure Okf (P : Program) (w : World) (K : PySem.W.Frag) (mg : Str → Option Value) (base : Heap) (at_ : Str × Option Str) (ps : List Str) (dvs : List V) (k : Nat) (sp : Sp) : Prop where
  ex : ∃ fd ds, FnOk P w K mg base (L2.CX P w) k (He.fAd K at_) fd ps sp ∧ Binds K fd ps ds ∧ Vals dvs ds
  kp : PySem.W.keepIn K (.ref (He.fAd K at_)) = true
section
variable {P : Program} {w : World} {K : PySem.W.Frag} {mg : Str → Option Value} {base : Heap} {at_ : Str × Option Str} {ps : List Str} {dvs : List V} {k : Nat} {sp sp' : Sp}
theorem Okf.mono {j : Nat} (G : Okf P w K mg base at_ ps dvs j sp) (h : j ≤ k) : Okf P w K mg base at_ ps dvs k sp := by
  obtain ⟨⟨fd, ds, F, b, v⟩, kp⟩ := G
  exact ⟨⟨fd, ds, F.mono h, b, v⟩, kp⟩
theorem Okf.imp (G : Okf P w K mg base at_ ps dvs k sp) (h : ∀ vs H Q E, sp' vs H Q E → sp vs H Q E) : Okf P w K mg base at_ ps dvs k sp' := by
  obtain ⟨⟨fd, ds, F, b, v⟩, kp⟩ := G
  exact ⟨⟨fd, ds, F.imp h, b, v⟩, kp⟩
end
section
variable {fa : List He.Fa} {fn : List He.DefD} {ex : PySem.W.Frag → Bool} {P : Program} {w : World} {K : PySem.W.Frag} {mg : Str → Option Value} {base : Heap} {N ps : List Str} {k : Nat} {sp : Sp}
/-- the context of such a def's body -/
abbrev bodyX (P : Program) (w : World) (K : PySem.W.Frag) (mg : Str → Option Value) (base : Heap) (N : List Str) (d : He.DefD) (cdv : Value) (A : Around) (outer : List Env) (s : Shared) (H : Hp) (E : XK) : Cx :=
  cxOf (L2.CX P w) P w K mg base N d.qual d.scope (He.fAd K d.at_) cdv A outer s H E
theorem okf_of (T : Tx fa fn ex K mg) (i : Nat) {d : He.DefD} (hi : fn[i]? = some d) (S : FnScope N ps d.scope) (dvs : List V) (hb : ∀ fd, FunD K d.name d.qual d.params d.body d.scope (d.dvs K) (d.kws K) (He.fAd K d.at_) fd → ∃ ds, Vals dvs ds ∧ Binds K fd ps ds)
    (len : ∀ vs H Q E, sp vs H Q E → vs.length = ps.length)
    (body : ∀ (cdv : Value) (A : Around) (outer : List Env) (s : Shared) (H : Hp) (vs : List V) (Q : VK) (E : XK), Room k (A.deeper (envOfC d.qual d.scope s.heap.objs.size (He.fAd K d.at_) cdv)) → Takes (bodyX P w K mg base N d cdv A outer s H E) (fun cls dd _ H' => E cls dd H') → sp vs H Q E →
      ∃ t, PSs (bodyX P w K mg base N d cdv A outer s H E) d.body t ∧ t { nx := fun _ H' => Q .non H', rt := Q } (start N vs) H) : Okf P w K mg base d.at_ ps dvs (k + 1) sp := by
  obtain ⟨fd, F⟩ := T.c.d.def_ i (d := d) hi
  obtain ⟨ds, v, b⟩ := hb fd F
  exact ⟨⟨fd, ds, F.ok S len fun cdv A outer s H vs Q E hr h => body cdv A outer s H vs Q E hr (takes_of rfl rfl rfl rfl) h, b, v⟩, F.kp⟩
/-- a def without defaults -/
theorem okf_mk (T : Tx fa fn ex K mg) (i : Nat) {d : He.DefD} (hi : fn[i]? = some d) (S : FnScope N ps d.scope) (h0 : d.dfl = []) (h1 : d.kwd = [])
    (hb : ∀ (kV doc pm : Value) (an : Option Addr) (cdv ct : Value) (us : List Value), us.length = ps.length → bindArgs (PySem.W.fnOf d.name d.qual d.params d.body d.scope .none kV doc pm an cdv ct) ⟨us, []⟩ = pure (ps.zip us))
    (len : ∀ vs H Q E, sp vs H Q E → vs.length = ps.length)
    (body : ∀ (cdv : Value) (A : Around) (outer : List Env) (s : Shared) (H : Hp) (vs : List V) (Q : VK) (E : XK), Room k (A.deeper (envOfC d.qual d.scope s.heap.objs.size (He.fAd K d.at_) cdv)) → Takes (bodyX P w K mg base N d cdv A outer s H E) (fun cls dd _ H' => E cls dd H') → sp vs H Q E →
      ∃ t, PSs (bodyX P w K mg base N d cdv A outer s H E) d.body t ∧ t { nx := fun _ H' => Q .non H', rt := Q } (start N vs) H) : Okf P w K mg base d.at_ ps [] (k + 1) sp :=
  okf_of T i hi S [] (fun fd F => by
    have e1 : d.dvs K = [] := by unfold He.DefD.dvs; rw [h0]; rfl
    have e2 : d.kws K = [] := by unfold He.DefD.kws; rw [h1]; rfl
    rw [e1, e2] at F
    exact ⟨[], .nil, FunD.bindsN F hb⟩) len body
end
/-! ### calls -/
section
variable {X : Cx} {W : WX} {at_ : Str × Option Str} {ps : List Str} {dvs : List V} {k : Nat} {sp : Sp} {x m C : Str} {p pos apos : Pos} {e o : Expr} {es : List Expr} {ta : TE} {t : TA}
abbrev OkX (X : Cx) (at_ : Str × Option Str) (ps : List Str) (dvs : List V) (k : Nat) (sp : Sp) : Prop := Okf X.prog X.w X.K X.mg X.base at_ ps dvs k sp
theorem run_o {pins : List (Addr × Obj)} {σ : L2.St} {H : Hp} {s : Shared} {Q : VK} {us : List Value} {vs : List V} (G : OkX X at_ ps dvs k sp) (hr : Room k X.A) (tk : Takes X W)
    (I : Inv X pins σ H s) (r : Vals vs us) (h : sp (vs ++ dvs) H Q (fun cls d H' => W cls d σ H')) : wpAny (model X.prog X.w) X.A (call (.ref (He.fAd X.K at_)) us) (EP X pins σ Q) X.xe s := by
  obtain ⟨⟨fd, ds, F, hb, hd⟩, _⟩ := G
  have r2 : Vals (vs ++ dvs) (us ++ ds) := r.append hd
  have hl : (us ++ ds).length = ps.length := by rw [← r2.length]; exact F.len _ _ _ _ h
  refine wpAny_call (codeAny_mono (F.run X.A X.stack s H ⟨us, []⟩ (us ++ ds) (vs ++ dvs) Q _ hr I.env0 (hb s us I.kIn hl) r2 h) fun r s' hq => ?_)
  cases r with
  | error e => exact tk e s' (XE.of_call I (fun _ _ _ h => h) hq)
  | ok fl =>
    cases fl with
    | ret u => exact I.after hq
    | next => exact False.elim hq
    | brk => exact False.elim hq
    | cont => exact False.elim hq
/-- a call's reading: the arguments, then the promise -/
def tCl (sp : Sp) (dvs : List V) (W : WX) (t : TA) : TE := fun σ H Q => t σ H fun vs H1 => sp (vs ++ dvs) H1 Q (fun cls d H' => W cls d σ H')
theorem pe_cl (G : OkX X (x, none) ps dvs k sp) (hr : Room k X.A) (hg : Gl X x) (hm : X.mg x = some (.ref (He.ga X.K x))) (tk : Takes X W)
    (ha : PA X (e :: es) t) (hdb : (x == ("__debug__" : Str)) = false := by decide) (he : starEach (e :: es) X.env = (false, eval e X.env) :: starEach es X.env := by rfl) (hpl : (backTo pos (starEach es X.env)).any (·.1) = false := by rfl) :
    PE X (.Call (.Name x p) (e :: es) [] pos) (tCl sp dvs W t) := by
  refine ⟨fun pins s σ H Q I h => ?_⟩
  refine wpAny_Call_Name_kw (ld_glob I hg hm ?_ hdb)
  refine PySem.W.callWith_K (h₀ := X.base) I.ok.mod.kin G.kp (thn (ha.run pos pins s σ H _ I h) fun us s1 ⟨vs, H1, I1, r, q⟩ => ⟨I1.kIn, ?_⟩) he hpl
  exact run_o G hr tk I1 r q
theorem pe_cl0 (G : OkX X (x, none) ps dvs k sp) (hr : Room k X.A) (hg : Gl X x) (hm : X.mg x = some (.ref (He.ga X.K x))) (tk : Takes X W)
    (hdb : (x == ("__debug__" : Str)) = false := by decide) : PE X (.Call (.Name x p) [] [] pos) (tCl sp dvs W tNil) := by
  refine ⟨fun pins s σ H Q I h => ?_⟩
  refine wpAny_Call_Name_kw (ld_glob I hg hm ?_ hdb)
  exact PySem.W.callWith_K0 I.kIn G.kp (run_o (us := []) G hr tk I .nil h)
/-- o.m(..): the object, that it is of the class, the arguments, the promise -/
def tMl (C : Addr) (m : Str) (sp : Sp) (dvs : List V) (W : WX) (ta : TE) (t : TA) : TE := fun σ H Q => ta σ H fun x H1 => ∃ a dx fs, x = .ref a ∧ H1 a = some (.ins C dx fs) ∧ fs.lookup m = none ∧ t σ H1 fun vs H2 => sp (x :: (vs ++ dvs)) H2 Q (fun cls d H' => W cls d σ H')
theorem pe_ml {pl : Sem Bool} (he : PE X o ta) (c : Cls X.K (He.ga X.K C)) (hm : Meth X.K (He.ga X.K C) m (He.ma X.K (He.ga X.K C) m)) (G : OkX X (C, some m) ps dvs k sp) (hr : Room k X.A) (tk : Takes X W) (ha : PA X (e :: es) t)
    (hst : starEach (e :: es) X.env = (false, eval e X.env) :: starEach es X.env := by rfl) (hpl : (backTo pos (starEach es X.env)).any (·.1) = false := by rfl)
    (ht : eval (.Call (.Attribute o m apos) (e :: es) [] pos) X.env = (do
      let ov ← eval o X.env
      standAt apos.atName
      let (f, first) ← holding [ov] (getMethod ov m pl)
      callWith pos f first (backTo pos (starEach (e :: es) X.env)) (backToKw pos (keywordEach [] X.env))) := by rfl) :
    PE X (.Call (.Attribute o m apos) (e :: es) [] pos) (tMl (He.ga X.K C) m sp dvs W ta t) := by
  refine ⟨fun pins s σ H Q I h => ?_⟩
  refine PySem.W.methodCall_KW (pl := pl) (thn (he.run pins s σ H _ I h) fun u s1 ⟨x, H1, I1, rx, a, dx, fs, ex, ea, l, q⟩ => ?_) ht
  subst ex
  obtain rfl : u = Value.ref a := rx
  refine getmeth_ok I1 ea c hm l ?_
  refine PySem.W.callWith_K (first := [.ref a]) (h₀ := X.base) I.ok.mod.kin hm.kp (thn (ha.run pos pins s1 σ H1 _ I1 q) fun us s2 ⟨vs, H2, I2, r, q2⟩ => ⟨I2.kIn, ?_⟩) hst hpl
  exact run_o (us := .ref a :: us) (vs := .ref a :: vs) G hr tk I2 (.cons rfl r) q2
theorem pe_ml0 {pl : Sem Bool} (he : PE X o ta) (c : Cls X.K (He.ga X.K C)) (hm : Meth X.K (He.ga X.K C) m (He.ma X.K (He.ga X.K C) m)) (G : OkX X (C, some m) ps dvs k sp) (hr : Room k X.A) (tk : Takes X W)
    (ht : eval (.Call (.Attribute o m apos) [] [] pos) X.env = (do
      let ov ← eval o X.env
      standAt apos.atName
      let (f, first) ← holding [ov] (getMethod ov m pl)
      callWith pos f first (backTo pos (starEach [] X.env)) (backToKw pos (keywordEach [] X.env))) := by rfl) :
    PE X (.Call (.Attribute o m apos) [] [] pos) (tMl (He.ga X.K C) m sp dvs W ta tNil) := by
  refine ⟨fun pins s σ H Q I h => ?_⟩
  refine PySem.W.methodCall_KW (pl := pl) (thn (he.run pins s σ H _ I h) fun u s1 ⟨x, H1, I1, rx, a, dx, fs, ex, ea, l, q⟩ => ?_) ht
  subst ex
  obtain rfl : u = Value.ref a := rx
  refine getmeth_ok I1 ea c hm l ?_
  exact PySem.W.callWith_K0 (first := [.ref a]) I1.kIn hm.kp (run_o (us := [.ref a]) (vs := [.ref a]) G hr tk I1 (.cons rfl .nil) q)
/-- C(..): a new instance, then __init__'s promise -/
def tMk (C : Addr) (sp : Sp) (dvs : List V) (W : WX) (t : TA) : TE := fun σ H Q => t σ H fun vs H1 => ∀ x dx, H1 x = none → H1 dx = none → dx ≠ x →
  sp (.ref x :: (vs ++ dvs)) (upd (upd H1 dx (.own x)) x (.ins C dx [])) (fun v H2 => v = .non ∧ Q (.ref x) H2) (fun cls d H' => W cls d σ H')
theorem run_mk {pins : List (Addr × Obj)} {σ : L2.St} {H : Hp} {s : Shared} {Q : VK} {us : List Value} {vs : List V} (M : Mk X.K (He.ga X.K C) (He.ma X.K (He.ga X.K C) "__init__")) (G : OkX X (C, some "__init__") ps dvs k sp) (hr : Room (k + 1) X.A)
    (tk : Takes X W) (I : Inv X pins σ H s) (r : Vals vs us)
    (h : ∀ x dx, H x = none → H dx = none → dx ≠ x → sp (.ref x :: (vs ++ dvs)) (upd (upd H dx (.own x)) x (.ins (He.ga X.K C) dx [])) (fun v H2 => v = .non ∧ Q (.ref x) H2) (fun cls d H' => W cls d σ H')) :
    wpAny (model X.prog X.w) X.A (call (.ref (He.ga X.K C)) us) (EP X pins σ Q) X.xe s := by
  obtain ⟨⟨fd, ds, F, hb, hd⟩, _⟩ := G
  have hq := h (s.heap.objs.size + 1) s.heap.objs.size (I.hok.fresh (Nat.le_succ _)) (I.hok.fresh (Nat.le_refl _)) (Nat.ne_of_lt (Nat.lt_succ_self _))
  have I2 := Inv.made (C := He.ga X.K C) I
  have r2 : Vals (V.ref (s.heap.objs.size + 1) :: (vs ++ dvs)) (Value.ref (s.heap.objs.size + 1) :: (us ++ ds)) := .cons rfl (r.append hd)
  have hl : (Value.ref (s.heap.objs.size + 1) :: us ++ ds).length = ps.length := by
    have e := r2.length
    rw [F.len _ _ _ _ hq] at e
    exact e.symm
  refine wpAny_call (make_map (f := He.ma X.K (He.ga X.K C) "__init__") I.kIn M.makes M.init (beq_iff_eq.mp M.fn) (codeAny_mono (F.run _ X.stack _ _ ⟨Value.ref (s.heap.objs.size + 1) :: us, []⟩ (Value.ref (s.heap.objs.size + 1) :: (us ++ ds)) _ _ _ (hr.make (He.ga X.K C) us [])
    (I2.env0.make (He.ga X.K C) us []) (hb _ (Value.ref (s.heap.objs.size + 1) :: us) I2.kIn hl) r2 hq) fun r s' hq' => ?_))
  cases r with
  | error e => exact tk e s' (XE.of_call I2 (fun _ _ _ h => h) hq')
  | ok fl =>
    cases fl with
    | ret u =>
      obtain ⟨v, H', I3, rv, ev, q3⟩ := I2.after hq'
      subst ev
      exact ⟨rv, ⟨V.ref (s.heap.objs.size + 1), H', I3, rfl, q3⟩⟩
    | next => exact False.elim hq'
    | brk => exact False.elim hq'
    | cont => exact False.elim hq'
theorem pe_mk (M : Mk X.K (He.ga X.K x) (He.ma X.K (He.ga X.K x) "__init__")) (G : OkX X (x, some "__init__") ps dvs k sp) (hr : Room (k + 1) X.A) (hg : Gl X x) (hm : X.mg x = some (.ref (He.ga X.K x))) (tk : Takes X W)
    (ha : PA X (e :: es) t) (hdb : (x == ("__debug__" : Str)) = false := by decide) (he : starEach (e :: es) X.env = (false, eval e X.env) :: starEach es X.env := by rfl) (hpl : (backTo pos (starEach es X.env)).any (·.1) = false := by rfl) :
    PE X (.Call (.Name x p) (e :: es) [] pos) (tMk (He.ga X.K x) sp dvs W t) := by
  refine ⟨fun pins s σ H Q I h => ?_⟩
  refine wpAny_Call_Name_kw (ld_glob I hg hm ?_ hdb)
  refine PySem.W.callWith_K (h₀ := X.base) I.ok.mod.kin M.kp (thn (ha.run pos pins s σ H _ I h) fun us s1 ⟨vs, H1, I1, r, q⟩ => ⟨I1.kIn, ?_⟩) he hpl
  exact run_mk M G hr tk I1 r q
theorem pe_mk0 (M : Mk X.K (He.ga X.K x) (He.ma X.K (He.ga X.K x) "__init__")) (G : OkX X (x, some "__init__") ps dvs k sp) (hr : Room (k + 1) X.A) (hg : Gl X x) (hm : X.mg x = some (.ref (He.ga X.K x))) (tk : Takes X W)
    (hdb : (x == ("__debug__" : Str)) = false := by decide) : PE X (.Call (.Name x p) [] [] pos) (tMk (He.ga X.K x) sp dvs W tNil) := by
  refine ⟨fun pins s σ H Q I h => ?_⟩
  refine wpAny_Call_Name_kw (ld_glob I hg hm ?_ hdb)
  exact PySem.W.callWith_K0 I.kIn M.kp (run_mk (us := []) M G hr tk I .nil h)
/-- raise X('..') -/
theorem ps_rs {fa : List He.Fa} {fn : List He.DefD} {ex : PySem.W.Frag → Bool} (T : Tx fa fn ex X.K X.mg) (i : Nat) (j : Nat) {z : Str} {jj : Nat} {p2 pos2 : Pos} (hc : X.calm = true) (tk : Takes X W) (hi : fa[i]? = some (.exc x)) (hj : fa[j]? = some (.glo x)) (hg : Gl X x := by rfl)
    (hdb : (x == ("__debug__" : Str)) = false := by decide) : PS X (.Raise (some (.Call (.Name x p) [.Constant (.str z) jj p2] [] pos)) none pos2) (fun _ σ H => W (.ref (He.ga X.K x)) none σ H) :=
  ps_raise hc tk (pmk_own PySem.F.excBase_ValueError (T.exc i hi).1 (T.glo j hj) (T.exc i hi).2.1 (raises_own (T.exc i hi).2.2.1 (T.exc i hi).2.2.2) hg hdb)
end
end LF

/-! LF2: promises by parameters, heaps that change, short steps. -/
namespace LF
open PySem PySem.Spec PyProof.Rows L2
/-! ### promises by parameters -/
def sp1 (q : V → Hp → VK → XK → Prop) : Sp := fun vs H Q E => ∃ a, vs = [a] ∧ q a H Q E
def sp2 (q : V → V → Hp → VK → XK → Prop) : Sp := fun vs H Q E => ∃ a b, vs = [a, b] ∧ q a b H Q E
def sp3 (q : V → V → V → Hp → VK → XK → Prop) : Sp := fun vs H Q E => ∃ a b c, vs = [a, b, c] ∧ q a b c H Q E
def sp4 (q : V → V → V → V → Hp → VK → XK → Prop) : Sp := fun vs H Q E => ∃ a b c d, vs = [a, b, c, d] ∧ q a b c d H Q E
def sp5 (q : V → V → V → V → V → Hp → VK → XK → Prop) : Sp := fun vs H Q E => ∃ a b c d e, vs = [a, b, c, d, e] ∧ q a b c d e H Q E
def sp6 (q : V → V → V → V → V → V → Hp → VK → XK → Prop) : Sp := fun vs H Q E => ∃ a b c d e f, vs = [a, b, c, d, e, f] ∧ q a b c d e f H Q E
theorem sp1_len {q : V → Hp → VK → XK → Prop} {vs : List V} {H : Hp} {Q : VK} {E : XK} (h : sp1 q vs H Q E) : vs.length = 1 := by obtain ⟨_, rfl, _⟩ := h; rfl
theorem sp2_len {q : V → V → Hp → VK → XK → Prop} {vs : List V} {H : Hp} {Q : VK} {E : XK} (h : sp2 q vs H Q E) : vs.length = 2 := by obtain ⟨_, _, rfl, _⟩ := h; rfl
theorem sp3_len {q : V → V → V → Hp → VK → XK → Prop} {vs : List V} {H : Hp} {Q : VK} {E : XK} (h : sp3 q vs H Q E) : vs.length = 3 := by obtain ⟨_, _, _, rfl, _⟩ := h; rfl
theorem sp4_len {q : V → V → V → V → Hp → VK → XK → Prop} {vs : List V} {H : Hp} {Q : VK} {E : XK} (h : sp4 q vs H Q E) : vs.length = 4 := by obtain ⟨_, _, _, _, rfl, _⟩ := h; rfl
theorem sp5_len {q : V → V → V → V → V → Hp → VK → XK → Prop} {vs : List V} {H : Hp} {Q : VK} {E : XK} (h : sp5 q vs H Q E) : vs.length = 5 := by obtain ⟨_, _, _, _, _, rfl, _⟩ := h; rfl
theorem sp6_len {q : V → V → V → V → V → V → Hp → VK → XK → Prop} {vs : List V} {H : Hp} {Q : VK} {E : XK} (h : sp6 q vs H Q E) : vs.length = 6 := by obtain ⟨_, _, _, _, _, _, rfl, _⟩ := h; rfl
/-! ### heaps -/
/-- what was tracked ahead and is not among L stands as it stood; what was tracked stays tracked -/
structure Md (L : List Addr) (H H' : Hp) : Prop where
  kp : ∀ b o, b ∉ L → H b = some o → H' b = some o
  up : ∀ b, H' b = none → H b = none
structure New (H : Hp) (p : Addr) : Prop where
  eq : H p = none
theorem Md.refl {L : List Addr} {H : Hp} : Md L H H := ⟨fun _ _ _ h => h, fun _ h => h⟩
theorem Md.trans {L : List Addr} {H H1 H2 : Hp} (a : Md L H H1) (b : Md L H1 H2) : Md L H H2 := ⟨fun c o n h => b.kp c o n (a.kp c o n h), fun c h => a.up c (b.up c h)⟩
theorem Md.mono {L M : List Addr} {H H1 : Hp} (a : Md L H H1) (s : ∀ b ∈ L, b ∈ M) : Md M H H1 := ⟨fun c o n h => a.kp c o (fun z => n (s c z)) h, a.up⟩
theorem Md.at_ {L : List Addr} {H H1 : Hp} (a : Md L H H1) {b : Addr} {o : HO} (n : b ∉ L) (h : H b = some o) : H1 b = some o := a.kp b o n h
theorem Md.to0 {L : List Addr} {H H1 : Hp} (a : Md [] H H1) : Md L H H1 := a.mono (fun _ h => by cases h)
theorem Md.at0 {H H1 : Hp} (a : Md [] H H1) {b : Addr} {o : HO} (h : H b = some o) : H1 b = some o := a.kp b o (by simp) h
theorem Md.at1 {l : Addr} {H H1 : Hp} (a : Md [l] H H1) {b : Addr} {o : HO} (n : b ≠ l) (h : H b = some o) : H1 b = some o := a.kp b o (by simpa using n) h
theorem Md.at2 {l m : Addr} {H H1 : Hp} (a : Md [l, m] H H1) {b : Addr} {o : HO} (n : b ≠ l) (n2 : b ≠ m) (h : H b = some o) : H1 b = some o := a.kp b o (by simp [n, n2]) h
theorem Md.same {H H1 : Hp} (a : Md [] H H1) : Same H H1 := fun _ _ h => a.at0 h
theorem upd_up {H : Hp} {p b : Addr} {o : HO} (h : upd H p o b = none) : H b = none := by
  by_cases e : b = p
  · rw [e, upd_same] at h; cases h
  · rw [upd_ne e] at h; exact h
theorem Md.upd_new {L : List Addr} {H : Hp} {p : Addr} {o : HO} (h : H p = none) : Md L H (upd H p o) := ⟨fun b x _ e => by
  rw [upd_ne (ne_of_none e h)]
  exact e, fun _ => upd_up⟩
theorem Md.upd_old {H : Hp} {p : Addr} {o : HO} : Md [p] H (upd H p o) := ⟨fun b x n e => by
  rw [upd_ne (by simpa using n)]
  exact e, fun _ => upd_up⟩
theorem Md.upd_in {L : List Addr} {H : Hp} {p : Addr} {o : HO} (h : p ∈ L) : Md L H (upd H p o) := ⟨fun b x n e => by
  rw [upd_ne (fun z => n (by rw [z]; exact h))]
  exact e, fun _ => upd_up⟩
theorem Md.none_of {L : List Addr} {H H1 : Hp} (a : Md L H H1) {p : Addr} (h : H1 p = none) : H p = none := a.up p h
theorem ne_new {H : Hp} {a b : Addr} {o : HO} (n : New H b) (h : H a = some o) : a ≠ b := ne_of_none h n.eq
theorem Md.seqL {K : PySem.W.Frag} {H H1 : Hp} {a : Addr} {xs : List V} (m : Md [] H H1) (h : SqL K H a xs) : SqL K H1 a xs := m.same.seq h
/-! ### tests -/
theorem ifd {p A B : Prop} [Decidable p] (h1 : p → A) (h2 : ¬ p → B) : if decide p = true then A else B := by
  by_cases h : p
  · rw [decide_eq_true h]; exact iteT (h1 h)
  · rw [decide_eq_false h]; exact iteF (h2 h)
theorem ifdn {p A B : Prop} [Decidable p] (h1 : ¬ p → A) (h2 : p → B) : if (!decide p) = true then A else B := by
  by_cases h : p
  · rw [decide_eq_true h]; exact iteF (h2 h)
  · rw [decide_eq_false h]; exact iteT (h1 h)
theorem ifdT {p A B : Prop} [Decidable p] (h : p) (h1 : A) : if decide p = true then A else B := by
  rw [decide_eq_true h]; exact iteT h1
theorem ifdF {p A B : Prop} [Decidable p] (h : ¬ p) (h1 : B) : if decide p = true then A else B := by
  rw [decide_eq_false h]; exact iteF h1
theorem ifdnT {p A B : Prop} [Decidable p] (h : ¬ p) (h1 : A) : if (!decide p) = true then A else B := by
  rw [decide_eq_false h]; exact iteT h1
theorem ifdnF {p A B : Prop} [Decidable p] (h : p) (h1 : B) : if (!decide p) = true then A else B := by
  rw [decide_eq_true h]; exact iteF h1
theorem atI_of {xs : List V} {i : Int} {v : V} (h0 : 0 ≤ i) (h : xs[i.toNat]? = some v) : atI xs i = some v := by
  have e : i = ((i.toNat : Nat) : Int) := by omega
  rw [e]
  exact atI_nat h
end LF

/-! LF3: operators by what the values are. -/
namespace LF
open PySem PySem.Spec PyProof.Rows L2
theorem newI {H : Hp} {P : Addr → Prop} (h : ∀ p, New H p → P p) : ∀ p, H p = none → P p := fun p e => h p ⟨e⟩
section
variable {X : Cx}
/-- == -/
def rEqU (K : PySem.W.Frag) : R2 := fun x y H Q => match x, y with
  | .int i, .int j => Q (.bl (decide (i = j))) H
  | .str i, .str j => Q (.bl (decide (i = j))) H
  | .bl i, .bl j => Q (.bl (decide (i = j))) H
  | .non, .non => Q (.bl true) H
  | .non, .int _ => Q (.bl false) H
  | .int _, .non => Q (.bl false) H
  | .non, .str _ => Q (.bl false) H
  | .str _, .non => Q (.bl false) H
  | .ref a, .ref b => rEqD K (.ref a) (.ref b) H Q
  | x, y => rEq x y H Q ∨ rEqD K x y H Q
def rNeU (K : PySem.W.Frag) : R2 := fun x y H Q => match x, y with
  | .int i, .int j => Q (.bl (!decide (i = j))) H
  | .str i, .str j => Q (.bl (!decide (i = j))) H
  | .bl i, .bl j => Q (.bl (!decide (i = j))) H
  | .non, .non => Q (.bl false) H
  | .non, .int _ => Q (.bl true) H
  | .int _, .non => Q (.bl true) H
  | .non, .str _ => Q (.bl true) H
  | .str _, .non => Q (.bl true) H
  | .ref a, .ref b => rNeD K (.ref a) (.ref b) H Q
  | x, y => rNe x y H Q ∨ rNeD K x y H Q
theorem d_int {i j : Int} : decide (V.int i = V.int j) = decide (i = j) := by
  by_cases h : i = j <;> simp [h]
theorem d_str {i j : Str} : decide (V.str i = V.str j) = decide (i = j) := by
  by_cases h : i = j <;> simp [h]
theorem d_bl {i j : Bool} : decide (V.bl i = V.bl j) = decide (i = j) := by
  by_cases h : i = j <;> simp [h]
theorem rEqU_to {K : PySem.W.Frag} {x y : V} {H : Hp} {Q : VK} (h : rEqU K x y H Q) : rEq x y H Q ∨ rEqD K x y H Q := by
  unfold rEqU at h
  split at h
  · exact .inl ⟨rfl, by rw [d_int]; exact h⟩
  · exact .inl ⟨rfl, by rw [d_str]; exact h⟩
  · exact .inl ⟨rfl, by rw [d_bl]; exact h⟩
  · exact .inl ⟨rfl, by simpa using h⟩
  · exact .inl ⟨rfl, by simpa using h⟩
  · exact .inl ⟨rfl, by simpa using h⟩
  · exact .inl ⟨rfl, by simpa using h⟩
  · exact .inl ⟨rfl, by simpa using h⟩
  · exact .inr h
  · exact h
theorem rNeU_to {K : PySem.W.Frag} {x y : V} {H : Hp} {Q : VK} (h : rNeU K x y H Q) : rNe x y H Q ∨ rNeD K x y H Q := by
  unfold rNeU at h
  split at h
  · exact .inl ⟨rfl, by rw [d_int]; exact h⟩
  · exact .inl ⟨rfl, by rw [d_str]; exact h⟩
  · exact .inl ⟨rfl, by rw [d_bl]; exact h⟩
  · exact .inl ⟨rfl, by simpa using h⟩
  · exact .inl ⟨rfl, by simpa using h⟩
  · exact .inl ⟨rfl, by simpa using h⟩
  · exact .inl ⟨rfl, by simpa using h⟩
  · exact .inl ⟨rfl, by simpa using h⟩
  · exact .inr h
  · exact h
theorem OpR.imp {f : Value → Value → Sem Value} {r r' : R2} (h : OpR X f r) (i : ∀ x y H Q, r' x y H Q → r x y H Q) : OpR X f r' := fun pins s σ H x y v u Q I rx ry q => h pins s σ H x y v u Q I rx ry (i _ _ _ _ q)
theorem u_eq (hu : X.A.units + 64 < cLine) : OpR X (compareOp .Eq) (rEqU X.K) := OpR.imp (OpR.or op_eq (op_eqD hu)) fun _ _ _ _ h => rEqU_to h
theorem u_ne (hu : X.A.units + 64 < cLine) : OpR X (compareOp .NotEq) (rNeU X.K) := OpR.imp (OpR.or op_ne (op_neD hu)) fun _ _ _ _ h => rNeU_to h
/-- + -/
def rAddU (K : PySem.W.Frag) : R2 := fun x y H Q => match x, y with
  | .int i, .int j => Q (.int (i + j)) H
  | .str i, .str j => i.length + j.length ≤ sizeLine ∧ Q (.str (i ++ j)) H
  | .ref a, .ref b => rCat (.ref a) (.ref b) H Q ∨ rCatA K (.ref a) (.ref b) H Q
  | _, _ => False
theorem u_add : OpR X (binaryOp .Add) (rAddU X.K) := by
  refine OpR.imp (OpR.or op_add (OpR.or op_add_str (OpR.or op_cat op_catA))) fun x y H Q h => ?_
  unfold rAddU at h
  split at h
  · exact .inl ⟨_, _, rfl, rfl, h⟩
  · exact .inr (.inl ⟨_, _, rfl, rfl, h.1, h.2⟩)
  · exact .inr (.inr h)
  · exact h.elim
/-- *, of bounded bits -/
def rMulU : R2 := fun x y H Q => match x, y with
  | .int i, .int j => (CMulW i j ∨ CMul i j) ∧ Q (.int (i * j)) H
  | .ref a, .int j => rRep (.ref a) (.int j) H Q
  | _, _ => False
theorem u_mul : OpR X (binaryOp .Mult) rMulU := by
  refine OpR.imp (OpR.or (OpR.or op_mulW op_mul) op_rep) fun x y H Q h => ?_
  unfold rMulU at h
  split at h
  · rcases h.1 with z | z
    · exact .inl (.inl ⟨_, _, rfl, rfl, z, h.2⟩)
    · exact .inl (.inr ⟨_, _, rfl, rfl, z, h.2⟩)
  · exact .inr h
  · exact h.elim
/-- // by a positive one -/
def rDivU : R2 := fun x y H Q => match x, y with
  | .int i, .int j => (CDiv i j ∨ CDivW i j) ∧ Q (.int (i / j)) H
  | _, _ => False
theorem u_div : OpR X (binaryOp .FloorDiv) rDivU := by
  refine OpR.imp (OpR.or op_fdiv op_fdivW) fun x y H Q h => ?_
  unfold rDivU at h
  split at h
  · rcases h.1 with z | z
    · exact .inl ⟨_, _, rfl, rfl, z, h.2⟩
    · exact .inr ⟨_, _, rfl, rfl, z, h.2⟩
  · exact h.elim
end
end LF
namespace LF
open PySem PySem.Spec PyProof.Rows L2
theorem atI_ints {ns : List Int} {i n : Int} (h0 : 0 ≤ i) (h : ns[i.toNat]? = some n) : atI (ns.map V.int) i = some (.int n) := atI_of h0 (by rw [List.getElem?_map, h]; rfl)
theorem ixN_of {n : Nat} {i : Int} (h0 : 0 ≤ i) (h : i < n) : ixN n i = some i.toNat := by
  unfold ixN
  first
    | (simp [h0, h]; done)
    | (split <;> first | rfl | omega | (simp_all; omega))
theorem Md.seqT {K : PySem.W.Frag} {H H1 : Hp} {a : Addr} {xs : List V} (m : Md [] H H1) (h : SqT K H a xs) : SqT K H1 a xs := by
  rcases h with (h | ⟨o, h⟩) | h
  · exact .inl (.inl (m.at0 h))
  · exact .inl (.inr ⟨o, m.at0 h⟩)
  · exact .inr h
end LF
namespace LF
open PySem PySem.Spec PyProof.Rows L2
theorem Md.new_ {L : List Addr} {H H1 : Hp} {b : Addr} {o : HO} (m : Md L H H1) (n : New H1 b) : Md L H (upd H1 b o) := m.trans (Md.upd_new n.eq)
theorem Md.in_ {L : List Addr} {H H1 : Hp} {b : Addr} {o : HO} (m : Md L H H1) (h : b ∈ L) : Md L H (upd H1 b o) := m.trans (Md.upd_in h)
/-- a cell that was new ahead may be changed -/
theorem Md.fresh_ {L : List Addr} {H H1 : Hp} {b : Addr} {o : HO} (m : Md L H H1) (n : New H b) : Md L H (upd H1 b o) := ⟨fun c u nc e => by
  rw [upd_ne (ne_of_none e n.eq)]
  exact m.kp c u nc e, fun c h => m.up c (upd_up h)⟩
theorem New.of_upd {H : Hp} {a b : Addr} {o : HO} (n : New (upd H a o) b) : New H b := by
  obtain ⟨e⟩ := n
  by_cases h : b = a
  · rw [h, upd_same] at e; cases e
  · rw [upd_ne h] at e; exact ⟨e⟩
theorem New.of_md {H H1 : Hp} {L : List Addr} {b : Addr} (n : New H1 b) (m : Md L H H1) : New H b := ⟨m.up b n.eq⟩
theorem New.of_md0 {H H1 : Hp} {b : Addr} (n : New H1 b) (m : Md [] H H1) : New H b := n.of_md m
/-- the later heap holds all that the earlier one held -/
structure Gr (H H' : Hp) : Prop where
  up : ∀ b, H' b = none → H b = none
theorem Gr.refl {H : Hp} : Gr H H := ⟨fun _ h => h⟩
theorem Gr.stp {L : List Addr} {H H1 H2 : Hp} (m : Md L H1 H2) (g : Gr H H1) : Gr H H2 := ⟨fun b h => g.up b (m.up b h)⟩
theorem New.gr {H H1 : Hp} {b : Addr} (n : New H1 b) (g : Gr H H1) : New H b := ⟨g.up b n.eq⟩
theorem ne_old {H H1 : Hp} {a b : Addr} {o : HO} (h : H a = some o) (n : New H1 b) (g : Gr H H1) : a ≠ b := ne_of_none h (g.up b n.eq)
/-- what stands at a stays -/
structure Ma (a : Addr) (H H' : Hp) : Prop where
  at_ : ∀ o, H a = some o → H' a = some o
theorem Ma.refl {a : Addr} {H : Hp} : Ma a H H := ⟨fun _ h => h⟩
theorem Ma.stp {a : Addr} {L : List Addr} {H H1 H2 : Hp} (m : Md L H1 H2) (n : a ∉ L) (k : Ma a H H1) : Ma a H H2 := ⟨fun o h => m.kp a o n (k.at_ o h)⟩
theorem ma_at {a : Addr} {H H' : Hp} {o : HO} (h : H a = some o) (k : Ma a H H') : H' a = some o := k.at_ o h
theorem New.ne {H : Hp} {a b : Addr} (n : New H b) {o : HO} (h : H a = some o) : b ≠ a := (ne_new n h).symm
end LF

namespace LF
open PySem PySem.Spec PyProof.Rows L2
theorem Md.then0 {L : List Addr} {H H1 H2 : Hp} (a : Md [] H H1) (b : Md L H1 H2) : Md L H H2 := a.to0.trans b
theorem Md.thenL {L : List Addr} {H H1 H2 : Hp} (a : Md L H H1) (b : Md [] H1 H2) : Md L H H2 := a.trans b.to0
/-- one more step at the end of a chain -/
theorem Md.stp {L L' : List Addr} {H H1 H2 : Hp} (b : Md L' H1 H2) (s : ∀ x ∈ L', x ∈ L ∨ New H x) (a : Md L H H1) : Md L H H2 := by
  refine ⟨fun c o n h => ?_, fun c h => a.up c (b.up c h)⟩
  refine b.kp c o (fun z => ?_) (a.kp c o n h)
  rcases s c z with q | q
  · exact n q
  · rw [q.eq] at h; cases h
theorem sub0 {P : Addr → Prop} : ∀ x ∈ ([] : List Addr), P x := fun _ h => by cases h
theorem sub1 {P : Addr → Prop} {a : Addr} (h : P a) : ∀ x ∈ [a], P x := fun x hx => by
  cases hx with
  | head => exact h
  | tail _ h => cases h
theorem subC {P : Addr → Prop} {a : Addr} {l : List Addr} (h : P a) (t : ∀ x ∈ l, P x) : ∀ x ∈ a :: l, P x := fun x hx => by
  cases hx with
  | head => exact h
  | tail _ h => exact t x h
theorem nin0 {a : Addr} : a ∉ ([] : List Addr) := fun h => by cases h
theorem ninC {a b : Addr} {l : List Addr} (h : a ≠ b) (t : a ∉ l) : a ∉ b :: l := fun q => by
  cases q with
  | head => exact h rfl
  | tail _ q => exact t q
/-- an allotted cell: the heap behind, as a name -/
theorem al_of {H H' : Hp} {p : Addr} {o : HO} (e : upd H p o = H') (n : New H p) : H' p = some o ∧ Md [] H H' := by
  subst e
  exact ⟨upd_same, Md.upd_new n.eq⟩
theorem mu_of {H H' : Hp} {p : Addr} {o : HO} (e : upd H p o = H') : H' p = some o ∧ Md [p] H H' := by
  subst e
  exact ⟨upd_same, Md.upd_old⟩
theorem New.up {H H1 : Hp} {b : Addr} (m : Md [] H H1) (n : New H1 b) : New H b := n.of_md0 m
theorem Md.seqLm {K : PySem.W.Frag} {H H1 : Hp} {a : Addr} {xs : List V} (h : SqL K H a xs) (m : Md [] H H1) : SqL K H1 a xs := m.seqL h
theorem Md.seqTm {K : PySem.W.Frag} {H H1 : Hp} {a : Addr} {xs : List V} (h : SqT K H a xs) (m : Md [] H H1) : SqT K H1 a xs := m.seqT h
def hoK : HO → Nat
  | .lst _ => 0
  | .tup _ => 1
  | .ins _ _ _ => 2
  | .dK _ => 3
  | .own _ => 4
  | _ => 5
theorem ne_kind {H : Hp} {a b : Addr} {o u : HO} (h : H a = some o) (h' : H b = some u) (k : (hoK o == hoK u) = false) : a ≠ b := ne_of h h' fun e => by
  rw [e, beq_self_eq_true] at k
  cases k
theorem mkI {H : Hp} {P : Addr → Addr → Prop} (h : ∀ x dx, H x = none → H dx = none → dx ≠ x → P x dx) : ∀ x dx, H x = none → H dx = none → dx ≠ x → P x dx := h
theorem Md.seqLn {K : PySem.W.Frag} {L : List Addr} {H H1 : Hp} {a : Addr} {xs : List V} (m : Md L H H1) (n : a ∉ L) (h : SqL K H a xs) : SqL K H1 a xs := by
  rcases h with (h | ⟨o, h⟩) | h
  · exact .inl (.inl (m.at_ n h))
  · exact .inl (.inr ⟨o, m.at_ n h⟩)
  · exact .inr h
theorem Md.seqTn {K : PySem.W.Frag} {L : List Addr} {H H1 : Hp} {a : Addr} {xs : List V} (m : Md L H H1) (n : a ∉ L) (h : SqT K H a xs) : SqT K H1 a xs := by
  rcases h with (h | ⟨o, h⟩) | h
  · exact .inl (.inl (m.at_ n h))
  · exact .inl (.inr ⟨o, m.at_ n h⟩)
  · exact .inr h
end LF

/-! LF4: data by values. -/
namespace LF
open PySem PySem.Spec PyProof.Rows L2
theorem kb_int_int : kitB "int" "int" = some true := by decide +kernel
theorem kb_int_bool : kitB "int" "bool" = some false := by decide +kernel
theorem kb_int_str : kitB "int" "str" = some false := by decide +kernel
theorem kb_int_list : kitB "int" "list" = some false := by decide +kernel
theorem kb_int_tuple : kitB "int" "tuple" = some false := by decide +kernel
theorem kb_int_dict : kitB "int" "dict" = some false := by decide +kernel
theorem kb_int_none : kitB "int" "NoneType" = some false := by decide +kernel
theorem kb_bool_int : kitB "bool" "int" = some true := by decide +kernel
theorem kb_bool_bool : kitB "bool" "bool" = some true := by decide +kernel
theorem kb_bool_str : kitB "bool" "str" = some false := by decide +kernel
theorem kb_bool_list : kitB "bool" "list" = some false := by decide +kernel
theorem kb_bool_tuple : kitB "bool" "tuple" = some false := by decide +kernel
theorem kb_bool_dict : kitB "bool" "dict" = some false := by decide +kernel
theorem kb_bool_none : kitB "bool" "NoneType" = some false := by decide +kernel
theorem kb_str_int : kitB "str" "int" = some false := by decide +kernel
theorem kb_str_bool : kitB "str" "bool" = some false := by decide +kernel
theorem kb_str_str : kitB "str" "str" = some true := by decide +kernel
theorem kb_str_list : kitB "str" "list" = some false := by decide +kernel
theorem kb_str_tuple : kitB "str" "tuple" = some false := by decide +kernel
theorem kb_str_dict : kitB "str" "dict" = some false := by decide +kernel
theorem kb_str_none : kitB "str" "NoneType" = some false := by decide +kernel
theorem kb_list_int : kitB "list" "int" = some false := by decide +kernel
theorem kb_list_bool : kitB "list" "bool" = some false := by decide +kernel
theorem kb_list_str : kitB "list" "str" = some false := by decide +kernel
theorem kb_list_list : kitB "list" "list" = some true := by decide +kernel
theorem kb_list_tuple : kitB "list" "tuple" = some false := by decide +kernel
theorem kb_list_dict : kitB "list" "dict" = some false := by decide +kernel
theorem kb_list_none : kitB "list" "NoneType" = some false := by decide +kernel
theorem kb_tuple_int : kitB "tuple" "int" = some false := by decide +kernel
theorem kb_tuple_bool : kitB "tuple" "bool" = some false := by decide +kernel
theorem kb_tuple_str : kitB "tuple" "str" = some false := by decide +kernel
theorem kb_tuple_list : kitB "tuple" "list" = some false := by decide +kernel
theorem kb_tuple_tuple : kitB "tuple" "tuple" = some true := by decide +kernel
theorem kb_tuple_dict : kitB "tuple" "dict" = some false := by decide +kernel
theorem kb_tuple_none : kitB "tuple" "NoneType" = some false := by decide +kernel
theorem kb_dict_int : kitB "dict" "int" = some false := by decide +kernel
theorem kb_dict_bool : kitB "dict" "bool" = some false := by decide +kernel
theorem kb_dict_str : kitB "dict" "str" = some false := by decide +kernel
theorem kb_dict_list : kitB "dict" "list" = some false := by decide +kernel
theorem kb_dict_tuple : kitB "dict" "tuple" = some false := by decide +kernel
theorem kb_dict_dict : kitB "dict" "dict" = some true := by decide +kernel
theorem kb_dict_none : kitB "dict" "NoneType" = some false := by decide +kernel
theorem kb_none_int : kitB "NoneType" "int" = some false := by decide +kernel
theorem kb_none_bool : kitB "NoneType" "bool" = some false := by decide +kernel
theorem kb_none_str : kitB "NoneType" "str" = some false := by decide +kernel
theorem kb_none_list : kitB "NoneType" "list" = some false := by decide +kernel
theorem kb_none_tuple : kitB "NoneType" "tuple" = some false := by decide +kernel
theorem kb_none_dict : kitB "NoneType" "dict" = some false := by decide +kernel
theorem kb_none_none : kitB "NoneType" "NoneType" = some true := by decide +kernel
theorem flat_ints (ns : List Int) : (ns.map V.int).all flatV = true := by
  induction ns with
  | nil => rfl
  | cons a l ih => rw [List.map_cons, List.all_cons, ih]; rfl
theorem inV_ints {i : Int} {ns : List Int} : inV (.int i) (ns.map V.int) = decide (i ∈ ns) := by
  unfold inV
  induction ns with
  | nil => rfl
  | cons a l ih =>
    rw [List.map_cons, List.any_cons, ih]
    by_cases h : i = a
    · subst h; simp [eqV]
    · have h' : ¬ a = i := fun e => h e.symm
      simp [eqV, h, h']
def cellAt (ns : List Int) (i : Int) : Int := ns.getD i.toNat 0
theorem get_ex {α : Type} {xs : List α} {i : Nat} (h : i < xs.length) : ∃ n, xs[((0 : Int) + i).toNat]? = some n ∧ xs[i]? = some n := by
  refine ⟨xs[i], ?_, List.getElem?_eq_getElem h⟩
  rw [show ((0 : Int) + i).toNat = i by omega]
  exact List.getElem?_eq_getElem h
theorem int_len {α : Type} {xs : List α} : ((xs.length : Nat) : Int).toNat = xs.length := by omega
theorem len_mi {ns : List Int} : (ns.map V.int).length = ns.length := List.length_map _
theorem int_nat {n : Nat} : ((n : Nat) : Int).toNat = n := by omega
theorem rep_ints {n : Nat} {z : Int} : (List.replicate n [V.int z]).flatten = (List.replicate n z).map V.int := by
  induction n with
  | zero => rfl
  | succ n ih => rw [List.replicate_succ, List.flatten_cons, ih]; rfl
theorem eqT {K : PySem.W.Frag} {i j : Int} {H : Hp} {Q : VK} (e : i = j) (h : Q (.bl true) H) : rEqU K (.int i) (.int j) H Q := by
  show Q (.bl (decide (i = j))) H
  rw [decide_eq_true e]; exact h
theorem qT {b : Bool} {H : Hp} {Q : VK} (e : b = true) (h : Q (.bl true) H) : Q (.bl b) H := by rw [e]; exact h
theorem mod_get {xs : List Int} (c : Int) (h : 0 < xs.length) : ∃ u, xs[(c % (xs.length : Int)).toNat]? = some u ∧ u ∈ xs ∧ 0 ≤ c % (xs.length : Int) ∧ c % (xs.length : Int) < xs.length := by
  have a := Int.emod_nonneg c (show (xs.length : Int) ≠ 0 by omega)
  have b := Int.emod_lt_of_pos c (show (0 : Int) < xs.length by omega)
  have hh : (c % (xs.length : Int)).toNat < xs.length := by omega
  exact ⟨xs[(c % (xs.length : Int)).toNat], List.getElem?_eq_getElem hh, List.getElem_mem hh, a, b⟩
/-! ### plain data -/
inductive Dat where
  | non
  | int (i : Int)
  | str (x : Str)
  | lst (xs : List Dat)
  | tup (xs : List Dat)
noncomputable instance : DecidableEq Dat := fun a b => Classical.propDecidable (a = b)
mutual
def Dat.py : Dat → PyData
  | .non => .none
  | .int i => .int i
  | .str x => .str x
  | .lst xs => .list (Dat.pys xs)
  | .tup xs => .tuple (Dat.pys xs)
def Dat.pys : List Dat → List PyData
  | [] => []
  | x :: xs => x.py :: Dat.pys xs
end
mutual
theorem Dat.eqv_py : ∀ a b : Dat, PyData.eqv a.py b.py = true ↔ a = b
  | .non, b => by cases b <;> simp [Dat.py, PyData.eqv]
  | .int i, b => by cases b <;> simp [Dat.py, PyData.eqv]
  | .str i, b => by cases b <;> simp [Dat.py, PyData.eqv]
  | .lst xs, b => by
    cases b with
    | lst ys => rw [Dat.py, Dat.py, PyData.eqv, Dat.eqv_pys xs ys]; simp
    | _ => simp [Dat.py, PyData.eqv]
  | .tup xs, b => by
    cases b with
    | tup ys => rw [Dat.py, Dat.py, PyData.eqv, Dat.eqv_pys xs ys]; simp
    | _ => simp [Dat.py, PyData.eqv]
theorem Dat.eqv_pys : ∀ a b : List Dat, PyData.eqvAll (Dat.pys a) (Dat.pys b) = true ↔ a = b
  | [], [] => by simp [Dat.pys, PyData.eqvAll]
  | [], _ :: _ => by simp [Dat.pys, PyData.eqvAll]
  | _ :: _, [] => by simp [Dat.pys, PyData.eqvAll]
  | x :: xs, y :: ys => by
    rw [Dat.pys, Dat.pys, PyData.eqvAll, Bool.and_eq_true, Dat.eqv_py x y, Dat.eqv_pys xs ys]
    simp
end
theorem Dat.eqv_dec {a b : Dat} : PyData.eqv a.py b.py = decide (a = b) := by
  by_cases h : a = b
  · rw [decide_eq_true h]; exact (Dat.eqv_py a b).mpr h
  · rw [decide_eq_false h]
    cases e : PyData.eqv a.py b.py with
    | false => rfl
    | true => exact (h ((Dat.eqv_py a b).mp e)).elim
mutual
/-- no deeper than n, its texts of a right length -/
def Dat.okn : Nat → Dat → Prop
  | _, .non => True
  | _, .int _ => True
  | _, .str x => PyData.strOk x = true
  | 0, .lst _ => False
  | 0, .tup _ => False
  | n + 1, .lst xs => Dat.okns n xs
  | n + 1, .tup xs => Dat.okns n xs
def Dat.okns : Nat → List Dat → Prop
  | _, [] => True
  | n, x :: xs => Dat.okn n x ∧ Dat.okns n xs
end
mutual
theorem Dat.sh : ∀ (n : Nat) (d : Dat), Dat.okn n d → d.py.canLay0 = true ∧ d.py.depth ≤ n
  | _, .non, _ => ⟨by simp [Dat.py, PyData.canLay0], by simp [Dat.py, PyData.depth]⟩
  | _, .int _, _ => ⟨by simp [Dat.py, PyData.canLay0], by simp [Dat.py, PyData.depth]⟩
  | _, .str x, h => ⟨by rw [Dat.okn] at h; simp [Dat.py, PyData.canLay0, h], by simp [Dat.py, PyData.depth]⟩
  | 0, .lst _, h => by simp [Dat.okn] at h
  | 0, .tup _, h => by simp [Dat.okn] at h
  | n + 1, .lst xs, h => by
    rw [Dat.okn] at h
    obtain ⟨a, b⟩ := Dat.shs n xs h
    exact ⟨by rw [Dat.py, PyData.canLay0]; exact a, by rw [Dat.py, PyData.depth]; omega⟩
  | n + 1, .tup xs, h => by
    rw [Dat.okn] at h
    obtain ⟨a, b⟩ := Dat.shs n xs h
    exact ⟨by rw [Dat.py, PyData.canLay0]; exact a, by rw [Dat.py, PyData.depth]; omega⟩
theorem Dat.shs : ∀ (n : Nat) (d : List Dat), Dat.okns n d → PyData.canLayAll0 (Dat.pys d) = true ∧ PyData.depthAll (Dat.pys d) ≤ n
  | _, [], _ => ⟨by simp [Dat.pys, PyData.canLayAll0], by simp [Dat.pys, PyData.depthAll]⟩
  | n, x :: xs, h => by
    rw [Dat.okns] at h
    obtain ⟨a, b⟩ := Dat.sh n x h.1
    obtain ⟨c, e⟩ := Dat.shs n xs h.2
    exact ⟨by rw [Dat.pys, PyData.canLayAll0, a, c]; rfl, by rw [Dat.pys, PyData.depthAll]; omega⟩
end
theorem Dat.shaped {d : Dat} {n : Nat} (h : Dat.okn n d) (hn : n ≤ 64 := by decide) : SeqAt.shaped d.py = true := by
  obtain ⟨a, b⟩ := Dat.sh n d h
  unfold SeqAt.shaped
  rw [a, decide_eq_true (Nat.le_trans b hn)]
  rfl
theorem Dat.okns_all {n : Nat} : ∀ {ds : List Dat}, (∀ d ∈ ds, Dat.okn n d) → Dat.okns n ds
  | [], _ => by rw [Dat.okns]; trivial
  | d :: ds, h => by
    rw [Dat.okns]
    exact ⟨h d (List.mem_cons_self ..), Dat.okns_all fun e he => h e (List.mem_cons_of_mem _ he)⟩
abbrev Dat.ints (ns : List Int) : Dat := .lst (ns.map .int)
abbrev Dat.tints (ns : List Int) : Dat := .tup (ns.map .int)
theorem Dat.okns_ints {n : Nat} {ns : List Int} : Dat.okns n (ns.map .int) := Dat.okns_all fun d h => by
  obtain ⟨i, _, rfl⟩ := List.mem_map.mp h
  cases n <;> simp [Dat.okn]
theorem Dat.okn_ints {ns : List Int} : Dat.okn 1 (.ints ns) := by rw [Dat.ints, Dat.okn]; exact Dat.okns_ints
theorem Dat.okn_tints {ns : List Int} : Dat.okn 1 (.tints ns) := by rw [Dat.tints, Dat.okn]; exact Dat.okns_ints
theorem Dat.int_inj {ns ms : List Int} : ns.map Dat.int = ms.map Dat.int ↔ ns = ms := by
  constructor
  · intro h
    exact (List.map_inj_right (fun a b e => by cases e; rfl)).mp h
  · intro h; rw [h]
theorem Dat.ints_inj {ns ms : List Int} : Dat.ints ns = Dat.ints ms ↔ ns = ms := by
  constructor
  · intro h; exact Dat.int_inj.mp (by injection h)
  · intro h; rw [h]
theorem Dat.tints_inj {ns ms : List Int} : Dat.tints ns = Dat.tints ms ↔ ns = ms := by
  constructor
  · intro h; exact Dat.int_inj.mp (by injection h)
  · intro h; rw [h]
section
variable {K : PySem.W.Frag} {H H' : Hp}
abbrev Dk (K : PySem.W.Frag) (H : Hp) (v : V) (d : Dat) : Prop := Dp K H v d.py
abbrev Dks (K : PySem.W.Frag) (H : Hp) (vs : List V) (ds : List Dat) : Prop := DpAll K H vs (Dat.pys ds)
theorem Dk.non : Dk K H .non .non := by unfold Dk; rw [Dat.py]; exact .non
theorem Dk.int {i : Int} : Dk K H (.int i) (.int i) := by unfold Dk; rw [Dat.py]; exact .int i
theorem Dk.str {x : Str} : Dk K H (.str x) (.str x) := by unfold Dk; rw [Dat.py]; exact .str x
theorem Dk.lst {a : Addr} {vs : List V} {ds : List Dat} (h : SqL K H a vs) (t : Dks K H vs ds) : Dk K H (.ref a) (.lst ds) := by unfold Dk; rw [Dat.py]; exact .lst h t
theorem Dk.tup {a : Addr} {vs : List V} {ds : List Dat} (h : SqT K H a vs) (t : Dks K H vs ds) : Dk K H (.ref a) (.tup ds) := by unfold Dk; rw [Dat.py]; exact .tup h t
theorem Dks.nil : Dks K H [] [] := by unfold Dks; rw [Dat.pys]; exact .nil
theorem Dks.cons {v : V} {vs : List V} {d : Dat} {ds : List Dat} (h : Dk K H v d) (t : Dks K H vs ds) : Dks K H (v :: vs) (d :: ds) := by unfold Dks; rw [Dat.pys]; exact .cons h t
theorem Dks.ints {ns : List Int} : Dks K H (ns.map V.int) (ns.map .int) := by
  induction ns with
  | nil => exact .nil
  | cons a l ih => exact .cons .int ih
theorem Dk.ints {a : Addr} {ns : List Int} (h : SqL K H a (ns.map V.int)) : Dk K H (.ref a) (.ints ns) := .lst h .ints
theorem Dk.tints {a : Addr} {ns : List Int} (h : SqT K H a (ns.map V.int)) : Dk K H (.ref a) (.tints ns) := .tup h .ints
theorem Dks.append {vs ws : List V} {ds es : List Dat} (h : Dks K H vs ds) (t : Dks K H ws es) : Dks K H (vs ++ ws) (ds ++ es) := by
  induction ds generalizing vs with
  | nil => unfold Dks at h; rw [Dat.pys] at h; cases h; exact t
  | cons d ds ih =>
    unfold Dks at h
    rw [Dat.pys] at h
    cases h with
    | cons h1 h2 => exact .cons h1 (ih h2)
mutual
theorem Dp.md0 (m : Md [] H H') : ∀ (d : PyData) (v : V), Dp K H v d → Dp K H' v d
  | .none, _, h => by cases h; exact .non
  | .bool b, _, h => by cases h; exact .bl b
  | .int i, _, h => by cases h; exact .int i
  | .str x, _, h => by cases h; exact .str x
  | .list ds, _, h => by
    cases h with
    | lst hs ha => exact .lst (m.seqL hs) (DpAll.md0 m ds _ ha)
  | .tuple ds, _, h => by
    cases h with
    | tup hs ha => exact .tup (m.seqT hs) (DpAll.md0 m ds _ ha)
  | .dict _, _, h => by cases h
theorem DpAll.md0 (m : Md [] H H') : ∀ (ds : List PyData) (vs : List V), DpAll K H vs ds → DpAll K H' vs ds
  | [], _, h => by cases h; exact .nil
  | d :: ds, _, h => by
    cases h with
    | cons h1 h2 => exact .cons (Dp.md0 m d _ h1) (DpAll.md0 m ds _ h2)
end
theorem eq_dk {a b : Addr} {d e : Dat} {n m : Nat} {Q : VK} (ha : Dk K H (.ref a) d) (hb : Dk K H (.ref b) e) (on : Dat.okn n d) (om : Dat.okn m e) (hn : n ≤ 64) (hm : m ≤ 64) (h : Q (.bl (decide (d = e))) H) : rEqU K (.ref a) (.ref b) H Q :=
  show rEqD K (.ref a) (.ref b) H Q from ⟨_, _, ha, hb, Dat.shaped on hn, Dat.shaped om hm, by rw [Dat.eqv_dec]; exact h⟩
theorem ne_dk {a b : Addr} {d e : Dat} {n m : Nat} {Q : VK} (ha : Dk K H (.ref a) d) (hb : Dk K H (.ref b) e) (on : Dat.okn n d) (om : Dat.okn m e) (hn : n ≤ 64) (hm : m ≤ 64) (h : Q (.bl (!decide (d = e))) H) : rNeU K (.ref a) (.ref b) H Q :=
  show rNeD K (.ref a) (.ref b) H Q from ⟨_, _, ha, hb, Dat.shaped on hn, Dat.shaped om hm, by rw [Dat.eqv_dec]; exact h⟩
theorem dec_iff {p q : Prop} [Decidable p] [Decidable q] (h : p ↔ q) : decide p = decide q := by
  by_cases z : p
  · rw [decide_eq_true z, decide_eq_true (h.mp z)]
  · rw [decide_eq_false z, decide_eq_false (fun y => z (h.mpr y))]
theorem eq_ll {a b : Addr} {ns ms : List Int} {Q : VK} (ha : SqL K H a (ns.map V.int)) (hb : SqL K H b (ms.map V.int)) (h : Q (.bl (decide (ns = ms))) H) : rEqU K (.ref a) (.ref b) H Q :=
  eq_dk (.ints ha) (.ints hb) Dat.okn_ints Dat.okn_ints (by decide) (by decide) (by rw [dec_iff Dat.ints_inj]; exact h)
theorem ne_ll {a b : Addr} {ns ms : List Int} {Q : VK} (ha : SqL K H a (ns.map V.int)) (hb : SqL K H b (ms.map V.int)) (h : Q (.bl (!decide (ns = ms))) H) : rNeU K (.ref a) (.ref b) H Q :=
  ne_dk (.ints ha) (.ints hb) Dat.okn_ints Dat.okn_ints (by decide) (by decide) (by rw [dec_iff Dat.ints_inj]; exact h)
theorem eq_tt {a b : Addr} {ns ms : List Int} {Q : VK} (ha : SqT K H a (ns.map V.int)) (hb : SqT K H b (ms.map V.int)) (h : Q (.bl (decide (ns = ms))) H) : rEqU K (.ref a) (.ref b) H Q :=
  eq_dk (.tints ha) (.tints hb) Dat.okn_tints Dat.okn_tints (by decide) (by decide) (by rw [dec_iff Dat.tints_inj]; exact h)
theorem ne_tt {a b : Addr} {ns ms : List Int} {Q : VK} (ha : SqT K H a (ns.map V.int)) (hb : SqT K H b (ms.map V.int)) (h : Q (.bl (!decide (ns = ms))) H) : rNeU K (.ref a) (.ref b) H Q :=
  ne_dk (.tints ha) (.tints hb) Dat.okn_tints Dat.okn_tints (by decide) (by decide) (by rw [dec_iff Dat.tints_inj]; exact h)
theorem eq_ln {a b : Addr} {ns : List Int} {Q : VK} (ha : SqL K H a (ns.map V.int)) (hb : SqL K H b []) (h : Q (.bl (decide (ns = []))) H) : rEqU K (.ref a) (.ref b) H Q := eq_ll (ms := []) ha hb h
theorem ne_ln {a b : Addr} {ns : List Int} {Q : VK} (ha : SqL K H a (ns.map V.int)) (hb : SqL K H b []) (h : Q (.bl (!decide (ns = []))) H) : rNeU K (.ref a) (.ref b) H Q := ne_ll (ms := []) ha hb h
end
end LF

/-! LF5: rules over K. -/
namespace LF
open PySem PySem.Spec PyProof.Rows L2
section
variable {X : Cx}
theorem ixl (K : PySem.W.Frag) (h : X.K = K := by rfl) : IxR X (rIxL K) := by subst h; exact ix_list
theorem ixt (K : PySem.W.Frag) (h : X.K = K := by rfl) : IxR X (rIxT K) := by subst h; exact ix_tup
theorem ixu (K : PySem.W.Frag) (h : X.K = K := by rfl) : IxR X (rIx K) := by subst h; exact ix_seq
theorem ueq (K : PySem.W.Frag) (hu : X.A.units + 64 < cLine) (h : X.K = K := by rfl) : OpR X (compareOp .Eq) (rEqU K) := by subst h; exact u_eq hu
theorem une (K : PySem.W.Frag) (hu : X.A.units + 64 < cLine) (h : X.K = K := by rfl) : OpR X (compareOp .NotEq) (rNeU K) := by subst h; exact u_ne hu
theorem uadd (K : PySem.W.Frag) (h : X.K = K := by rfl) : OpR X (binaryOp .Add) (rAddU K) := by subst h; exact u_add
theorem uin (K : PySem.W.Frag) (h : X.K = K := by rfl) : OpR X (compareOp .In) (rIn K false) := by subst h; exact op_in_seq
theorem unotin (K : PySem.W.Frag) (h : X.K = K := by rfl) : OpR X (compareOp .NotIn) (rIn K true) := by subst h; exact op_notIn_seq
theorem clen (K : PySem.W.Frag) (h : X.K = K := by rfl) : CallR X (.builtin "len") (fun xs H Q => ∃ x n, xs = [x] ∧ LenV K x H n ∧ Q (.int n) H) := by subst h; exact call_len
theorem cisi (K : PySem.W.Frag) (h : X.K = K := by rfl) : CallR X (.builtin "isinstance") (rIsi K) := by subst h; exact call_isi
theorem cisiT (K : PySem.W.Frag) (h : X.K = K := by rfl) : CallR X (.builtin "isinstance") (rIsiT K) := by subst h; exact call_isiT
theorem csum (K : PySem.W.Frag) (hc : X.calm = true) (h : X.K = K := by rfl) : CallR X (.builtin "sum") (rSum K) := by subst h; exact cr_sum hc
theorem call' (K : PySem.W.Frag) (hc : X.calm = true) (h : X.K = K := by rfl) : CallR X (.builtin "all") (rAll K) := by subst h; exact cr_all hc
theorem cmax (K : PySem.W.Frag) (hc : X.calm = true) (h : X.K = K := by rfl) : CallR X (.builtin "max") (rMax K) := by subst h; exact cr_max hc
theorem cmin (K : PySem.W.Frag) (hc : X.calm = true) (h : X.K = K := by rfl) : CallR X (.builtin "min") (rMin K) := by subst h; exact cr_min hc
theorem csorted (K : PySem.W.Frag) (h : X.K = K := by rfl) : CallR X (.builtin "sorted") (rSorted K) := by subst h; exact cr_sorted
theorem csortedS (K : PySem.W.Frag) (h : X.K = K := by rfl) : CallR X (.builtin "sorted") (rSortedS K) := by subst h; exact cr_sortedS
theorem clist (K : PySem.W.Frag) (h : X.K = K := by rfl) : CallR X (.type "list") (fun xs H Q => ∃ p ys, xs = [.ref p] ∧ (SqL K H p ys ∨ SqT K H p ys) ∧ ∀ l, H l = none → Q (.ref l) (upd H l (.lst ys))) := by subst h; exact call_list_of
theorem ctuple (K : PySem.W.Frag) (h : X.K = K := by rfl) : CallR X (.type "tuple") (fun xs H Q => ∃ p ys, xs = [.ref p] ∧ ((SqL K H p ys ∧ ∀ l, H l = none → Q (.ref l) (upd H l (.tup ys))) ∨ (SqT K H p ys ∧ Q (.ref p) H))) := by subst h; exact call_tuple_of
theorem sll (K : PySem.W.Frag) (h : X.K = K := by rfl) : SlR X (rSlL K) := by subst h; exact sl_list
theorem slt (K : PySem.W.Frag) (h : X.K = K := by rfl) : SlR X (rSlA K) := by subst h; exact sl_tupA
theorem mindex (K : PySem.W.Frag) (h : X.K = K := by rfl) : MtR X "list.index" (rIndex K) := by subst h; exact mt_index
theorem mcount (K : PySem.W.Frag) (h : X.K = K := by rfl) : MtR X "list.count" (rCntI K) := by subst h; exact mt_lcount
theorem pfld (K : PySem.W.Frag) {e : Expr} {ta : TE} {f : Str} {pos : Pos} (he : PE X e ta) (hb : attributeBase e f X.env (eval e X.env) = eval e X.env) (h : X.K = K := by rfl) : PE X (.Attribute e f pos) (tFld K ta f) := by subst h; exact pe_fld he hb
theorem pml (K : PySem.W.Frag) {e : Expr} {C m : Str} {sp : Sp} {dvs : List V} {W : WX} {ta : TE} {t : TA} (p : PE X e (tMl (He.ga X.K C) m sp dvs W ta t)) (h : X.K = K := by rfl) : PE X e (tMl (He.ga K C) m sp dvs W ta t) := by subst h; exact p
theorem pbm (K : PySem.W.Frag) {e : Expr} {T : String} {r : V → List V → Hp → VK → Prop} {to : TE} {t : TA} (p : PE X e (tBM X.K T r to t)) (h : X.K = K := by rfl) : PE X e (tBM K T r to t) := by subst h; exact p
theorem pbm0 (K : PySem.W.Frag) {e : Expr} {T : String} {r : V → List V → Hp → VK → Prop} {to : TE} (p : PE X e (tBM0 X.K T r to)) (h : X.K = K := by rfl) : PE X e (tBM0 K T r to) := by subst h; exact p
/-- two ways that meet -/
def tCut (t u : TS) : TS := fun D σ H => ∃ J : L2.St → Hp → Prop, t { D with nx := J } σ H ∧ ∀ σ' H', J σ' H' → u D σ' H'
theorem pss_cut {st : Stmt} {rest : List Stmt} {t u : TS} (h1 : PS X st t) (h2 : PSs X rest u) : PSs X (st :: rest) (tCut t u) := by
  refine ⟨fun pins s σ H D I h => ?_⟩
  obtain ⟨J, h, hJ⟩ := h
  refine wpAny_execs_cons (thn (h1.run pins s σ H { D with nx := J } I h) fun f s1 q => ?_)
  cases f with
  | next =>
    obtain ⟨σ', H', I', q⟩ := q
    exact h2.run pins s1 σ' H' D I' (hJ _ _ q)
  | ret v => exact q
  | brk => exact q
  | cont => exact q
end
theorem cut {t u : TS} {D : Ends} {σ : L2.St} {H : Hp} (J : L2.St → Hp → Prop) (h1 : t { D with nx := J } σ H) (h2 : ∀ σ' H', J σ' H' → u D σ' H') : tCut t u D σ H := ⟨J, h1, h2⟩
/-- a fact that the steps do not look into -/
inductive Hold (p : Prop) : Prop where
  | mk (h : p)
  | no (h : False)
theorem Hold.out {p : Prop} (h : Hold p) : p := by
  cases h with
  | mk h => exact h
  | no h => exact h.elim
/-- an instance that was made -/
theorem mk_of {H H' : Hp} {C x dx : Addr} (hx : H x = none) (hdx : H dx = none) (e : upd (upd H dx (.own x)) x (.ins C dx []) = H') : New H x ∧ H' x = some (.ins C dx []) ∧ Md [] H H' := by
  subst e
  refine ⟨⟨hx⟩, upd_same, ⟨fun b o _ h => ?_, fun b h => upd_up (upd_up h)⟩⟩
  rw [upd_ne (ne_of_none h hx), upd_ne (ne_of_none h hdx)]
  exact h
/-! ### lists of lists of numbers, held -/
inductive Kept (H : Hp) (M : List Addr) : List Addr → List (List Int) → Prop where
  | nil : Kept H M [] []
  | cons {h : Addr} {hs : List Addr} {d : List Int} {ds : List (List Int)} (a : H h = some (.lst (d.map V.int))) (n : h ∉ M) (t : Kept H M hs ds) : Kept H M (h :: hs) (d :: ds)
section
variable {K : PySem.W.Frag} {H H' : Hp} {M L : List Addr} {hs cs : List Addr} {ds es : List (List Int)}
theorem Kept.md (k : Kept H M hs ds) (m : Md L H H') (s : ∀ x ∈ L, x ∈ M ∨ New H x) : Kept H' M hs ds := by
  induction k with
  | nil => exact .nil
  | cons a n t ih =>
    refine .cons (m.kp _ _ (fun z => ?_) a) n ih
    rcases s _ z with q | q
    · exact n q
    · rw [q.eq] at a; cases a
theorem Kept.st (m : Md L H H') (s : ∀ x ∈ L, x ∈ M ∨ New H x) (k : Kept H M hs ds) : Kept H' M hs ds := k.md m s
theorem Kept.push (k : Kept H M hs ds) {h : Addr} {d : List Int} (a : H h = some (.lst (d.map V.int))) (n : h ∉ M) : Kept H M (hs ++ [h]) (ds ++ [d]) := by
  induction k with
  | nil => exact .cons a n .nil
  | cons a' n' t ih => exact .cons a' n' ih
theorem Kept.dks (k : Kept H M hs ds) : Dks K H (hs.map V.ref) (ds.map Dat.ints) := by
  induction k with
  | nil => exact .nil
  | cons a n t ih => exact .cons (.ints (.of a)) ih
theorem Kept.len (k : Kept H M hs ds) : hs.length = ds.length := by
  induction k with
  | nil => rfl
  | cons a n t ih => simp [ih]
theorem Kept.get (k : Kept H M hs ds) {i : Nat} (h : i < hs.length) : ∃ d, ds[i]? = some d ∧ H hs[i] = some (.lst (d.map V.int)) := by
  induction k generalizing i with
  | nil => simp at h
  | cons a n t ih =>
    cases i with
    | zero => exact ⟨_, rfl, a⟩
    | succ i => exact ih (by simpa using h)
/-- lists, all outside of M -/
structure Lists (H : Hp) (M : List Addr) (hs : List Addr) : Prop where
  all : ∀ t ∈ hs, t ∉ M ∧ ∃ xs, H t = some (.lst xs)
theorem Kept.lists (k : Kept H M hs ds) : Lists H M hs := by
  induction k with
  | nil => exact ⟨fun _ h => by cases h⟩
  | cons a n t ih => exact ⟨fun x h => by
      rcases List.mem_cons.mp h with e | e
      · subst e; exact ⟨n, _, a⟩
      · exact ih.all x e⟩
theorem Lists.set (k : Lists H M hs) {t : Addr} {ys : List V} (m : Md [t] H H') (e : H' t = some (.lst ys)) : Lists H' M hs := ⟨fun x h => by
  obtain ⟨n, xs, q⟩ := k.all x h
  refine ⟨n, ?_⟩
  by_cases z : x = t
  · subst z; exact ⟨_, e⟩
  · exact ⟨_, m.at1 z q⟩⟩
theorem Lists.st (m : Md L H H') (s : ∀ x ∈ L, x ∈ M ∨ New H x) (k : Lists H M hs) : Lists H' M hs := ⟨fun x h => by
  obtain ⟨n, xs, q⟩ := k.all x h
  refine ⟨n, xs, m.kp _ _ (fun z => ?_) q⟩
  rcases s _ z with w | w
  · exact n w
  · rw [w.eq] at q; cases q⟩
theorem okn_kept {ds : List (List Int)} : Dat.okn 2 (.lst (ds.map Dat.ints)) := by
  rw [Dat.okn]
  refine Dat.okns_all fun d h => ?_
  obtain ⟨x, _, rfl⟩ := List.mem_map.mp h
  exact Dat.okn_ints
theorem kept_inj : Dat.lst (ds.map Dat.ints) = Dat.lst (es.map Dat.ints) ↔ ds = es := by
  constructor
  · intro h
    exact (List.map_inj_right (fun a b e => Dat.ints_inj.mp e)).mp (by injection h)
  · intro h; rw [h]
theorem ne_kept {a b : Addr} {Q : VK} {M' : List Addr} (ha : SqL K H a (hs.map V.ref)) (hb : SqL K H b (cs.map V.ref)) (k : Kept H M hs ds) (k' : Kept H M' cs es) (h : Q (.bl (!decide (ds = es))) H) : rNeU K (.ref a) (.ref b) H Q :=
  ne_dk (.lst ha k.dks) (.lst hb k'.dks) okn_kept okn_kept (by decide) (by decide) (by rw [dec_iff kept_inj]; exact h)
theorem eq_kept {a b : Addr} {Q : VK} {M' : List Addr} (ha : SqL K H a (hs.map V.ref)) (hb : SqL K H b (cs.map V.ref)) (k : Kept H M hs ds) (k' : Kept H M' cs es) (h : Q (.bl (decide (ds = es))) H) : rEqU K (.ref a) (.ref b) H Q :=
  eq_dk (.lst ha k.dks) (.lst hb k'.dks) okn_kept okn_kept (by decide) (by decide) (by rw [dec_iff kept_inj]; exact h)
end
/-! ### slices of numbers -/
def cutI (xs : List Int) (lo hi : Option Int) : List Int := (xs.drop (HT.sIx xs.length 0 lo)).take (HT.sIx xs.length xs.length hi - HT.sIx xs.length 0 lo)
theorem cutV_ints {ns : List Int} {lo hi : Option Int} : cutV (ns.map V.int) lo hi = (cutI ns lo hi).map V.int := by
  unfold cutV cutI
  rw [List.map_take, List.map_drop, List.length_map]
theorem map_push {α β : Type} {f : α → β} {xs : List α} {a : α} : xs.map f ++ [f a] = (xs ++ [a]).map f := by simp
theorem cutI_len {ns : List Int} {lo hi : Option Int} : (cutI ns lo hi).length ≤ ns.length := by
  unfold cutI
  rw [List.length_take, List.length_drop]
  omega
theorem ints_at {ns : List Int} {i : Nat} {v : V} (h : (ns.map V.int)[i]? = some v) : ∃ n, v = .int n ∧ ns[i]? = some n := by
  rw [List.getElem?_map] at h
  cases e : ns[i]? with
  | none => rw [e] at h; cases h
  | some n => rw [e] at h; cases h; exact ⟨n, rfl, rfl⟩
theorem refs_at {hs : List Addr} {i : Nat} {v : V} (h : (hs.map V.ref)[i]? = some v) : ∃ n, v = .ref n ∧ hs[i]? = some n := by
  rw [List.getElem?_map] at h
  cases e : hs[i]? with
  | none => rw [e] at h; cases h
  | some n => rw [e] at h; cases h; exact ⟨n, rfl, rfl⟩
theorem upd_old {H : Hp} {p a : Addr} {o x : HO} (n : H p = none) (h : H a = some o) : upd H p x a = some o := by
  rw [upd_ne (ne_of_none h n)]
  exact h
/-! ### comprehensions by index -/
/-- the list at D after i turns, each by f -/
structure PvV (H : Hp) (D : Addr) (f : Nat → Option V) (i : Nat) (H' : Hp) : Prop where
  at_ : H' D = some (.lst ((List.range i).filterMap f))
  md : Md [] H H'
theorem fm_succ {α : Type} {f : Nat → Option α} {i : Nat} : (List.range (i + 1)).filterMap f = (List.range i).filterMap f ++ (f i).toList := by
  rw [List.range_succ, List.filterMap_append]
  cases h : f i <;> simp [h]
theorem fm_len {α : Type} {f : Nat → Option α} {n : Nat} : ((List.range n).filterMap f).length ≤ n := by
  have := List.length_filterMap_le f (List.range n)
  simpa using this
theorem PvV.start {H : Hp} {D : Addr} {f : Nat → Option V} (n : H D = none) : PvV H D f 0 (upd H D (.lst [])) := ⟨upd_same, Md.upd_new n⟩
theorem PvV.next {H H' H4 : Hp} {D : Addr} {f : Nat → Option V} {i : Nat} {y : V} (n : H D = none) (pv : PvV H D f i H') (m : Md [] H' H4) (e : f i = some y) (hi : i < sizeLine) :
    ∃ acc, H4 D = some (.lst acc) ∧ acc.length < sizeLine ∧ PvV H D f (i + 1) (upd H4 D (.lst (acc ++ [y]))) := by
  refine ⟨_, m.at0 pv.at_, Nat.lt_of_le_of_lt fm_len hi, ?_, Md.fresh_ (pv.md.trans m) ⟨n⟩⟩
  rw [upd_same, fm_succ, e]
  rfl
theorem PvV.skip {H H' H4 : Hp} {D : Addr} {f : Nat → Option V} {i : Nat} (pv : PvV H D f i H') (m : Md [] H' H4) (e : f i = none) : PvV H D f (i + 1) H4 := by
  refine ⟨?_, pv.md.trans m⟩
  rw [m.at0 pv.at_, fm_succ, e]
  try simp
/-- the same of numbers -/
structure PvI (H : Hp) (D : Addr) (f : Nat → Option Int) (i : Nat) (H' : Hp) : Prop where
  at_ : H' D = some (.lst (((List.range i).filterMap f).map V.int))
  md : Md [] H H'
theorem PvI.start {H : Hp} {D : Addr} {f : Nat → Option Int} (n : New H D) : PvI H D f 0 (upd H D (.lst [])) := ⟨upd_same, Md.upd_new n.eq⟩
theorem PvI.next {H H' H4 : Hp} {D : Addr} {f : Nat → Option Int} {i : Nat} {y : Int} (n : New H D) (pv : PvI H D f i H') (m : Md [] H' H4) (e : f i = some y) (hi : i < 16777216) :
    ∃ acc, H4 D = some (.lst acc) ∧ acc.length < sizeLine ∧ PvI H D f (i + 1) (upd H4 D (.lst (acc ++ [.int y]))) := by
  refine ⟨_, m.at0 pv.at_, ?_, ?_, Md.fresh_ (pv.md.trans m) n⟩
  · rw [List.length_map, sizeLine_eq]
    exact Nat.lt_of_le_of_lt fm_len hi
  · rw [upd_same, fm_succ, e]
    simp
theorem PvI.skip {H H' H4 : Hp} {D : Addr} {f : Nat → Option Int} {i : Nat} (pv : PvI H D f i H') (m : Md [] H' H4) (e : f i = none) : PvI H D f (i + 1) H4 := by
  refine ⟨?_, pv.md.trans m⟩
  rw [m.at0 pv.at_, fm_succ, e]
  try simp
end LF

/-! LF6: a law's end. -/
namespace LF
open PySem PySem.Spec PyProof.Rows L2
/-- what a law is asked: at each script, True -/
def qLaw (K : PySem.W.Frag) (script : V) (H : Hp) (Q : VK) (_ : XK) : Prop := ∃ (a : Addr) (ns : List Int), script = .ref a ∧ SqL K H a (ns.map V.int) ∧ ns.length ≤ 63 ∧ (∀ k ∈ ns, Builtin.Int.intBits k ≤ 1048576) ∧ ∀ H', Q (.bl true) H'
section
variable {fa : List He.Fa} {fn : List He.DefD} {ex : PySem.W.Frag → Bool} {P : Program} {w : World} {K : PySem.W.Frag} {mg : Str → Option Value} {N : List Str} {k : Nat} {x : Str} {sp : Sp}
structure OkL (P : Program) (w : World) (K : PySem.W.Frag) (mg : Str → Option Value) (at_ : Str × Option Str) (x : Str) (k : Nat) (sp : Sp) : Prop where
  ex : ∃ fd : FuncData, (∀ (s : Shared) (u : Value), BindsTo s fd ⟨[u], []⟩ [(x, u)]) ∧ ∀ base : Heap, FnOk P w K mg base (L2.CX P w) k (He.fAd K at_) fd [x] sp
theorem okl_mk (T : Tx fa fn ex K mg) (i : Nat) {d : He.DefD} (hi : fn[i]? = some d) (S : FnScope N [x] d.scope) (h0 : d.dfl = []) (h1 : d.kwd = [])
    (hb : ∀ (kV doc pm : Value) (an : Option Addr) (cdv ct : Value) (us : List Value), us.length = [x].length → bindArgs (PySem.W.fnOf d.name d.qual d.params d.body d.scope .none kV doc pm an cdv ct) ⟨us, []⟩ = pure ([x].zip us))
    (len : ∀ vs H Q E, sp vs H Q E → vs.length = [x].length)
    (body : ∀ (base : Heap) (cdv : Value) (A : Around) (outer : List Env) (s : Shared) (H : Hp) (vs : List V) (Q : VK) (E : XK), Room k (A.deeper (envOfC d.qual d.scope s.heap.objs.size (He.fAd K d.at_) cdv)) → Takes (bodyX P w K mg base N d cdv A outer s H E) (fun cls dd _ H' => E cls dd H') → sp vs H Q E →
      ∃ t, PSs (bodyX P w K mg base N d cdv A outer s H E) d.body t ∧ t { nx := fun _ H' => Q .non H', rt := Q } (start N vs) H) : OkL P w K mg d.at_ x (k + 1) sp := by
  obtain ⟨fd, F⟩ := T.c.d.def_ i (d := d) hi
  have e1 : d.dvs K = [] := by unfold He.DefD.dvs; rw [h0]; rfl
  rw [e1] at F
  exact ⟨fd, fun s u => F.bindsA hb s [u] rfl, fun base => F.ok S len fun cdv A outer s H vs Q E hr h => body base cdv A outer s H vs Q E hr (takes_of rfl rfl rfl rfl) h⟩
end
theorem walk_end {l : PySem.W.OpenLaw} {k : Nat} {q : Program} {loose : List Str} {XP : (Str → Option Value) → Heap → Prop} {d : DefRec} {x : Str} {m : Nat} {fa : List He.Fa} {fn : List He.DefD} {ex : PySem.W.Frag → Bool}
    (hn : l.most = some 63) (hdf : d.params.defaults = []) (hr : Room k callerA) (i : Nat) (hi : fa[i]? = some (.glo d.name))
    (F : ∀ (w : World) (K : PySem.W.Frag) (mg : Str → Option Value), Tx fa fn ex K mg → OkL l.prog w K mg (d.name, none) x k (sp1 (qLaw K))) :
    PySem.W.WalkO q loose XP (hookB m fa fn ex).says l.row.toRowW d [] (fun f vs => PySem.call f vs) := by
  refine Att.attach_callB hn hdf fun w s₀ s₁ mg mb ad o pm cd doc a vs ns G Y ho hd hcd hmg hobj hints hlen hbits hg => ?_
  obtain ⟨K, KX, c⟩ := Y
  have T : Tx fa fn ex K mg := ⟨c, _, KX, G.T.g⟩
  obtain ⟨⟨fd, hb, hF⟩⟩ := F w K mg T
  have e := hmg.symm.trans (T.glo i hi)
  cases e
  exact law_call KX G.T.g G.T.b G.T.builtins G.T.nolimit hg hobj hints (Nat.le_trans hlen (by rw [sizeLine_eq]; decide)) hr (fun base _ _ => hF base) hb (fun H _ hS => ⟨_, rfl, a, ns, rfl, hS, hlen, hbits, fun _ => rfl⟩)
    fun H e s' h => by
      obtain ⟨_, _, _, _, _, _, _, _, _, _, _, _, z⟩ := h
      exact z.elim
end LF

/-! LF7: exceptions in a suite, while, lists of truths. -/
namespace LF
open PySem PySem.Spec PyProof.Rows L2
/-! ### what the classes of exceptions say -/
def exCB (K : PySem.W.Frag) (D : Addr) : Bool :=
  decide (PySem.W.findIn K (.ref D) "__getattribute__" = some (some (.builtin "BaseException.__getattribute__"))) && (decide (PySem.W.findIn K (.ref D) "__getattr__" = some none) && (decide (PySem.W.subIn K (.ref D) (.type "BaseException") = some true) &&
  (PySem.W.hasDictIn K D && (decide (PySem.W.findIn K (.ref D) "__class__" = some (some (.builtin "object.__class__"))) && (decide (PySem.W.specialIn K (.builtin "object.__class__") "__get__" = some (some (.builtin "getset_descriptor.__get__"))) &&
  (decide (PySem.W.takesIn K (.builtin "object.__class__") = some true) && decide (PySem.W.mroIn K D (.type "object") = some true)))))))
theorem exC_of {K : PySem.W.Frag} {D : Addr} (h : exCB K D = true) : ExcC K D := by
  unfold exCB at h
  simp only [Bool.and_eq_true, decide_eq_true_eq] at h
  obtain ⟨a, b, c, d, e, f, g, i⟩ := h
  exact ⟨a, b, c, d, e, f, g, i⟩
/-- es: classes whose instances are asked; ks, ts: what isinstance answers of own and of built-in classes -/
def exAll (es : List Str) (ks : List (Str × Str × Bool)) (ts : List (Str × String × Bool)) (K : PySem.W.Frag) : Bool :=
  es.all (fun x => exCB K (He.ga K x)) && (ks.all (fun p => decide (PySem.W.kitOne K (.ref (He.ga K p.1)) (.ref (He.ga K p.2.1)) = some p.2.2)) && ts.all (fun p => decide (PySem.W.kitOne K (.ref (He.ga K p.1)) (.type p.2.1) = some p.2.2)))
section
variable {fa : List He.Fa} {fn : List He.DefD} {es : List Str} {ks : List (Str × Str × Bool)} {ts : List (Str × String × Bool)} {K : PySem.W.Frag} {mg : Str → Option Value}
theorem Tx.xc (T : Tx fa fn (exAll es ks ts) K mg) (i : Nat) {x : Str} (h : es[i]? = some x := by rfl) : ExcC K (He.ga K x) := by
  have b := T.c.b
  unfold exAll at b
  simp only [Bool.and_eq_true] at b
  exact exC_of (List.all_eq_true.mp b.1 x (List.mem_of_getElem? h))
theorem Tx.ko (T : Tx fa fn (exAll es ks ts) K mg) (i : Nat) {x y : Str} {r : Bool} (h : ks[i]? = some (x, y, r) := by rfl) : PySem.W.kitOne K (.ref (He.ga K x)) (.ref (He.ga K y)) = some r := by
  have b := T.c.b
  unfold exAll at b
  simp only [Bool.and_eq_true] at b
  exact of_decide_eq_true (List.all_eq_true.mp b.2.1 (x, y, r) (List.mem_of_getElem? h))
theorem Tx.kt (T : Tx fa fn (exAll es ks ts) K mg) (i : Nat) {x : Str} {y : String} {r : Bool} (h : ts[i]? = some (x, y, r) := by rfl) : PySem.W.kitOne K (.ref (He.ga K x)) (.type y) = some r := by
  have b := T.c.b
  unfold exAll at b
  simp only [Bool.and_eq_true] at b
  exact of_decide_eq_true (List.all_eq_true.mp b.2.2 (x, y, r) (List.mem_of_getElem? h))
end
/-- isinstance of what a suite holds, by the class -/
def rIsEU (K : PySem.W.Frag) (cls : Value) (d : Option Addr) (a : Addr) : List V → Hp → VK → Prop := fun xs H Q => ∃ D, cls = .ref D ∧ d = none ∧ ExcC K D ∧ rIsE K D a xs H Q
theorem uc_isE {X : Cx} {a : Addr} {oe : Obj} {pn : List (Addr × Obj)} {cls : Value} {d : Option Addr} (K : PySem.W.Frag) (hz : Zc cls d oe) (hf : ∃ vs, oe.data = .fields vs) (h : X.K = K := by rfl) :
    CallR (X.suite a ((a, oe) :: pn)) (.builtin "isinstance") (rIsEU K cls d a) := by
  subst h
  intro pins s σ H xs us Q I r h
  obtain ⟨D, rfl, rfl, C, q⟩ := h
  exact call_isE C hz hf pins s σ H xs us Q I r q
/-- while, by an invariant with its own measure -/
theorem whl {c : TT} {tb : TS} {D : Ends} {σ : L2.St} {H : Hp} (W : Nat → L2.St → Hp → Prop) (m0 : Nat) (h0 : W m0 σ H)
    (hs : ∀ m σ H, W m σ H → c σ H fun b H1 => if b = true then ∃ N : L2.St → Hp → Prop, (∀ σ' H', N σ' H' → ∃ m', m' < m ∧ W m' σ' H') ∧ tb { D with nx := N, ct := N, bk := D.nx } σ H1 else D.nx σ H1) : tWhile c tb D σ H := ⟨W, ⟨m0, h0⟩, hs⟩
/-! ### lists of truths -/
theorem Dps.bls {K : PySem.W.Frag} {H : Hp} {bs : List Bool} : DpAll K H (bs.map V.bl) (bs.map PyData.bool) := by
  induction bs with
  | nil => exact .nil
  | cons a l ih => exact .cons (.bl a) ih
theorem eqv_bls {bs cs : List Bool} : PyData.eqvAll (bs.map .bool) (cs.map .bool) = decide (bs = cs) := by
  induction bs generalizing cs with
  | nil => cases cs <;> simp [PyData.eqvAll]
  | cons a l ih =>
    cases cs with
    | nil => simp [PyData.eqvAll]
    | cons b m =>
      rw [List.map_cons, List.map_cons, PyData.eqvAll, ih]
      by_cases h : a = b
      · subst h; simp [PyData.eqv]
      · simp [PyData.eqv, h]
theorem sh_bls {bs : List Bool} : SeqAt.shaped (.list (bs.map .bool)) = true := by
  have q : PyData.canLayAll0 (bs.map .bool) = true ∧ PyData.depthAll (bs.map .bool) = 0 := by
    induction bs with
    | nil => exact ⟨by simp [PyData.canLayAll0], by simp [PyData.depthAll]⟩
    | cons a l ih => exact ⟨by rw [List.map_cons, PyData.canLayAll0, ih.1]; simp [PyData.canLay0], by rw [List.map_cons, PyData.depthAll, ih.2]; simp [PyData.depth]⟩
  unfold SeqAt.shaped
  rw [PyData.canLay0, q.1, PyData.depth, q.2]
  decide
section
variable {K : PySem.W.Frag} {H : Hp} {a b : Addr} {bs cs : List Bool} {Q : VK}
theorem eq_bb (ha : SqL K H a (bs.map V.bl)) (hb : SqL K H b (cs.map V.bl)) (h : Q (.bl (decide (bs = cs))) H) : rEqU K (.ref a) (.ref b) H Q :=
  show rEqD K (.ref a) (.ref b) H Q from ⟨_, _, .lst ha Dps.bls, .lst hb Dps.bls, sh_bls, sh_bls, by rw [PyData.eqv, eqv_bls]; exact h⟩
theorem ne_bb (ha : SqL K H a (bs.map V.bl)) (hb : SqL K H b (cs.map V.bl)) (h : Q (.bl (!decide (bs = cs))) H) : rNeU K (.ref a) (.ref b) H Q :=
  show rNeD K (.ref a) (.ref b) H Q from ⟨_, _, .lst ha Dps.bls, .lst hb Dps.bls, sh_bls, sh_bls, by rw [PyData.eqv, eqv_bls]; exact h⟩
end
theorem rep_bls {n : Nat} {z : Bool} : (List.replicate n [V.bl z]).flatten = (List.replicate n z).map V.bl := by
  induction n with
  | zero => rfl
  | succ n ih => rw [List.replicate_succ, List.flatten_cons, ih]; rfl
theorem fm_const {α β : Type} {n : Nat} {y : β} {f : α → β} {x : α} (e : f x = y) : (List.range n).filterMap (fun _ => some y) = (List.replicate n x).map f := by
  subst e
  induction n with
  | zero => rfl
  | succ n ih => rw [fm_succ, ih]; simp [List.replicate_succ']
theorem all_rep {n : Nat} : (List.replicate n true).all id = true := by
  induction n with
  | zero => rfl
  | succ n ih => rw [List.replicate_succ, List.all_cons, ih]; rfl
theorem bls_at {bs : List Bool} {i : Nat} {v : V} (h : (bs.map V.bl)[i]? = some v) : ∃ n, v = .bl n ∧ bs[i]? = some n := by
  rw [List.getElem?_map] at h
  cases e : bs[i]? with
  | none => rw [e] at h; cases h
  | some n => rw [e] at h; cases h; exact ⟨n, rfl, rfl⟩
theorem atI_bls {ns : List Bool} {i : Int} {n : Bool} (h0 : 0 ≤ i) (h : ns[i.toNat]? = some n) : atI (ns.map V.bl) i = some (.bl n) := atI_of h0 (by rw [List.getElem?_map, h]; rfl)
theorem pdnewK {X : Cx} {pos : Pos} : PE X (.Dict [] [] pos) (fun σ H Q => (0 : Nat) ≤ sizeLine ∧ tDNewK σ H Q) := ⟨fun pins s σ H Q I h => pe_dnewK.run pins s σ H Q I h.2⟩
theorem pdnewT {X : Cx} {pos : Pos} : PE X (.Dict [] [] pos) (fun σ H Q => (0 : Nat) ≤ sizeLine ∧ tDNewT σ H Q) := ⟨fun pins s σ H Q I h => pe_dnewT.run pins s σ H Q I h.2⟩
theorem pmk (K : PySem.W.Frag) {X : Cx} {e : Expr} {C : Str} {sp : Sp} {dvs : List V} {W : WX} {t : TA} (p : PE X e (tMk (He.ga X.K C) sp dvs W t)) (h : X.K = K := by rfl) : PE X e (tMk (He.ga K C) sp dvs W t) := by subst h; exact p
theorem eqn {X : Cx} {b : List Stmt} {t u : TS} (h : PSs X b t) (e : t = u) : PSs X b u := e ▸ h
theorem putF_le {f : Str} {v : V} : ∀ fs : List (Str × V), (putF f v fs).length ≤ fs.length + 1
  | [] => Nat.le_refl _
  | (g, x) :: r => by
    rw [putF]
    by_cases h : g = f
    · rw [if_pos h]; simp
    · rw [if_neg h]
      have := putF_le (f := f) (v := v) r
      simp only [List.length_cons]
      omega
theorem putF_lt {f : Str} {v : V} {fs : List (Str × V)} {n : Nat} (h : fs.length < n) : (putF f v fs).length < n + 1 := Nat.lt_of_le_of_lt (putF_le fs) (by omega)
end LF

namespace LW
open PySem PySem.Spec PyProof.Rows L2 LF
/-! ### the text of the row -/
def topS (i : Nat) : Stmt := PySem.Challenge.pw_leafframe_k25_hand.main.body.getD i (.Pass ⟨0, 0, 0, 0⟩)
abbrev s_Hand___init__ : Stmt := inClass (topS 6) 0
abbrev s_Hand_mark : Stmt := inClass (topS 6) 1
abbrev s_Hand_unmark : Stmt := inClass (topS 6) 2
abbrev s_Hand_step : Stmt := inClass (topS 6) 3
abbrev s_Hand_chosen : Stmt := inClass (topS 6) 4
abbrev s_Hand_marks : Stmt := inClass (topS 6) 5
abbrev s_Hand_at : Stmt := inClass (topS 6) 6
abbrev s__law_cell_at : Stmt := topS 8
abbrev s__law_whole : Stmt := topS 9
abbrev s__law_round : Stmt := topS 10
abbrev s__law_alike : Stmt := topS 11
abbrev s__law_changed : Stmt := topS 12
abbrev s__law_refused : Stmt := topS 13
abbrev s_law : Stmt := topS 14
def d_Hand___init__ : He.DefD := ⟨("Hand", some "__init__"), "__init__", "Hand.__init__", defArgs s_Hand___init__, defBody s_Hand___init__, defScope s_Hand___init__, [], []⟩
def d_Hand_mark : He.DefD := ⟨("Hand", some "mark"), "mark", "Hand.mark", defArgs s_Hand_mark, defBody s_Hand_mark, defScope s_Hand_mark, [], []⟩
def d_Hand_unmark : He.DefD := ⟨("Hand", some "unmark"), "unmark", "Hand.unmark", defArgs s_Hand_unmark, defBody s_Hand_unmark, defScope s_Hand_unmark, [], []⟩
def d_Hand_step : He.DefD := ⟨("Hand", some "step"), "step", "Hand.step", defArgs s_Hand_step, defBody s_Hand_step, defScope s_Hand_step, [], []⟩
def d_Hand_chosen : He.DefD := ⟨("Hand", some "chosen"), "chosen", "Hand.chosen", defArgs s_Hand_chosen, defBody s_Hand_chosen, defScope s_Hand_chosen, [], []⟩
def d_Hand_marks : He.DefD := ⟨("Hand", some "marks"), "marks", "Hand.marks", defArgs s_Hand_marks, defBody s_Hand_marks, defScope s_Hand_marks, [], []⟩
def d_Hand_at : He.DefD := ⟨("Hand", some "at"), "at", "Hand.at", defArgs s_Hand_at, defBody s_Hand_at, defScope s_Hand_at, [], []⟩
def d__law_cell_at : He.DefD := ⟨("_law_cell_at", none), "_law_cell_at", "_law_cell_at", defArgs s__law_cell_at, defBody s__law_cell_at, defScope s__law_cell_at, [], []⟩
def d__law_whole : He.DefD := ⟨("_law_whole", none), "_law_whole", "_law_whole", defArgs s__law_whole, defBody s__law_whole, defScope s__law_whole, [], []⟩
def d__law_round : He.DefD := ⟨("_law_round", none), "_law_round", "_law_round", defArgs s__law_round, defBody s__law_round, defScope s__law_round, [], []⟩
def d__law_alike : He.DefD := ⟨("_law_alike", none), "_law_alike", "_law_alike", defArgs s__law_alike, defBody s__law_alike, defScope s__law_alike, [], []⟩
def d__law_changed : He.DefD := ⟨("_law_changed", none), "_law_changed", "_law_changed", defArgs s__law_changed, defBody s__law_changed, defScope s__law_changed, [], []⟩
def d__law_refused : He.DefD := ⟨("_law_refused", none), "_law_refused", "_law_refused", defArgs s__law_refused, defBody s__law_refused, defScope s__law_refused, [], []⟩
def d_law : He.DefD := ⟨("law", none), "law", "law", defArgs s_law, defBody s_law, defScope s_law, [], []⟩
def fn : List He.DefD := [d_Hand___init__, d_Hand_mark, d_Hand_unmark, d_Hand_step, d_Hand_chosen, d_Hand_marks, d_Hand_at, d__law_cell_at, d__law_whole, d__law_round, d__law_alike, d__law_changed, d__law_refused, d_law]
def fa : List He.Fa := [.cls "Hand", .exc "NoShape", .exm "NoShape" "LeafError" true, .free "ValueError", .free "all", .free "bool", .free "int", .free "isinstance", .free "len", .free "list", .free "range", .glo "Hand", .glo "LeafError", .glo "NoNumber", .glo "NoShape", .glo "_law_alike", .glo "_law_cell_at", .glo "_law_changed", .glo "_law_refused", .glo "_law_round", .glo "_law_whole", .glo "law", .int "MOST_FRAMES" 64, .meth "Hand" "at", .meth "Hand" "chosen", .meth "Hand" "mark", .meth "Hand" "marks", .meth "Hand" "step", .meth "Hand" "unmark", .mkr "Hand", .noat "Hand" "lit", .noat "Hand" "stands"]
def es : List Str := ["NoShape"]
def ks : List (Str × Str × Bool) := [("NoShape", "NoNumber", false), ("NoShape", "NoShape", true)]
def ts : List (Str × String × Bool) := [("NoShape", "ValueError", true)]
abbrev ex : PySem.W.Frag → Bool := LF.exAll es ks ts
abbrev R : PySem.W.OpenRow := PySem.W.OpenLaw.row PySem.Challenge.rw_leafframe_k25_hand
abbrev hk : PySem.W.Hook := LF.hookB 4 fa fn ex
def ob (s : PySem.W.SharedT) : LF.AlB := LF.obsB 4 fa fn ex (HandSHeadRun.getT s)
theorem ob_eq (s : PySem.W.SharedT) : ob s = hk.obs s.abs := LF.obsB_eq (HandSHeadRun.getT_eq s)
def loose0 : List Str := ["LeafError", "NoShape", "NoNumber", "Hand", "_law_cell_at", "_law_whole", "_law_round", "_law_alike", "_law_changed", "_law_refused", "MOST_FRAMES"]
def loose : List Str := loose0
abbrev TX (K : PySem.W.Frag) (mg : Str → Option Value) : Prop := LF.Tx fa fn ex K mg
section
variable {K : PySem.W.Frag} {mg : Str → Option Value} (T : TX K mg)
include T
theorem f_cls_Hand : Cls K (He.ga K "Hand") := T.cls 0
theorem f_exm_NoShape_LeafError : PySem.W.exmOne K (.ref (He.ga K "NoShape")) (.ref (He.ga K "LeafError")) = some true := T.exm 2
theorem f_free_ValueError : mg "ValueError" = none := T.free 3
theorem f_free_all : mg "all" = none := T.free 4
theorem f_free_bool : mg "bool" = none := T.free 5
theorem f_free_int : mg "int" = none := T.free 6
theorem f_free_isinstance : mg "isinstance" = none := T.free 7
theorem f_free_len : mg "len" = none := T.free 8
theorem f_free_list : mg "list" = none := T.free 9
theorem f_free_range : mg "range" = none := T.free 10
theorem f_glo_Hand : mg "Hand" = some (.ref (He.ga K "Hand")) := T.glo 11
theorem f_glo_LeafError : mg "LeafError" = some (.ref (He.ga K "LeafError")) := T.glo 12
theorem f_glo_NoNumber : mg "NoNumber" = some (.ref (He.ga K "NoNumber")) := T.glo 13
theorem f_glo_NoShape : mg "NoShape" = some (.ref (He.ga K "NoShape")) := T.glo 14
theorem f_glo__law_alike : mg "_law_alike" = some (.ref (He.ga K "_law_alike")) := T.glo 15
theorem f_glo__law_cell_at : mg "_law_cell_at" = some (.ref (He.ga K "_law_cell_at")) := T.glo 16
theorem f_glo__law_changed : mg "_law_changed" = some (.ref (He.ga K "_law_changed")) := T.glo 17
theorem f_glo__law_refused : mg "_law_refused" = some (.ref (He.ga K "_law_refused")) := T.glo 18
theorem f_glo__law_round : mg "_law_round" = some (.ref (He.ga K "_law_round")) := T.glo 19
theorem f_glo__law_whole : mg "_law_whole" = some (.ref (He.ga K "_law_whole")) := T.glo 20
theorem f_glo_law : mg "law" = some (.ref (He.ga K "law")) := T.glo 21
theorem f_int_MOST_FRAMES : ∃ t, mg "MOST_FRAMES" = some (.int 64 t) := T.int 22
theorem f_meth_Hand_at : Meth K (He.ga K "Hand") "at" (He.ma K (He.ga K "Hand") "at") := T.meth 23
theorem f_meth_Hand_chosen : Meth K (He.ga K "Hand") "chosen" (He.ma K (He.ga K "Hand") "chosen") := T.meth 24
theorem f_meth_Hand_mark : Meth K (He.ga K "Hand") "mark" (He.ma K (He.ga K "Hand") "mark") := T.meth 25
theorem f_meth_Hand_marks : Meth K (He.ga K "Hand") "marks" (He.ma K (He.ga K "Hand") "marks") := T.meth 26
theorem f_meth_Hand_step : Meth K (He.ga K "Hand") "step" (He.ma K (He.ga K "Hand") "step") := T.meth 27
theorem f_meth_Hand_unmark : Meth K (He.ga K "Hand") "unmark" (He.ma K (He.ga K "Hand") "unmark") := T.meth 28
theorem f_mkr_Hand : Mk K (He.ga K "Hand") (He.ma K (He.ga K "Hand") "__init__") := T.mkr 29
theorem f_noat_Hand_lit : NoAttr K (He.ga K "Hand") "lit" := T.noat 30
theorem f_noat_Hand_stands : NoAttr K (He.ga K "Hand") "stands" := T.noat 31
theorem f_xc_NoShape : ExcC K (He.ga K "NoShape") := T.xc 0
theorem f_ki_NoShape_NoNumber : PySem.W.kitOne K (.ref (He.ga K "NoShape")) (.ref (He.ga K "NoNumber")) = some false := T.ko 0
theorem f_ki_NoShape_NoShape : PySem.W.kitOne K (.ref (He.ga K "NoShape")) (.ref (He.ga K "NoShape")) = some true := T.ko 1
theorem f_ki_NoShape_ValueError : PySem.W.kitOne K (.ref (He.ga K "NoShape")) (.type "ValueError") = some true := T.kt 0
end
abbrev n_exc_NoShape : Nat := 1
abbrev n_glo_Hand : Nat := 11
abbrev n_glo_LeafError : Nat := 12
abbrev n_glo_NoNumber : Nat := 13
abbrev n_glo_NoShape : Nat := 14
abbrev n_glo__law_alike : Nat := 15
abbrev n_glo__law_cell_at : Nat := 16
abbrev n_glo__law_changed : Nat := 17
abbrev n_glo__law_refused : Nat := 18
abbrev n_glo__law_round : Nat := 19
abbrev n_glo__law_whole : Nat := 20
abbrev n_glo_law : Nat := 21
theorem run (w : World) : HandSHeadRun.RunEq R (PySem.W.view R.prog [14]) hk ob 4000 loose w := by
  intro os
  kernel_rfl
local macro_rules | `(tactic| fail "raw") => `(tactic| first | assumption | fail "hpx")
local macro_rules | `(tactic| fail "gr") => `(tactic| first
  | exact Gr.refl
  | (refine Gr.stp (by assumption) ?_; fail "gr")
  | fail "none")
local macro_rules | `(tactic| fail "ne0") => `(tactic| first
  | assumption
  | exact Ne.symm (by assumption)
  | (refine ne_old (by fail "raw") (by assumption) ?_; fail "gr")
  | (refine Ne.symm (ne_old (by fail "raw") (by assumption) ?_); fail "gr")
  | exact ne_kind (by fail "raw") (by fail "raw") (by first | exact rfl | fail "none")
  | fail "none")
local macro_rules | `(tactic| fail "nin0") => `(tactic| first
  | exact nin0
  | assumption
  | (refine ninC ?_ ?_; fail "ne0"; fail "nin0")
  | fail "none")
local macro_rules | `(tactic| fail "hpw") => `(tactic| first
  | assumption
  | fail "hpx"
  | exact Md.at_ (by assumption) (by fail "nin0") (by fail "hpw")
  | fail "none")
local macro_rules | `(tactic| fail "ne1") => `(tactic| first
  | fail "ne0"
  | exact ne_new (by assumption) (by fail "hpw")
  | exact Ne.symm (ne_new (by assumption) (by fail "hpw"))
  | exact ne_kind (by fail "raw") (by fail "hpw") (by first | exact rfl | fail "none")
  | exact Ne.symm (ne_kind (by fail "raw") (by fail "hpw") (by first | exact rfl | fail "none"))
  | fail "none")
local macro_rules | `(tactic| fail "nin") => `(tactic| first
  | exact nin0
  | assumption
  | (refine ninC ?_ ?_; fail "ne1"; fail "nin")
  | fail "none")
local macro_rules | `(tactic| fail "mda") => `(tactic| first
  | exact Ma.refl
  | (refine Ma.stp (by assumption) ?_ ?_; fail "nin"; fail "mda")
  | fail "none")
local macro_rules | `(tactic| fail "hp") => `(tactic| first
  | assumption
  | fail "hpx"
  | exact ma_at (by assumption) (by fail "mda")
  | exact ma_at (by fail "hpx") (by fail "mda")
  | fail "none")
local macro_rules | `(tactic| fail "nw") => `(tactic| first
  | assumption
  | (refine New.gr (by assumption) ?_; fail "gr")
  | fail "none")
local macro_rules | `(tactic| fail "mem") => `(tactic| first
  | exact List.mem_cons_self ..
  | (refine List.mem_cons_of_mem _ ?_; fail "mem")
  | fail "none")
local macro_rules | `(tactic| fail "subi") => `(tactic| first
  | (refine Or.inl ?_; fail "mem")
  | (refine Or.inr ?_; fail "nw")
  | fail "none")
local macro_rules | `(tactic| fail "sub") => `(tactic| first
  | exact sub0
  | (refine subC ?_ ?_; fail "subi"; fail "sub")
  | exact fun x h => Or.inl h
  | fail "none")
local macro_rules | `(tactic| fail "md") => `(tactic| first
  | assumption
  | exact Md.refl
  | (refine Md.stp (by assumption) ?_ ?_; fail "sub"; fail "md")
  | fail "none")
local macro_rules | `(tactic| fail "sql") => `(tactic| first
  | assumption
  | exact Md.seqLm (by assumption) (by fail "md")
  | exact SqL.of (by fail "hp")
  | exact Md.seqLn (by assumption) (by fail "nin") (by fail "sql")
  | fail "none")
local macro_rules | `(tactic| fail "sqt") => `(tactic| first
  | assumption
  | exact Md.seqTm (by assumption) (by fail "md")
  | exact SqT.of (by fail "hp")
  | exact Md.seqTn (by assumption) (by fail "nin") (by fail "sqt")
  | fail "none")
local macro_rules | `(tactic| fail "gn") => `(tactic| first
  | (generalize hU : upd _ _ _ = HH; obtain ⟨h1, h2⟩ := al_of hU (by assumption); clear hU; (try simp only [rep_ints, rep_bls, cutV_ints, int_nat, map_push] at h1); have h3 := h2; clear h2)
  | skip
  | fail "none")
local macro_rules | `(tactic| fail "gm") => `(tactic| first
  | (generalize hU : upd _ _ _ = HH; obtain ⟨h1, h2⟩ := mu_of hU; clear hU; (try simp only [rep_ints, rep_bls, cutV_ints, int_nat, map_push, ← List.map_set] at h1); have h3 := h2; clear h2)
  | skip
  | fail "none")
local macro_rules | `(tactic| fail "nu") => `(tactic| (refine newI (fun p np => ?_); fail "gn"))
local macro_rules | `(tactic| fail "mk") => `(tactic| (refine mkI (fun x dx nx ndx nex => ?_); generalize hU : upd (upd _ _ _) _ _ = HH; obtain ⟨h1, h2, h3⟩ := mk_of nx ndx hU; clear hU nx ndx nex))
local macro_rules | `(tactic| fail "fsl") => `(tactic| first
  | decide
  | (refine putF_lt ?_; fail "fsl")
  | (simp only [List.length_cons, List.length_nil]; omega)
  | fail "none")
local macro_rules | `(tactic| fail "lk") => `(tactic| first | rfl | (simp [List.lookup]; done))
local macro_rules | `(tactic| fail "sz") => `(tactic| first | exact Nat.zero_le _ | (rw [sizeLine_eq]; omega) | (rw [sizeLine_eq]; simp only [List.length_map, List.length_cons, List.length_nil, List.length_append, List.length_set, List.length_replicate]; omega) | (rw [sizeLine_eq]; decide) | fail "none")
local macro_rules | `(tactic| fail "at") => `(tactic| first
  | assumption
  | exact rfl
  | exact atI_ints (by omega) (by assumption)
  | exact atI_bls (by omega) (by assumption)
  | exact atI_of (by omega) (by assumption)
  | fail "none")
local macro_rules | `(tactic| fail "ixn") => `(tactic| exact ixN_of (by omega) (by simp only [List.length_map, List.length_set, List.length_append, List.length_cons, List.length_nil, List.length_replicate]; omega))
local macro_rules | `(tactic| fail "om") => `(tactic| first | omega | (simp only [List.length_map, List.length_set, List.length_append, List.length_cons, List.length_nil, List.length_replicate, List.length_take, List.length_drop]; omega))
local macro_rules | `(tactic| fail "szl") => `(tactic| first | assumption | (refine small1000 ?_; fail "om"))
local macro_rules | `(tactic| fail "clsv") => `(tactic| first | exact ClsV.ty _ | exact ClsV.own _)
local macro_rules | `(tactic| fail "tyx") => `(tactic| first
  | exact TyX.base (TyOf.int _) | exact TyX.base (TyOf.bl _) | exact TyX.base TyOf.non | exact TyX.base (TyOf.str _)
  | exact TyX.base (TyOf.lst (by fail "hp")) | exact TyX.base (TyOf.tup (by fail "hp")) | exact TyX.base (TyOf.dK (by fail "hp"))
  | fail "none")
local macro_rules | `(tactic| fail "kit") => `(tactic| first
  | exact kit_ty kb_int_int | exact kit_ty kb_int_bool | exact kit_ty kb_bool_int | exact kit_ty kb_bool_bool | exact kit_ty kb_none_int | exact kit_ty kb_none_bool | exact kit_ty kb_str_int | exact kit_ty kb_str_bool | exact kit_ty kb_str_str
  | exact kit_ty kb_list_list | exact kit_ty kb_tuple_tuple | exact kit_ty kb_dict_dict | exact kit_ty kb_list_int | exact kit_ty kb_list_bool | exact kit_ty kb_list_tuple | exact kit_ty kb_tuple_int | exact kit_ty kb_tuple_bool | exact kit_ty kb_tuple_list
  | exact kit_ty kb_dict_int | exact kit_ty kb_dict_bool | exact kit_ty kb_none_tuple | exact kit_ty kb_none_list | exact kit_ty kb_none_str | exact kit_ty kb_int_tuple | exact kit_ty kb_int_list | exact kit_ty kb_int_str
  | fail "none")
local macro_rules | `(tactic| fail "flat") => `(tactic| first | exact flat_ints _ | rfl)
local macro_rules | `(tactic| fail "bd") => `(tactic| first
  | exact Or.inl ⟨by decide, by decide⟩
  | exact Or.inr (Or.inr ⟨by decide, by decide⟩)
  | exact Or.inr (Or.inl ⟨by decide, by decide⟩)
  | exact Or.inr (Or.inr ⟨by omega, by omega⟩)
  | exact Or.inr (Or.inl ⟨by omega, by omega⟩)
  | exact Or.inl ⟨by omega, by omega⟩
  | exact ⟨by decide, by decide, by decide⟩
  | exact ⟨by omega, by omega, by omega⟩
  | fail "none")
local macro_rules | `(tactic| fail "st") => `(tactic| first
  | (refine ⟨_, rfl, ?_⟩)
  | (refine ⟨_, _, rfl, rfl, ?_⟩)
  | (refine iteT ?_)
  | (refine ⟨_, _, _, rfl, (by fail "hp"), (by fail "lk"), ?_⟩)
  | (refine iteF ?_)
  | (refine ⟨_, _, _, _, _, rfl, (by fail "hp"), (by fail "cls"), (by fail "noat"), (by fail "lk"), ?_⟩)
  | (refine ⟨_, _, rfl, Or.inl ⟨_, (by fail "sql"), rfl⟩, ?_⟩)
  | (refine ⟨_, _, rfl, Or.inr ⟨_, (by fail "sqt"), rfl⟩, ?_⟩)
  | (refine ⟨_, _, rfl, ⟨by fail "sz", rfl⟩, ?_⟩)
  | (refine ⟨_, _, _, _, rfl, rfl, (by fail "sql"), (by fail "at"), ?_⟩)
  | (refine ⟨_, _, _, _, rfl, rfl, (by fail "sqt"), (by fail "at"), ?_⟩)
  | (refine Or.inl ⟨_, _, _, _, rfl, rfl, (by fail "sql"), (by fail "at"), ?_⟩)
  | (refine Or.inr (Or.inl ⟨_, _, _, _, rfl, rfl, (by fail "sqt"), (by fail "at"), ?_⟩))
  | (refine ⟨_, _, rfl, rfl, (by first | decide | omega), ?_⟩)
  | (refine ⟨_, _, rfl, rfl, (by fail "bd"), ?_⟩)
  | (refine And.intro ?_ ?_; fail "bd")
  | (refine And.intro ?_ ?_; fail "sz"; fail "nu")
  | (refine ⟨_, _, _, _, rfl, (by fail "hp"), (by fail "cls"), (by fail "noat"), (by fail "fsl"), ?_⟩; fail "gm")
  | fail "call"
  | fail "stx"
  | (refine ⟨_, _, _, _, rfl, rfl, (by fail "hp"), (by fail "ixn"), ?_⟩; fail "gm")
  | (refine ⟨_, rfl, by fail "om", by fail "om", ?_⟩)
  | (refine ⟨_, _, rfl, ⟨by fail "om", by fail "om", by fail "om", by fail "om"⟩, ?_⟩)
  | (refine ⟨_, _, rfl, Or.inl (by fail "sql"), ?_⟩; fail "nu")
  | (refine ⟨_, _, rfl, Or.inr (by fail "sqt"), ?_⟩; fail "nu")
  | (refine ⟨Or.inl ⟨rfl, _, (by fail "sql")⟩, ?_⟩)
  | (refine ⟨_, _, _, rfl, rfl, (by fail "sql"), ?_⟩)
  | (refine ⟨_, _, _, rfl, rfl, (by fail "hp"), (by fail "szl"), ?_⟩; fail "gm")
  | (refine ⟨_, _, rfl, rfl, (by fail "hp"), ?_⟩; fail "gm")
  | (refine ⟨_, _, _, rfl, rfl, (by fail "hp"), by fail "om", by fail "om", (by fail "sz"), ?_⟩; fail "nu")
  | (refine ⟨_, _, _, _, _, rfl, (by fail "clsv"), (by fail "tyx"), (by fail "kit"), ?_⟩)
  | (refine ⟨_, _, rfl, Or.inl (by fail "sql"), rfl, (by fail "flat"), ?_⟩)
  | ((with_reducible show rEqU _ (V.ref _) (V.ref _) _ _); refine eq_ll (by fail "sql") (by fail "sql") ?_)
  | ((with_reducible show rNeU _ (V.ref _) (V.ref _) _ _); refine ne_ll (by fail "sql") (by fail "sql") ?_)
  | ((with_reducible show rEqU _ (V.ref _) (V.ref _) _ _); refine eq_ln (by fail "sql") (by fail "sql") ?_)
  | ((with_reducible show rNeU _ (V.ref _) (V.ref _) _ _); refine ne_ln (by fail "sql") (by fail "sql") ?_)
  | (refine ⟨_, _, rfl, (by fail "sqt"), rfl, ?_⟩)
  | (refine ⟨_, _, rfl, ?_⟩)
  | (refine And.intro rfl ?_)
  | (refine ⟨true, (by fail "exm"), fun _ a na => ?_, fun z => by cases z⟩)
  | (refine ⟨false, (by fail "exm"), fun z => by cases z, fun _ => ?_⟩)
  | (refine And.intro ?_ ?_; fail "xc")
  | (refine ⟨_, _, _, rfl, (fun _ r => r), (by fail "ki"), ?_⟩)
  | (refine ⟨_, _, rfl, (by fail "sql"), ?_⟩; fail "nu")
  | (refine And.intro ?_ ?_; exact ⟨_, by fail "sql"⟩)
  | fail "mk"
  | (refine And.intro ?_ ?_; fail "om")
  | (refine And.intro ?_ ?_; (dsimp only; decide))
  | ((with_reducible show ite _ _ _); refine ifdT ?_ ?_; omega)
  | ((with_reducible show ite _ _ _); refine ifdF ?_ ?_; omega)
  | ((with_reducible show ite _ _ _); refine ifdnT ?_ ?_; omega)
  | ((with_reducible show ite _ _ _); refine ifdnF ?_ ?_; omega)
  | fail "none")
local macro_rules | `(tactic| fail "call") => `(tactic| first
  | (refine (show sp1 _ _ _ _ _ from ⟨_, rfl, ?_⟩))
  | (refine (show sp2 _ _ _ _ _ from ⟨_, _, rfl, ?_⟩))
  | (refine (show sp3 _ _ _ _ _ from ⟨_, _, _, rfl, ?_⟩))
  | (refine (show sp4 _ _ _ _ _ from ⟨_, _, _, _, rfl, ?_⟩))
  | (refine (show sp5 _ _ _ _ _ from ⟨_, _, _, _, _, rfl, ?_⟩))
  | (refine (show sp6 _ _ _ _ _ from ⟨_, _, _, _, _, _, rfl, ?_⟩))
  | fail "none")
local macro_rules | `(tactic| fail "go") => `(tactic| repeat fail "st")
local macro_rules | `(tactic| fail "sp") => `(tactic| first
  | ((with_reducible show ite _ _ _); refine ifd (fun c => ?_) (fun c => ?_))
  | ((with_reducible show ite _ _ _); refine ifdn (fun c => ?_) (fun c => ?_))
  | fail "none")
local macro_rules | `(tactic| fail "all") => `(tactic| repeat' (first | fail "st" | fail "sp"))
local macro_rules | `(tactic| fail "cls") => `(tactic| first | exact f_cls_Hand (by assumption))
local macro_rules | `(tactic| fail "noat") => `(tactic| first | exact f_noat_Hand_lit (by assumption) | exact f_noat_Hand_stands (by assumption))
local macro_rules | `(tactic| fail "exm") => `(tactic| first | exact f_exm_NoShape_LeafError (by assumption) | fail "none")
local macro_rules | `(tactic| fail "xc") => `(tactic| first | exact f_xc_NoShape (by assumption) | fail "none")
local macro_rules | `(tactic| fail "ki") => `(tactic| first | exact f_ki_NoShape_NoNumber (by assumption) | exact f_ki_NoShape_NoShape (by assumption) | exact f_ki_NoShape_ValueError (by assumption) | fail "none")

theorem sc_Hand_mark : FnScope ["self", "frame"] ["self", "frame"] (defScope s_Hand_mark) := ⟨rfl, rfl, rfl, by decide +kernel, rfl, by decide +kernel, by decide +kernel⟩
/-- a hand over the marks bs, that stands at a -/
structure HandAt (K : PySem.W.Frag) (H : Hp) (p dx l : Addr) (bs : List Bool) (a : Nat) : Prop where
  ins : H p = some (.ins (He.ga K "Hand") dx [("lit", .ref l), ("stands", .int a)])
  lst : H l = some (.lst (bs.map V.bl))
  pos : a < bs.length
  len : bs.length ≤ 64
section
variable {K : PySem.W.Frag} {H H' : Hp} {p dx l : Addr} {bs cs : List Bool} {a c : Nat} {L : List Addr}
theorem HandAt.st (m : Md L H H') (C : HandAt K H p dx l bs a) (hp : p ∉ L) (hl : l ∉ L) : HandAt K H' p dx l bs a := ⟨m.at_ hp C.ins, m.at_ hl C.lst, C.pos, C.len⟩
theorem HandAt.ne (C : HandAt K H p dx l bs a) : p ≠ l := ne_of C.ins C.lst (by intro z; cases z)
theorem HandAt.put (C : HandAt K H p dx l bs a) (m : Md [l] H H') (e : H' l = some (.lst (cs.map V.bl))) (h : cs.length = bs.length) : HandAt K H' p dx l cs a := ⟨m.at1 C.ne C.ins, e, by rw [h]; exact C.pos, by rw [h]; exact C.len⟩
theorem HandAt.go (C : HandAt K H p dx l bs a) (m : Md [p] H H') (e : H' p = some (.ins (He.ga K "Hand") dx [("lit", .ref l), ("stands", .int c)])) (h : c < bs.length) : HandAt K H' p dx l bs c := ⟨e, m.at1 C.ne.symm C.lst, h, C.len⟩
end
local macro_rules | `(tactic| fail "hpx") => `(tactic| (first | exact HandAt.ins (by assumption) | exact HandAt.lst (by assumption) | fail "none"))
local macro_rules | `(tactic| fail "hnd") => `(tactic| (first | assumption | exact HandAt.st (by assumption) (by fail "hnd") (by fail "nin") (by fail "nin") | fail "none"))
def q_Hand_mark (K : PySem.W.Frag) (self frame : V) (H : Hp) (Q : VK) (E : XK) : Prop := ∃ p dx l bs a i, self = .ref p ∧ frame = .int i ∧ HandAt K H p dx l bs a ∧ 0 ≤ i ∧ i < bs.length ∧
  ∀ H', Md [l] H H' → HandAt K H' p dx l (bs.set i.toNat true) a → Q .non H'
local macro_rules | `(tactic| fail "stx") => `(tactic| ((with_reducible show q_Hand_mark _ _ _ _ _ _); refine ⟨_, _, _, _, _, _, rfl, rfl, (by fail "hnd"), by fail "om", by fail "om", ?_⟩))
theorem ok_Hand_mark {P : Program} {w : World} {K : PySem.W.Frag} {mg : Str → Option Value} {base : Heap} (T : TX K mg) : LF.Okf P w K mg base ("Hand", some "mark") ["self", "frame"] [] 1 (LF.sp2 (q_Hand_mark K)) := by
  refine LF.okf_mk T 1 (d := d_Hand_mark) rfl sc_Hand_mark rfl rfl (fun _ _ _ _ _ _ us hl => match us, hl with | [_, _], _ => rfl) (fun vs H Q E h => LF.sp2_len h) (fun cdv A outer s H vs Q E hr tk h => ?_)
  obtain ⟨self, frame, rfl, h⟩ := h
  have ND := (sc_Hand_mark).nd
  refine ⟨_, (pss_one (ps_asg pe_bl (pg_sub (pfld K (pv 0) rfl) (pv 1) set_list))), ?_⟩
  rw [show start ["self", "frame"] [self, frame] = [some self, some frame] from rfl]
  try dsimp only [LF.bodyX, L2.cxOf]
  clear ND hr tk
  obtain ⟨p, dx, l, bs, a, i, rfl, rfl, C, i0, i1, h⟩ := h
  fail "go"
  rename_i H1 e m
  exact h _ m (C.put m e (List.length_set ..))
theorem sc_Hand_unmark : FnScope ["self", "frame"] ["self", "frame"] (defScope s_Hand_unmark) := ⟨rfl, rfl, rfl, by decide +kernel, rfl, by decide +kernel, by decide +kernel⟩
def q_Hand_unmark (K : PySem.W.Frag) (self frame : V) (H : Hp) (Q : VK) (E : XK) : Prop := ∃ p dx l bs a i, self = .ref p ∧ frame = .int i ∧ HandAt K H p dx l bs a ∧ 0 ≤ i ∧ i < bs.length ∧
  ∀ H', Md [l] H H' → HandAt K H' p dx l (bs.set i.toNat false) a → Q .non H'
local macro_rules | `(tactic| fail "stx") => `(tactic| ((with_reducible show q_Hand_unmark _ _ _ _ _ _); refine ⟨_, _, _, _, _, _, rfl, rfl, (by fail "hnd"), by fail "om", by fail "om", ?_⟩))
theorem ok_Hand_unmark {P : Program} {w : World} {K : PySem.W.Frag} {mg : Str → Option Value} {base : Heap} (T : TX K mg) : LF.Okf P w K mg base ("Hand", some "unmark") ["self", "frame"] [] 1 (LF.sp2 (q_Hand_unmark K)) := by
  refine LF.okf_mk T 2 (d := d_Hand_unmark) rfl sc_Hand_unmark rfl rfl (fun _ _ _ _ _ _ us hl => match us, hl with | [_, _], _ => rfl) (fun vs H Q E h => LF.sp2_len h) (fun cdv A outer s H vs Q E hr tk h => ?_)
  obtain ⟨self, frame, rfl, h⟩ := h
  have ND := (sc_Hand_unmark).nd
  refine ⟨_, (pss_one (ps_asg pe_bl (pg_sub (pfld K (pv 0) rfl) (pv 1) set_list))), ?_⟩
  rw [show start ["self", "frame"] [self, frame] = [some self, some frame] from rfl]
  try dsimp only [LF.bodyX, L2.cxOf]
  clear ND hr tk
  obtain ⟨p, dx, l, bs, a, i, rfl, rfl, C, i0, i1, h⟩ := h
  fail "go"
  rename_i H1 e m
  exact h _ m (C.put m e (List.length_set ..))
theorem sc_Hand___init__ : FnScope ["self", "many"] ["self", "many"] (defScope s_Hand___init__) := ⟨rfl, rfl, rfl, by decide +kernel, rfl, by decide +kernel, by decide +kernel⟩
def q_Hand___init__ (K : PySem.W.Frag) (self many : V) (H : Hp) (Q : VK) (E : XK) : Prop := ∃ p dx n, self = .ref p ∧ many = .int n ∧ H p = some (.ins (He.ga K "Hand") dx []) ∧
  (1 ≤ n ∧ n ≤ 64 → ∀ H' l, Md [p] H H' → New H l → HandAt K H' p dx l (List.replicate n.toNat false) 0 → Q .non H') ∧ (¬ (1 ≤ n ∧ n ≤ 64) → E (.ref (He.ga K "NoShape")) none H)
local macro_rules | `(tactic| fail "stx") => `(tactic| ((with_reducible show q_Hand___init__ _ _ _ _ _ _); refine ⟨_, _, _, rfl, rfl, (by fail "hp"), ?_⟩))
theorem ok_Hand___init__ {P : Program} {w : World} {K : PySem.W.Frag} {mg : Str → Option Value} {base : Heap} (T : TX K mg) : LF.Okf P w K mg base ("Hand", some "__init__") ["self", "many"] [] 1 (LF.sp2 (q_Hand___init__ K)) := by
  refine LF.okf_mk T 0 (d := d_Hand___init__) rfl sc_Hand___init__ rfl rfl (fun _ _ _ _ _ _ us hl => match us, hl with | [_, _], _ => rfl) (fun vs H Q E h => LF.sp2_len h) (fun cdv A outer s H vs Q E hr tk h => ?_)
  obtain ⟨self, many, rfl, h⟩ := h
  have ND := (sc_Hand___init__).nd
  refine ⟨_, (pss_cons (ps_if (pt_not (pt_chain op_le op_le pe_int (pv 1) (pe_glob (v := .int 64) rfl (f_int_MOST_FRAMES T).choose_spec ⟨_, rfl⟩))) (pss_one (ps_rs T n_exc_NoShape n_glo_NoShape rfl tk rfl rfl)) pss_nil)
 (pss_cons (ps_fld (pv 0) (pe_op u_mul (pe_lst (pa_cons pe_bl pa_nil)) (pv 1)) rfl)
 (pss_one (ps_fld (pv 0) pe_int rfl)))), ?_⟩
  rw [show start ["self", "many"] [self, many] = [some self, some many] from rfl]
  try dsimp only [LF.bodyX, L2.cxOf]
  clear ND hr tk
  obtain ⟨p, dx, n, rfl, rfl, h1, hQ, hE⟩ := h
  fail "all"
  · exact hE (by omega)
  · rename_i l nl H1 hl m1 H2 hp2 m2 H3 hp3 m3
    exact hQ ⟨by omega, by omega⟩ _ l (by fail "md") (by fail "nw") ⟨hp3, by fail "hp", by rw [List.length_replicate]; omega, by rw [List.length_replicate]; omega⟩
  · exact hE (by omega)
theorem sc_Hand_step : FnScope ["self"] ["self"] (defScope s_Hand_step) := ⟨rfl, rfl, rfl, by decide +kernel, rfl, by decide +kernel, by decide +kernel⟩
def q_Hand_step (K : PySem.W.Frag) (self : V) (H : Hp) (Q : VK) (E : XK) : Prop := ∃ p dx l bs a, self = .ref p ∧ HandAt K H p dx l bs a ∧
  ∀ H', Md [p] H H' → HandAt K H' p dx l bs ((a + 1) % bs.length) → Q .non H'
local macro_rules | `(tactic| fail "stx") => `(tactic| ((with_reducible show q_Hand_step _ _ _ _ _); refine ⟨_, _, _, _, _, rfl, (by fail "hnd"), ?_⟩))
theorem ok_Hand_step {P : Program} {w : World} {K : PySem.W.Frag} {mg : Str → Option Value} {base : Heap} (T : TX K mg) : LF.Okf P w K mg base ("Hand", some "step") ["self"] [] 1 (LF.sp1 (q_Hand_step K)) := by
  refine LF.okf_mk T 3 (d := d_Hand_step) rfl sc_Hand_step rfl rfl (fun _ _ _ _ _ _ us hl => match us, hl with | [_], _ => rfl) (fun vs H Q E h => LF.sp1_len h) (fun cdv A outer s H vs Q E hr tk h => ?_)
  obtain ⟨self, rfl, h⟩ := h
  have ND := (sc_Hand_step).nd
  refine ⟨_, (pss_one (ps_fld (pv 0) (pe_op op_mod (pe_op (uadd K) (pfld K (pv 0) rfl) pe_int) (pe_callB (clen K) rfl (f_free_len T) (by decide +kernel) (pa_cons (pfld K (pv 0) rfl) pa_nil))) rfl)), ?_⟩
  rw [show start ["self"] [self] = [some self] from rfl]
  try dsimp only [LF.bodyX, L2.cxOf]
  clear ND hr tk
  obtain ⟨p, dx, l, bs, a, rfl, C, h⟩ := h
  have hpos := C.pos
  fail "go"
  rename_i H1 e m
  exact h _ m (C.go m (by rw [e, List.length_map]; rfl) (Nat.mod_lt _ (by omega)))
theorem sc_Hand_at : FnScope ["self"] ["self"] (defScope s_Hand_at) := ⟨rfl, rfl, rfl, by decide +kernel, rfl, by decide +kernel, by decide +kernel⟩
def q_Hand_at (K : PySem.W.Frag) (self : V) (H : Hp) (Q : VK) (E : XK) : Prop := ∃ p dx l bs a, self = .ref p ∧ HandAt K H p dx l bs a ∧ Q (.int (a : Nat)) H
local macro_rules | `(tactic| fail "stx") => `(tactic| ((with_reducible show q_Hand_at _ _ _ _ _); refine ⟨_, _, _, _, _, rfl, (by fail "hnd"), ?_⟩))
theorem ok_Hand_at {P : Program} {w : World} {K : PySem.W.Frag} {mg : Str → Option Value} {base : Heap} (T : TX K mg) : LF.Okf P w K mg base ("Hand", some "at") ["self"] [] 1 (LF.sp1 (q_Hand_at K)) := by
  refine LF.okf_mk T 6 (d := d_Hand_at) rfl sc_Hand_at rfl rfl (fun _ _ _ _ _ _ us hl => match us, hl with | [_], _ => rfl) (fun vs H Q E h => LF.sp1_len h) (fun cdv A outer s H vs Q E hr tk h => ?_)
  obtain ⟨self, rfl, h⟩ := h
  have ND := (sc_Hand_at).nd
  refine ⟨_, (pss_one (ps_ret (pfld K (pv 0) rfl))), ?_⟩
  rw [show start ["self"] [self] = [some self] from rfl]
  try dsimp only [LF.bodyX, L2.cxOf]
  clear ND hr tk
  obtain ⟨p, dx, l, bs, a, rfl, C, h⟩ := h
  fail "go"
  exact h
theorem sc_Hand_marks : FnScope ["self"] ["self"] (defScope s_Hand_marks) := ⟨rfl, rfl, rfl, by decide +kernel, rfl, by decide +kernel, by decide +kernel⟩
def q_Hand_marks (K : PySem.W.Frag) (self : V) (H : Hp) (Q : VK) (E : XK) : Prop := ∃ p dx l bs a, self = .ref p ∧ HandAt K H p dx l bs a ∧ ∀ t H', New H t → H' t = some (.lst (bs.map V.bl)) → Md [] H H' → Q (.ref t) H'
local macro_rules | `(tactic| fail "stx") => `(tactic| ((with_reducible show q_Hand_marks _ _ _ _ _); refine ⟨_, _, _, _, _, rfl, (by fail "hnd"), ?_⟩))
theorem ok_Hand_marks {P : Program} {w : World} {K : PySem.W.Frag} {mg : Str → Option Value} {base : Heap} (T : TX K mg) : LF.Okf P w K mg base ("Hand", some "marks") ["self"] [] 1 (LF.sp1 (q_Hand_marks K)) := by
  refine LF.okf_mk T 5 (d := d_Hand_marks) rfl sc_Hand_marks rfl rfl (fun _ _ _ _ _ _ us hl => match us, hl with | [_], _ => rfl) (fun vs H Q E h => LF.sp1_len h) (fun cdv A outer s H vs Q E hr tk h => ?_)
  obtain ⟨self, rfl, h⟩ := h
  have ND := (sc_Hand_marks).nd
  refine ⟨_, (pss_one (ps_ret (pe_callTy (clist K) rfl (f_free_list T) (by decide +kernel) (pa_cons (pfld K (pv 0) rfl) pa_nil)))), ?_⟩
  rw [show start ["self"] [self] = [some self] from rfl]
  try dsimp only [LF.bodyX, L2.cxOf]
  clear ND hr tk
  obtain ⟨p, dx, l, bs, a, rfl, C, h⟩ := h
  fail "go"
  exact h _ _ (by assumption) (by assumption) (by assumption)
theorem sc_Hand_chosen : FnScope ["self", "frame"] ["self"] (defScope s_Hand_chosen) := ⟨rfl, rfl, rfl, by decide +kernel, rfl, by decide +kernel, by decide +kernel⟩
/-- the round: the first mark that is not lit, from a on; the lit ones ahead of it are put out -/
def rnd : Nat → List Bool → Nat → Option (Nat × Nat × List Bool)
  | 0, _, _ => none
  | k + 1, bs, a => if bs.getD a false = true then rnd k (bs.set a false) ((a + 1) % bs.length) else some (a, (a + 1) % bs.length, bs)
theorem rnd_some : ∀ (k : Nat) (bs : List Bool) (a : Nat), a < bs.length → bs.count true < k → ∃ f a' bs', rnd k bs a = some (f, a', bs') ∧ f < bs.length ∧ a' < bs.length ∧ bs'.length = bs.length
  | 0, _, _, _, h => by omega
  | k + 1, bs, a, ha, h => by
    rw [rnd]
    by_cases z : bs.getD a false = true
    · rw [if_pos z]
      have e : bs[a] = true := by rw [List.getD_eq_getElem?_getD, List.getElem?_eq_getElem ha] at z; simpa using z
      have c : (bs.set a false).count true < k := by
        have := List.count_set (a := false) (b := true) (l := bs) (i := a) ha
        have pos : 0 < bs.count true := List.count_pos_iff.mpr (by rw [← e]; exact List.getElem_mem ha)
        rw [this, e]
        simp
        omega
      obtain ⟨f, a', bs', q1, q2, q3, q4⟩ := rnd_some k (bs.set a false) ((a + 1) % bs.length) (by rw [List.length_set]; exact Nat.mod_lt _ (by omega)) c
      rw [List.length_set] at q2 q3 q4
      exact ⟨f, a', bs', q1, q2, q3, q4⟩
    · rw [if_neg z]
      exact ⟨a, _, bs, rfl, ha, Nat.mod_lt _ (by omega), rfl⟩
def q_Hand_chosen (K : PySem.W.Frag) (self : V) (H : Hp) (Q : VK) (E : XK) : Prop := ∃ p dx l bs a k f a' bs', self = .ref p ∧ HandAt K H p dx l bs a ∧ rnd k bs a = some (f, a', bs') ∧
  ∀ H', Md [l, p] H H' → HandAt K H' p dx l bs' a' → Q (.int (f : Nat)) H'
theorem ok_Hand_chosen {P : Program} {w : World} {K : PySem.W.Frag} {mg : Str → Option Value} {base : Heap} (T : TX K mg) : LF.Okf P w K mg base ("Hand", some "chosen") ["self"] [] 2 (LF.sp1 (q_Hand_chosen K)) := by
  have G_Hand_step := ok_Hand_step (P := P) (w := w) (base := base) T
  refine LF.okf_mk T 4 (d := d_Hand_chosen) rfl sc_Hand_chosen rfl rfl (fun _ _ _ _ _ _ us hl => match us, hl with | [_], _ => rfl) (fun vs H Q E h => LF.sp1_len h) (fun cdv A outer s H vs Q E hr tk h => ?_)
  obtain ⟨self, rfl, h⟩ := h
  have ND := (sc_Hand_chosen).nd
  refine ⟨_, (pss_cons (ps_while (passes_of rfl) (pt_val (pe_ix (ixl K) (pfld K (pv 0) rfl) (pfld K (pv 0) rfl) (fun _ _ => rfl)))
 (pss_cons (ps_asg pe_bl (pg_sub (pfld K (pv 0) rfl) (pfld K (pv 0) rfl) set_list))
 (pss_one (ps_expr (pml K (pe_ml0 (pv 0) (f_cls_Hand T) (f_meth_Hand_step T) G_Hand_step (hr.mono (by decide)) tk))))))
 (pss_cons (ps_set (i := 1) ND rfl (Or.inl rfl) (pfld K (pv 0) rfl))
 (pss_cons (ps_expr (pml K (pe_ml0 (pv 0) (f_cls_Hand T) (f_meth_Hand_step T) G_Hand_step (hr.mono (by decide)) tk)))
 (pss_one (ps_ret (pv 1)))))), ?_⟩
  rw [show start ["self", "frame"] [self] = [some self, none] from rfl]
  try dsimp only [LF.bodyX, L2.cxOf]
  clear ND hr tk G_Hand_step
  obtain ⟨p, dx, l, bs, a, k, f, a', bs', rfl, C, e, h⟩ := h
  fail "go"
  refine whl (fun m σ H' => ∃ bs1 a1, σ = [some (.ref p), none] ∧ Md [l, p] H H' ∧ HandAt K H' p dx l bs1 a1 ∧ rnd m bs1 a1 = some (f, a', bs')) k ⟨bs, a, rfl, Md.refl, C, e⟩ ?_
  rintro m σ H1 ⟨bs1, a1, rfl, m1, C1, e1⟩
  have hpos := C1.pos
  have hne := C1.ne
  have hg : bs1[((a1 : Nat) : Int).toNat]? = some bs1[a1] := by rw [int_nat]; exact List.getElem?_eq_getElem hpos
  have hd : bs1.getD a1 false = bs1[a1] := by rw [List.getD_eq_getElem?_getD, List.getElem?_eq_getElem hpos]; rfl
  cases m with
  | zero => rw [rnd] at e1; cases e1
  | succ m =>
    rw [rnd, hd] at e1
    fail "go"
    cases z : bs1[a1] with
    | true =>
      rw [z, if_pos rfl] at e1
      refine iteT ⟨fun σ' H' => ∃ bs2 a2, σ' = [some (.ref p), none] ∧ Md [l, p] H H' ∧ HandAt K H' p dx l bs2 a2 ∧ rnd m bs2 a2 = some (f, a', bs'), fun _ _ q => ⟨m, Nat.lt_succ_self m, q⟩, ?_⟩
      fail "go"
      rename_i H2 e2 m2
      have C2 := C1.put m2 e2 (List.length_set ..)
      have l2 : (bs1.set a1 false).length = bs1.length := List.length_set ..
      fail "go"
      intro H3 m3 C3
      rw [l2] at C3
      exact ⟨_, _, rfl, by fail "md", C3, e1⟩
    | false =>
      rw [z, if_neg (by decide)] at e1
      cases e1
      refine iteF ?_
      fail "go"
      intro H3 m3 C3
      fail "go"
      exact h _ (by fail "md") C3
theorem sc__law_cell_at : FnScope ["_law_script", "_law_k"] ["_law_script", "_law_k"] (defScope s__law_cell_at) := ⟨rfl, rfl, rfl, by decide +kernel, rfl, by decide +kernel, by decide +kernel⟩
def q__law_cell_at (K : PySem.W.Frag) (script k : V) (H : Hp) (Q : VK) (E : XK) : Prop := ∃ a ns i, script = .ref a ∧ k = .int i ∧ SqL K H a (ns.map V.int) ∧ 0 ≤ i ∧ Q (.int (cellAt ns i)) H
theorem ok__law_cell_at {P : Program} {w : World} {K : PySem.W.Frag} {mg : Str → Option Value} {base : Heap} (T : TX K mg) : LF.Okf P w K mg base ("_law_cell_at", none) ["_law_script", "_law_k"] [] 1 (LF.sp2 (q__law_cell_at K)) := by
  refine LF.okf_mk T 7 (d := d__law_cell_at) rfl sc__law_cell_at rfl rfl (fun _ _ _ _ _ _ us hl => match us, hl with | [_, _], _ => rfl) (fun vs H Q E h => LF.sp2_len h) (fun cdv A outer s H vs Q E hr tk h => ?_)
  obtain ⟨script, k, rfl, h⟩ := h
  have ND := (sc__law_cell_at).nd
  refine ⟨_, (pss_cons (ps_if (pt_cmpR op_lt (pv 1) (pe_callB (clen K) rfl (f_free_len T) (by decide +kernel) (pa_cons (pv 0) pa_nil)) (nomark _)) (pss_one (ps_ret (pe_ix (ixu K) (pv 0) (pv 1) (fun _ _ => rfl)))) pss_nil)
 (pss_one (ps_ret pe_int))), ?_⟩
  rw [show start ["_law_script", "_law_k"] [script, k] = [some script, some k] from rfl]
  try dsimp only [LF.bodyX, L2.cxOf]
  clear ND hr tk
  obtain ⟨a, ns, i, rfl, rfl, hS, h0, h⟩ := h
  fail "go"
  rw [List.length_map]
  unfold cellAt at h
  refine ifd (fun c => ?_) (fun c => ?_)
  · have e : ns[i.toNat]? = some (ns.getD i.toNat 0) := by
      have hh : i.toNat < ns.length := by omega
      rw [List.getElem?_eq_getElem hh, List.getD_eq_getElem?_getD, List.getElem?_eq_getElem hh]
      rfl
    fail "go"
    exact h
  · have e : ns.getD i.toNat 0 = 0 := by
      rw [List.getD_eq_getElem?_getD, List.getElem?_eq_none_iff.mpr (by omega)]
      rfl
    rw [e] at h
    fail "go"
    exact h
theorem sc__law_whole : FnScope ["_law_found"] ["_law_found"] (defScope s__law_whole) := ⟨rfl, rfl, rfl, by decide +kernel, rfl, by decide +kernel, by decide +kernel⟩
def q__law_whole (K : PySem.W.Frag) (found : V) (H : Hp) (Q : VK) (E : XK) : Prop := ∃ i, found = .int i ∧ Q (.bl true) H
theorem ok__law_whole {P : Program} {w : World} {K : PySem.W.Frag} {mg : Str → Option Value} {base : Heap} (T : TX K mg) : LF.Okf P w K mg base ("_law_whole", none) ["_law_found"] [] 1 (LF.sp1 (q__law_whole K)) := by
  refine LF.okf_mk T 8 (d := d__law_whole) rfl sc__law_whole rfl rfl (fun _ _ _ _ _ _ us hl => match us, hl with | [_], _ => rfl) (fun vs H Q E h => LF.sp1_len h) (fun cdv A outer s H vs Q E hr tk h => ?_)
  obtain ⟨found, rfl, h⟩ := h
  have ND := (sc__law_whole).nd
  refine ⟨_, (pss_one (ps_ret (pe_and (pe_callB (cisi K) rfl (f_free_isinstance T) (by decide +kernel) (pa_cons (pv 0) (pa_cons (pe_bltn (v := .ty "int") rfl (f_free_int T) (by decide +kernel) rfl) pa_nil))) (pe_one (pe_not (pe_callB (cisi K) rfl (f_free_isinstance T) (by decide +kernel) (pa_cons (pv 0) (pa_cons (pe_bltn (v := .ty "bool") rfl (f_free_bool T) (by decide +kernel) rfl) pa_nil)))))))), ?_⟩
  rw [show start ["_law_found"] [found] = [some found] from rfl]
  try dsimp only [LF.bodyX, L2.cxOf]
  clear ND hr tk
  obtain ⟨i, rfl, h⟩ := h
  fail "go"
  exact h
theorem sc__law_round : FnScope ["_law_marks", "_law_at", "_law_k"] ["_law_marks", "_law_at"] (defScope s__law_round) := ⟨rfl, rfl, rfl, by decide +kernel, rfl, by decide +kernel, by decide +kernel⟩
def q__law_round (K : PySem.W.Frag) (marks at_ : V) (H : Hp) (Q : VK) (E : XK) : Prop := ∃ o bs a f a' bs', marks = .ref o ∧ at_ = .int (a : Nat) ∧ H o = some (.lst (bs.map V.bl)) ∧ bs.length ≤ 64 ∧ a < bs.length ∧ rnd (bs.length + 1) bs a = some (f, a', bs') ∧
  ∀ H' t, Md [o] H H' → H' o = some (.lst (bs'.map V.bl)) → New H t → H' t = some (.tup [.int (f : Nat), .int (a' : Nat)]) → Q (.ref t) H'
theorem ok__law_round {P : Program} {w : World} {K : PySem.W.Frag} {mg : Str → Option Value} {base : Heap} (T : TX K mg) : LF.Okf P w K mg base ("_law_round", none) ["_law_marks", "_law_at"] [] 1 (LF.sp2 (q__law_round K)) := by
  refine LF.okf_mk T 9 (d := d__law_round) rfl sc__law_round rfl rfl (fun _ _ _ _ _ _ us hl => match us, hl with | [_, _], _ => rfl) (fun vs H Q E h => LF.sp2_len h) (fun cdv A outer s H vs Q E hr tk h => ?_)
  obtain ⟨marks, at_, rfl, h⟩ := h
  have ND := (sc__law_round).nd
  refine ⟨_, (pss_cons (ps_for (passes_of rfl) rfl (pi_range1 rfl (f_free_range T) (pa_cons (pe_op (uadd K) (pe_callB (clen K) rfl (f_free_len T) (by decide +kernel) (pa_cons (pv 0) pa_nil)) pe_int) pa_nil)) (pg_name (i := 2) ND rfl (Or.inl rfl))
 (pss_cons (ps_if (pt_not (pt_val (pe_ix (ixl K) (pv 0) (pv 1) (fun _ _ => rfl)))) (pss_one (ps_ret (pe_tup (pa_cons (pv 1) (pa_cons (pe_op op_mod (pe_op (uadd K) (pv 1) pe_int) (pe_callB (clen K) rfl (f_free_len T) (by decide +kernel) (pa_cons (pv 0) pa_nil))) pa_nil))))) pss_nil)
 (pss_cons (ps_asg pe_bl (pg_sub (pv 0) (pv 1) set_list))
 (pss_one (ps_set (i := 1) ND rfl (Or.inl rfl) (pe_op op_mod (pe_op (uadd K) (pv 1) pe_int) (pe_callB (clen K) rfl (f_free_len T) (by decide +kernel) (pa_cons (pv 0) pa_nil))))))))
 (pss_one (ps_ret (pe_tup (pa_cons (pe_un un_neg pe_int) (pa_cons (pv 1) pa_nil)))))), ?_⟩
  rw [show start ["_law_marks", "_law_at", "_law_k"] [marks, at_] = [some marks, some at_, none] from rfl]
  try dsimp only [LF.bodyX, L2.cxOf]
  clear ND hr tk
  obtain ⟨o, bs, a, f, a', bs', rfl, rfl, ho, hlen, ha, e, h⟩ := h
  fail "go"
  rw [show (((List.map V.bl bs).length : Int) + 1).toNat = bs.length + 1 by rw [List.length_map]; omega]
  refine for_range (lo := 0) (n := bs.length + 1) (fun i σ H' => Hold (∃ bs1 a1 v, σ = [some (.ref o), some (.int (a1 : Nat)), v] ∧ Md [o] H H' ∧ H' o = some (.lst (bs1.map V.bl)) ∧ bs1.length = bs.length ∧ a1 < bs.length ∧ rnd (bs.length + 1 - i) bs1 a1 = some (f, a', bs'))) (.mk ⟨bs, a, _, rfl, Md.refl, ho, rfl, ha, e⟩) ?_ ?_
  · intro i σ H1 hi hh
    obtain ⟨bs1, a1, v, rfl, m1, ho1, l1, ha1, e1⟩ := hh.out
    clear hh ho
    have hpos : a1 < bs1.length := by omega
    have hg : bs1[((a1 : Nat) : Int).toNat]? = some bs1[a1] := by rw [int_nat]; exact List.getElem?_eq_getElem hpos
    have hd : bs1.getD a1 false = bs1[a1] := by rw [List.getD_eq_getElem?_getD, List.getElem?_eq_getElem hpos]; rfl
    rw [show bs.length + 1 - i = (bs.length - i) + 1 by omega, rnd, hd] at e1
    fail "go"
    cases z : bs1[a1] with
    | true =>
      rw [z, if_pos rfl] at e1
      fail "go"
      rename_i H2 e2 m2
      fail "go"
      exact .mk ⟨_, (a1 + 1) % bs1.length, _, by rw [List.length_map, List.length_set]; rfl, by fail "md", e2, by rw [List.length_set]; exact l1, by rw [← l1]; exact Nat.mod_lt _ (by omega), by rw [show bs.length + 1 - (i + 1) = bs.length - i by omega]; exact e1⟩
    | false =>
      rw [z, if_neg (by decide)] at e1
      cases e1
      fail "go"
      rw [List.length_map] at *
      exact h _ _ (by fail "md") (by fail "hp") (by fail "nw") (by assumption)
  · intro σ H1 hh
    obtain ⟨bs1, a1, v, rfl, m1, ho1, l1, ha1, e1⟩ := hh.out
    rw [Nat.sub_self, rnd] at e1
    cases e1
theorem sc__law_alike : FnScope ["_law_hand", "_law_marks", "_law_at", "_law_found", "_law_where", "_law_truth"] ["_law_hand", "_law_marks", "_law_at"] (defScope s__law_alike) := ⟨rfl, rfl, rfl, by decide +kernel, rfl, by decide +kernel, by decide +kernel⟩
def q__law_alike (K : PySem.W.Frag) (hand marks at_ : V) (H : Hp) (Q : VK) (E : XK) : Prop := ∃ p dx l bs a o, hand = .ref p ∧ marks = .ref o ∧ at_ = .int (a : Nat) ∧ HandAt K H p dx l bs a ∧ H o = some (.lst (bs.map V.bl)) ∧ ∀ H', Md [] H H' → Q (.bl true) H'
local macro_rules | `(tactic| fail "stx") => `(tactic| ((with_reducible show q__law_alike _ _ _ _ _ _ _); refine ⟨_, _, _, _, _, _, rfl, rfl, rfl, (by fail "hnd"), (by fail "hp"), ?_⟩))
theorem ok__law_alike {P : Program} {w : World} {K : PySem.W.Frag} {mg : Str → Option Value} {base : Heap} (T : TX K mg) : LF.Okf P w K mg base ("_law_alike", none) ["_law_hand", "_law_marks", "_law_at"] [] 2 (LF.sp3 (q__law_alike K)) := by
  have G_Hand_at := ok_Hand_at (P := P) (w := w) (base := base) T
  have G_Hand_marks := ok_Hand_marks (P := P) (w := w) (base := base) T
  have G__law_whole := ok__law_whole (P := P) (w := w) (base := base) T
  refine LF.okf_mk T 10 (d := d__law_alike) rfl sc__law_alike rfl rfl (fun _ _ _ _ _ _ us hl => match us, hl with | [_, _, _], _ => rfl) (fun vs H Q E h => LF.sp3_len h) (fun cdv A outer s H vs Q E hr tk h => ?_)
  obtain ⟨hand, marks, at_, rfl, h⟩ := h
  have ND := (sc__law_alike).nd
  refine ⟨_, (pss_cons (ps_set (i := 3) ND rfl (Or.inl rfl) (pml K (pe_ml0 (pv 0) (f_cls_Hand T) (f_meth_Hand_marks T) G_Hand_marks (hr.mono (by decide)) tk)))
 (pss_cons (ps_if (PW.pt (pw_or (pt_not (pt_val (pe_callB (cisi K) rfl (f_free_isinstance T) (by decide +kernel) (pa_cons (pv 3) (pa_cons (pe_bltn (v := .ty "list") rfl (f_free_list T) (by decide +kernel) rfl) pa_nil))))) (pw_or1 (pt_not (pt_val (pe_callB (call' K rfl) rfl (f_free_all T) (by decide +kernel) (pa_cons (pe_lc (own := [("_law_truth", 5)]) (g := gName 5) (tt := tYes) rfl ND (pi_list (pv 3)) (blkOk_by (own := [("_law_truth", 5)]) (N := ["_law_hand", "_law_marks", "_law_at", "_law_found", "_law_where", "_law_truth"]) (sc := (defScope s__law_alike)) (by decide +kernel)) (fun _ _ _ _ _ => (pg_name (i := 5) ND rfl (Or.inl rfl))) (fun _ _ _ _ _ => pts_nil) (fun _ _ _ _ _ => (pe_callB (cisi K) rfl (f_free_isinstance T) (by decide +kernel) (pa_cons (pv 5) (pa_cons (pe_bltn (v := .ty "bool") rfl (f_free_bool T) (by decide +kernel) rfl) pa_nil))))) pa_nil))))))) (pss_one (ps_ret pe_bl)) pss_nil)
 (pss_cons (ps_set (i := 4) ND rfl (Or.inl rfl) (pml K (pe_ml0 (pv 0) (f_cls_Hand T) (f_meth_Hand_at T) G_Hand_at (hr.mono (by decide)) tk)))
 (pss_one (ps_ret (pe_and (pe_cmpR (ueq K hr.units) (pv 3) (pv 1) (nomark _)) (pe_and (pe_cl G__law_whole (hr.mono (by decide)) rfl (f_glo__law_whole T) tk (by exact (pa_cons (pv 4) pa_nil))) (pe_one (pe_cmpR (ueq K hr.units) (pv 4) (pv 2) (nomark _)))))))))), ?_⟩
  rw [show start ["_law_hand", "_law_marks", "_law_at", "_law_found", "_law_where", "_law_truth"] [hand, marks, at_] = [some hand, some marks, some at_, none, none, none] from rfl]
  try dsimp only [LF.bodyX, L2.cxOf]
  clear ND hr tk G_Hand_at G_Hand_marks G__law_whole
  obtain ⟨p, dx, l, bs, a, o, rfl, rfl, rfl, C, ho, h⟩ := h
  have hl := C.len
  fail "go"
  intro t H1 nt ht m1
  fail "go"
  intro D hD
  refine lc_list (xs := bs.map V.bl) (PvV H1 D fun _ => some (V.bl true)) (.start hD) (fun i H2 hi pv => .of (pv.md.at0 ht)) ?_ ?_
  · intro i x H2 hx pv
    obtain ⟨b, rfl, eb⟩ := bls_at hx
    have hi : i < bs.length := (List.getElem?_eq_some_iff.mp eb).1
    refine ⟨rfl, ?_⟩
    fail "go"
    exact pv.next hD Md.refl rfl (by rw [sizeLine_eq]; omega)
  intro H2 pv
  have hD2 := pv.at_
  rw [fm_const (f := V.bl) (x := true) rfl] at hD2
  have m2 := pv.md
  fail "go"
  refine ⟨D, _, rfl, .of hD2, ?_⟩
  rw [all_rep]
  fail "go"
  refine eq_bb (by fail "sql") (by fail "sql") ?_
  rw [decide_eq_true rfl]
  fail "go"
  exact eqT rfl (h _ (by fail "md"))
theorem sc__law_changed : FnScope ["_law_hand", "_law_marks", "_law_cell", "_law_frame", "_law_k"] ["_law_hand", "_law_marks", "_law_cell"] (defScope s__law_changed) := ⟨rfl, rfl, rfl, by decide +kernel, rfl, by decide +kernel, by decide +kernel⟩
def q__law_changed (K : PySem.W.Frag) (hand marks cell : V) (H : Hp) (Q : VK) (E : XK) : Prop := ∃ p dx l bs a o c, hand = .ref p ∧ marks = .ref o ∧ cell = .int c ∧ HandAt K H p dx l bs a ∧ H o = some (.lst (bs.map V.bl)) ∧ o ≠ l ∧
  ∀ H' bs', Md [l, o] H H' → HandAt K H' p dx l bs' a → H' o = some (.lst (bs'.map V.bl)) → bs'.length = bs.length → Q .non H'
local macro_rules | `(tactic| fail "stx") => `(tactic| ((with_reducible show q__law_changed _ _ _ _ _ _ _); refine ⟨_, _, _, _, _, _, _, rfl, rfl, rfl, (by fail "hnd"), (by fail "hp"), (by fail "ne1"), ?_⟩))
theorem ok__law_changed {P : Program} {w : World} {K : PySem.W.Frag} {mg : Str → Option Value} {base : Heap} (T : TX K mg) : LF.Okf P w K mg base ("_law_changed", none) ["_law_hand", "_law_marks", "_law_cell"] [] 2 (LF.sp3 (q__law_changed K)) := by
  have G_Hand_mark := ok_Hand_mark (P := P) (w := w) (base := base) T
  have G_Hand_unmark := ok_Hand_unmark (P := P) (w := w) (base := base) T
  refine LF.okf_mk T 11 (d := d__law_changed) rfl sc__law_changed rfl rfl (fun _ _ _ _ _ _ us hl => match us, hl with | [_, _, _], _ => rfl) (fun vs H Q E h => LF.sp3_len h) (fun cdv A outer s H vs Q E hr tk h => ?_)
  obtain ⟨hand, marks, cell, rfl, h⟩ := h
  have ND := (sc__law_changed).nd
  refine ⟨_, (pss_cons (ps_set (i := 3) ND rfl (Or.inl rfl) (pe_op op_mod (pe_op u_div (pv 2) pe_int) (pe_callB (clen K) rfl (f_free_len T) (by decide +kernel) (pa_cons (pv 1) pa_nil))))
 (pss_one (ps_if (pt_cmpR (ueq K hr.units) (pe_op op_mod (pv 2) pe_int) pe_int (nomark _)) (pss_cons (ps_expr (pml K (pe_ml (pv 0) (f_cls_Hand T) (f_meth_Hand_mark T) G_Hand_mark (hr.mono (by decide)) tk (by exact (pa_cons (pv 3) pa_nil)))))
 (pss_one (ps_asg pe_bl (pg_sub (pv 1) (pv 3) set_list)))) (pss_one (ps_if (pt_cmpR (ueq K hr.units) (pe_op op_mod (pv 2) pe_int) pe_int (nomark _)) (pss_cons (ps_expr (pml K (pe_ml (pv 0) (f_cls_Hand T) (f_meth_Hand_unmark T) G_Hand_unmark (hr.mono (by decide)) tk (by exact (pa_cons (pv 3) pa_nil)))))
 (pss_one (ps_asg pe_bl (pg_sub (pv 1) (pv 3) set_list)))) (pss_one (ps_for (passes_of rfl) rfl (pi_range1 rfl (f_free_range T) (pa_cons (pe_callB (clen K) rfl (f_free_len T) (by decide +kernel) (pa_cons (pv 1) pa_nil)) pa_nil)) (pg_name (i := 4) ND rfl (Or.inl rfl))
 (pss_cons (ps_expr (pml K (pe_ml (pv 0) (f_cls_Hand T) (f_meth_Hand_mark T) G_Hand_mark (hr.mono (by decide)) tk (by exact (pa_cons (pv 4) pa_nil)))))
 (pss_one (ps_asg pe_bl (pg_sub (pv 1) (pv 4) set_list))))))))))), ?_⟩
  rw [show start ["_law_hand", "_law_marks", "_law_cell", "_law_frame", "_law_k"] [hand, marks, cell] = [some hand, some marks, some cell, none, none] from rfl]
  try dsimp only [LF.bodyX, L2.cxOf]
  clear ND hr tk G_Hand_mark G_Hand_unmark
  obtain ⟨p, dx, l, bs, a, o, c, rfl, rfl, rfl, C, ho, hne, h⟩ := h
  have hl := C.len
  have hpos := C.pos
  have npo : p ≠ o := ne_of C.ins ho (by intro z; cases z)
  fail "go"
  rw [List.length_map]
  have f0 := Int.emod_nonneg (c / 4) (show (bs.length : Int) ≠ 0 by omega)
  have f1 := Int.emod_lt_of_pos (c / 4) (show (0 : Int) < bs.length by omega)
  fail "go"
  refine ifd (fun z => ?_) (fun z => ?_)
  · fail "go"
    intro H1 m1 C1
    fail "go"
    rename_i H2 e2 m2
    exact h _ _ (by fail "md") (by fail "hnd") e2 (List.length_set ..)
  fail "go"
  refine ifd (fun z => ?_) (fun z => ?_)
  · fail "go"
    intro H1 m1 C1
    fail "go"
    rename_i H2 e2 m2
    exact h _ _ (by fail "md") (by fail "hnd") e2 (List.length_set ..)
  fail "go"
  rw [show ((List.map V.bl bs).length : Int).toNat = bs.length by rw [List.length_map]; omega]
  refine for_range (lo := 0) (n := bs.length) (fun i σ H' => Hold (∃ v bs1, σ = [some (.ref p), some (.ref o), some (.int c), some (.int (c / 4 % bs.length)), v] ∧ Md [l, o] H H' ∧ HandAt K H' p dx l bs1 a ∧ H' o = some (.lst (bs1.map V.bl)) ∧ bs1.length = bs.length)) (.mk ⟨_, bs, rfl, Md.refl, C, ho, rfl⟩) ?_ ?_
  · intro i σ H1 hi hh
    obtain ⟨v, bs1, rfl, m1, C1, ho1, l1⟩ := hh.out
    clear hh ho C
    fail "go"
    intro H2 m2 C2
    fail "go"
    rename_i H3 e3 m3
    exact .mk ⟨_, _, rfl, by fail "md", by fail "hnd", e3, by rw [List.length_set]; exact l1⟩
  · intro σ H1 hh
    obtain ⟨v, bs1, rfl, m1, C1, ho1, l1⟩ := hh.out
    exact h _ bs1 m1 C1 ho1 l1
theorem sc__law_refused : FnScope ["_law_many", "_law_refused_here", "e"] ["_law_many"] (defScope s__law_refused) := ⟨rfl, rfl, rfl, by decide +kernel, rfl, by decide +kernel, by decide +kernel⟩
def q__law_refused (K : PySem.W.Frag) (many : V) (H : Hp) (Q : VK) (E : XK) : Prop := ∃ n, many = .int n ∧ ¬ (1 ≤ n ∧ n ≤ 64) ∧ ∀ H', Md [] H H' → Q (.bl true) H'
local macro_rules | `(tactic| fail "stx") => `(tactic| ((with_reducible show q__law_refused _ _ _ _ _); refine ⟨_, rfl, by omega, ?_⟩))
theorem ok__law_refused {P : Program} {w : World} {K : PySem.W.Frag} {mg : Str → Option Value} {base : Heap} (T : TX K mg) : LF.Okf P w K mg base ("_law_refused", none) ["_law_many"] [] 3 (LF.sp1 (q__law_refused K)) := by
  have G_Hand___init__ := ok_Hand___init__ (P := P) (w := w) (base := base) T
  refine LF.okf_mk T 12 (d := d__law_refused) rfl sc__law_refused rfl rfl (fun _ _ _ _ _ _ us hl => match us, hl with | [_], _ => rfl) (fun vs H Q E h => LF.sp1_len h) (fun cdv A outer s H vs Q E hr tk h => ?_)
  obtain ⟨many, rfl, h⟩ := h
  have ND := (sc__law_refused).nd
  refine ⟨_, (pss_cons (ps_set (i := 1) ND rfl (Or.inl rfl) pe_bl)
 (pss_cons (ps_try_as (i := 2) rfl rfl ND rfl rfl ⟨rfl, by decide, .inl (f_glo_LeafError T)⟩ tk (fun W pn xe tk PO => eqn (pss_one (ps_expr (pmk K (pe_mk (f_mkr_Hand T) G_Hand___init__ (hr.mono (by decide)) rfl (f_glo_Hand T) tk (by exact (pa_cons (pv 0) pa_nil)))))) rfl)
 (fun a oe cls d pn hz hf => eqn (pss_one (ps_set (i := 1) ND rfl (Or.inl rfl) (pe_and (pe_callB (uc_isE K hz hf) rfl (f_free_isinstance T) (by decide +kernel) (pa_cons (pv 2) (pa_cons (pe_glob (v := .ref (He.ga K "NoShape")) rfl (f_glo_NoShape T) rfl) pa_nil))) (pe_and (pe_callB (uc_isE K hz hf) rfl (f_free_isinstance T) (by decide +kernel) (pa_cons (pv 2) (pa_cons (pe_bltn (v := .ty "ValueError") rfl (f_free_ValueError T) (by decide +kernel) rfl) pa_nil))) (pe_one (pe_not (pe_callB (uc_isE K hz hf) rfl (f_free_isinstance T) (by decide +kernel) (pa_cons (pv 2) (pa_cons (pe_glob (v := .ref (He.ga K "NoNumber")) rfl (f_glo_NoNumber T) rfl) pa_nil))))))))) rfl))
 (pss_one (ps_ret (pv 1))))), ?_⟩
  rw [show start ["_law_many", "_law_refused_here", "e"] [many] = [some many, none, none] from rfl]
  try dsimp only [LF.bodyX, L2.cxOf]
  clear ND hr tk G_Hand___init__
  obtain ⟨n, rfl, hn, h⟩ := h
  fail "go"
  refine fun _ => ?_
  fail "go"
  exact h _ (by fail "md")
theorem sc_law : FnScope ["_law_script", "_law_first", "_law_many", "_law_hand", "_law_beside", "_law_marks", "_law_at", "_law_steps", "_law_held", "_law_cell", "_law_frame", "_law_due", "_law_told", "_law_far", "_law_one", "_law_other"] ["_law_script"] (defScope s_law) := ⟨rfl, rfl, rfl, by decide +kernel, rfl, by decide +kernel, by decide +kernel⟩
abbrev q_law := LF.qLaw
/-- what is held: pairs of lists alike, outside of M -/
structure HeldB (H : Hp) (M hs : List Addr) : Prop where
  all : ∀ x ∈ hs, ∃ (t u : Addr) (bs : List Bool), x ∉ M ∧ t ∉ M ∧ u ∉ M ∧ H x = some (.tup [.ref t, .ref u]) ∧ H t = some (.lst (bs.map V.bl)) ∧ H u = some (.lst (bs.map V.bl))
theorem HeldB.st {H H' : Hp} {L M hs : List Addr} (m : Md L H H') (s : ∀ x ∈ L, x ∈ M ∨ New H x) (k : HeldB H M hs) : HeldB H' M hs := ⟨fun x h => by
  obtain ⟨t, u, bs, n1, n2, n3, e1, e2, e3⟩ := k.all x h
  have w : ∀ {y : Addr} {o : HO}, y ∉ M → H y = some o → H' y = some o := fun n e => m.kp _ _ (fun z => by
    rcases s _ z with q | q
    · exact n q
    · rw [q.eq] at e; cases e) e
  exact ⟨t, u, bs, n1, n2, n3, w n1 e1, w n2 e2, w n3 e3⟩⟩
theorem HeldB.push {H : Hp} {M hs : List Addr} (k : HeldB H M hs) {x t u : Addr} {bs : List Bool} (n1 : x ∉ M) (n2 : t ∉ M) (n3 : u ∉ M) (e1 : H x = some (.tup [.ref t, .ref u])) (e2 : H t = some (.lst (bs.map V.bl))) (e3 : H u = some (.lst (bs.map V.bl))) : HeldB H M (hs ++ [x]) := ⟨fun y h => by
  rcases List.mem_append.mp h with h | h
  · exact k.all y h
  · cases List.mem_singleton.mp h
    exact ⟨t, u, bs, n1, n2, n3, e1, e2, e3⟩⟩
structure LawK (K : PySem.W.Frag) (H : Hp) (m : Nat) (p dx l o p2 dx2 l2 q s hl sl : Addr) (sc : List Int) (i : Nat) (bs bs2 : List Bool) (a a2 : Nat) (hs : List Addr) : Prop where
  c : HandAt K H p dx l bs a
  ml : bs.length = m
  ho : H o = some (.lst (bs.map V.bl))
  c2 : HandAt K H p2 dx2 l2 bs2 a2
  l3 : bs2.length = 3
  hq : H q = some (.lst (bs2.map V.bl))
  hst : H s = some (.lst [.ref q, .int (a2 : Nat)])
  hh : H hl = some (.lst (hs.map V.ref))
  hb : HeldB H [p, l, o, p2, l2, q, s, hl] hs
  hn : hs.length = i
  sl : H sl = some (.lst (sc.map V.int))
local macro_rules | `(tactic| fail "hlb") => `(tactic| (first | assumption | exact HeldB.st (by assumption) (by fail "sub") (by fail "hlb") | fail "none"))
theorem ok_law {P : Program} {w : World} {K : PySem.W.Frag} {mg : Str → Option Value} (T : TX K mg) : LF.OkL P w K mg ("law", none) "_law_script" 4 (LF.sp1 (q_law K)) := by
  refine LF.okl_mk T 13 (d := d_law) rfl sc_law rfl rfl (fun _ _ _ _ _ _ us hl => match us, hl with | [_], _ => rfl) (fun vs H Q E h => LF.sp1_len h) (fun base cdv A outer s H vs Q E hr tk h => ?_)
  have G_Hand___init__ := ok_Hand___init__ (P := P) (w := w) (base := base) T
  have G_Hand_chosen := ok_Hand_chosen (P := P) (w := w) (base := base) T
  have G_Hand_mark := ok_Hand_mark (P := P) (w := w) (base := base) T
  have G_Hand_marks := ok_Hand_marks (P := P) (w := w) (base := base) T
  have G__law_alike := ok__law_alike (P := P) (w := w) (base := base) T
  have G__law_cell_at := ok__law_cell_at (P := P) (w := w) (base := base) T
  have G__law_changed := ok__law_changed (P := P) (w := w) (base := base) T
  have G__law_refused := ok__law_refused (P := P) (w := w) (base := base) T
  have G__law_round := ok__law_round (P := P) (w := w) (base := base) T
  have G__law_whole := ok__law_whole (P := P) (w := w) (base := base) T
  obtain ⟨script, rfl, h⟩ := h
  have ND := (sc_law).nd
  refine ⟨_, (pss_cons (ps_set (i := 1) ND rfl (Or.inl rfl) (pe_cl G__law_cell_at (hr.mono (by decide)) rfl (f_glo__law_cell_at T) tk (by exact (pa_cons (pv 0) (pa_cons pe_int pa_nil)))))
 (pss_cons (ps_set (i := 2) ND rfl (Or.inl rfl) (pe_op (uadd K) pe_int (pe_op op_mod (pe_op u_div (pv 1) pe_int) pe_int)))
 (pss_cut (ps_if (pt_cmpR (ueq K hr.units) (pe_op op_mod (pv 1) pe_int) pe_int (nomark _)) (pss_one (ps_set (i := 2) ND rfl (Or.inl rfl) (pe_op (uadd K) pe_int (pe_op op_mod (pe_op u_div (pv 1) pe_int) pe_int)))) pss_nil)
 (pss_cons (ps_set (i := 3) ND rfl (Or.inl rfl) (pmk K (pe_mk (f_mkr_Hand T) G_Hand___init__ (hr.mono (by decide)) rfl (f_glo_Hand T) tk (by exact (pa_cons (pv 2) pa_nil)))))
 (pss_cons (ps_set (i := 4) ND rfl (Or.inl rfl) (pmk K (pe_mk (f_mkr_Hand T) G_Hand___init__ (hr.mono (by decide)) rfl (f_glo_Hand T) tk (by exact (pa_cons pe_int pa_nil)))))
 (pss_cons (ps_set (i := 5) ND rfl (Or.inl rfl) (pe_op u_mul (pe_lst (pa_cons pe_bl pa_nil)) (pv 2)))
 (pss_cons (ps_set (i := 6) ND rfl (Or.inl rfl) pe_int)
 (pss_cons (ps_set (i := 7) ND rfl (Or.inl rfl) (pe_lst (pa_cons (pe_lst (pa_cons pe_bl (pa_cons pe_bl (pa_cons pe_bl pa_nil)))) (pa_cons pe_int pa_nil))))
 (pss_cons (ps_set (i := 8) ND rfl (Or.inl rfl) (pe_lst pa_nil))
 (pss_cons (ps_if (pt_not (pt_val (pe_cl G__law_alike (hr.mono (by decide)) rfl (f_glo__law_alike T) tk (by exact (pa_cons (pv 3) (pa_cons (pv 5) (pa_cons pe_int pa_nil))))))) (pss_one (ps_ret pe_bl)) pss_nil)
 (pss_cons (ps_for (passes_of rfl) rfl (pi_list (pe_slice (sll K) (pv 0) (po_some pe_int) (po_some pe_int))) (pg_name (i := 9) ND rfl (Or.inl rfl))
 (pss_cut (ps_if (pt_cmpR op_gt (pe_op op_mod (pe_op u_div (pv 9) pe_int) pe_int) pe_int (nomark _)) (pss_cons (ps_set (i := 10) ND rfl (Or.inl rfl) (pml K (pe_ml0 (pv 3) (f_cls_Hand T) (f_meth_Hand_chosen T) G_Hand_chosen (hr.mono (by decide)) tk)))
 (pss_cons (ps_asg (pe_cl G__law_round (hr.mono (by decide)) rfl (f_glo__law_round T) tk (by exact (pa_cons (pv 5) (pa_cons (pv 6) pa_nil)))) (pg_tup rfl (pgs_cons (pg_name (i := 11) ND rfl (Or.inl rfl)) (pgs_cons (pg_name (i := 6) ND rfl (Or.inl rfl)) pgs_nil))))
 (pss_one (ps_if (PW.pt (pw_or (pt_not (pt_val (pe_cl G__law_whole (hr.mono (by decide)) rfl (f_glo__law_whole T) tk (by exact (pa_cons (pv 10) pa_nil))))) (pw_or1 (pt_cmpR (une K hr.units) (pv 10) (pv 11) (nomark _))))) (pss_one (ps_ret pe_bl)) pss_nil)))) (pss_one (ps_expr (pe_cl G__law_changed (hr.mono (by decide)) rfl (f_glo__law_changed T) tk (by exact (pa_cons (pv 3) (pa_cons (pv 5) (pa_cons (pv 9) pa_nil))))))))
 (pss_cut (ps_if (pt_cmpR (ueq K hr.units) (pe_op op_mod (pv 9) pe_int) pe_int (nomark _)) (pss_cons (ps_asg (pe_cl G__law_round (hr.mono (by decide)) rfl (f_glo__law_round T) tk (by exact (pa_cons (pe_ix (ixl K) (pv 7) pe_int (fun _ _ => rfl)) (pa_cons (pe_ix (ixl K) (pv 7) pe_int (fun _ _ => rfl)) pa_nil)))) (pg_tup rfl (pgs_cons (pg_name (i := 11) ND rfl (Or.inl rfl)) (pgs_cons (pg_sub (pv 7) pe_int set_list) pgs_nil))))
 (pss_cons (ps_if (pt_cmpR (une K hr.units) (pml K (pe_ml0 (pv 4) (f_cls_Hand T) (f_meth_Hand_chosen T) G_Hand_chosen (hr.mono (by decide)) tk)) (pv 11) (nomark _)) (pss_one (ps_ret pe_bl)) pss_nil)
 (pss_cons (ps_expr (pml K (pe_ml (pv 4) (f_cls_Hand T) (f_meth_Hand_mark T) G_Hand_mark (hr.mono (by decide)) tk (by exact (pa_cons (pv 11) pa_nil)))))
 (pss_one (ps_asg pe_bl (pg_sub (pe_ix (ixl K) (pv 7) pe_int (fun _ _ => rfl)) (pv 11) set_list)))))) pss_nil)
 (pss_cons (ps_if (PW.pt (pw_or (pt_not (pt_val (pe_cl G__law_alike (hr.mono (by decide)) rfl (f_glo__law_alike T) tk (by exact (pa_cons (pv 3) (pa_cons (pv 5) (pa_cons (pv 6) pa_nil))))))) (pw_or1 (pt_not (pt_val (pe_cl G__law_alike (hr.mono (by decide)) rfl (f_glo__law_alike T) tk (by exact (pa_cons (pv 4) (pa_cons (pe_ix (ixl K) (pv 7) pe_int (fun _ _ => rfl)) (pa_cons (pe_ix (ixl K) (pv 7) pe_int (fun _ _ => rfl)) pa_nil)))))))))) (pss_one (ps_ret pe_bl)) pss_nil)
 (pss_cons (ps_set (i := 12) ND rfl (Or.inl rfl) (pml K (pe_ml0 (pv 3) (f_cls_Hand T) (f_meth_Hand_marks T) G_Hand_marks (hr.mono (by decide)) tk)))
 (pss_one (ps_expr (pbm K (pe_bm PySem.F.plainAttrs_list PySem.F.slot_list_append PySem.F.type_list_append mt_append (pv 8) (pa_cons (pe_tup (pa_cons (pv 12) (pa_cons (pe_callTy (clist K) rfl (f_free_list T) (by decide +kernel) (pa_cons (pv 12) pa_nil)) pa_nil))) pa_nil))))))))))
 (pss_cons (ps_set (i := 13) ND rfl (Or.inl rfl) (pe_op op_mod (pe_op u_div (pv 1) pe_int) (pe_op op_pow pe_int pe_int)))
 (pss_cons (ps_if (PW.pt (pw_or (pt_not (pt_val (pe_cl G__law_refused (hr.mono (by decide)) rfl (f_glo__law_refused T) tk (by exact (pa_cons (pe_op op_sub pe_int (pv 13)) pa_nil))))) (pw_or (pt_not (pt_val (pe_cl G__law_refused (hr.mono (by decide)) rfl (f_glo__law_refused T) tk (by exact (pa_cons (pe_op (uadd K) pe_int (pv 13)) pa_nil))))) (pw_or1 (pt_not (pt_val (pe_cl G__law_refused (hr.mono (by decide)) rfl (f_glo__law_refused T) tk (by exact (pa_cons (pe_ix (ixl K) (pe_lst (pa_cons pe_int (pa_cons pe_int pa_nil))) (pe_op op_mod (pv 1) pe_int) (fun _ _ => rfl)) pa_nil))))))))) (pss_one (ps_ret pe_bl)) pss_nil)
 (pss_cons (ps_if (pt_not (pt_val (pe_callB (call' K rfl) rfl (f_free_all T) (by decide +kernel) (pa_cons (pe_lc (own := [("_law_one", 14), ("_law_other", 15)]) (g := gTup K 2 (gCons (gName 14) (gCons (gName 15) (gNil)))) (tt := tYes) rfl ND (pi_list (pv 8)) (blkOk_by (own := [("_law_one", 14), ("_law_other", 15)]) (N := ["_law_script", "_law_first", "_law_many", "_law_hand", "_law_beside", "_law_marks", "_law_at", "_law_steps", "_law_held", "_law_cell", "_law_frame", "_law_due", "_law_told", "_law_far", "_law_one", "_law_other"]) (sc := (defScope s_law)) (by decide +kernel)) (fun _ _ _ _ _ => (pg_tup rfl (pgs_cons (pg_name (i := 14) ND rfl (Or.inl rfl)) (pgs_cons (pg_name (i := 15) ND rfl (Or.inl rfl)) pgs_nil)))) (fun _ _ _ _ _ => pts_nil) (fun _ _ _ _ _ => (pe_cmpR (ueq K hr.units) (pv 14) (pv 15) (nomark _)))) pa_nil)))) (pss_one (ps_ret pe_bl)) pss_nil)
 (pss_cons (ps_expr (pbm0 K (pe_bm0 PySem.F.plainAttrs_list PySem.F.slot_list_clear PySem.F.type_list_clear mt_clear (pml K (pe_ml0 (pv 3) (f_cls_Hand T) (f_meth_Hand_marks T) G_Hand_marks (hr.mono (by decide)) tk)))))
 (pss_one (ps_ret (pe_cl G__law_alike (hr.mono (by decide)) rfl (f_glo__law_alike T) tk (by exact (pa_cons (pv 3) (pa_cons (pv 5) (pa_cons (pv 6) pa_nil)))))))))))))))))))))), ?_⟩
  rw [show start ["_law_script", "_law_first", "_law_many", "_law_hand", "_law_beside", "_law_marks", "_law_at", "_law_steps", "_law_held", "_law_cell", "_law_frame", "_law_due", "_law_told", "_law_far", "_law_one", "_law_other"] [script] = [some script, none, none, none, none, none, none, none, none, none, none, none, none, none, none, none] from rfl]
  try dsimp only [LF.bodyX, L2.cxOf]
  clear ND hr tk G_Hand___init__ G_Hand_chosen G_Hand_mark G_Hand_marks G__law_alike G__law_cell_at G__law_changed G__law_refused G__law_round G__law_whole
  obtain ⟨a, sc, rfl, hS, hlen, _, h⟩ := h
  fail "go"
  refine cut (fun σ' H' => Hold (∃ w m, σ' = [some (.ref a), some (.int w), some (.int m), none, none, none, none, none, none, none, none, none, none, none, none, none] ∧ H' = H ∧ 1 ≤ m ∧ m ≤ 64)) ?_ ?_
  · fail "go"
    refine ifd (fun z => ?_) (fun z => ?_)
    · fail "go"
      exact .mk ⟨_, _, rfl, rfl, by omega, by omega⟩
    · exact .mk ⟨_, _, rfl, rfl, by omega, by omega⟩
  intro σ' H' hh
  obtain ⟨w, m, rfl, rfl, m0, m1⟩ := hh.out
  clear hh
  fail "go"
  rename_i p dx H0 np hp0 mp
  refine And.intro (fun _ H1 l md nl C => ?_) (fun q => absurd ⟨m0, m1⟩ q)
  fail "go"
  rename_i p2 dx2 H0' np2 hp2 mp2
  refine And.intro (fun _ H2 l2 md2 nl2 C2 => ?_) (fun q => absurd (by decide) q)
  fail "go"
  rename_i o no H4 ho mo q nq H5 hq mq s ns H6 hs ms hl nhl H7 hhl mhl
  intro H8 m8
  fail "go"
  rename_i sl nsl H9 hsl m9
  have a1 : o ≠ l := by fail "ne1"
  have a2 : l2 ≠ l := by fail "ne1"
  have a3 : q ≠ l := by fail "ne1"
  have a4 : s ≠ l := by fail "ne1"
  have a5 : hl ≠ l := by fail "ne1"
  have a6 : sl ≠ l := by fail "ne1"
  have b1 : l2 ≠ o := by fail "ne1"
  have b2 : q ≠ o := by fail "ne1"
  have b3 : s ≠ o := by fail "ne1"
  have b4 : hl ≠ o := by fail "ne1"
  have b5 : sl ≠ o := by fail "ne1"
  have c1 : q ≠ l2 := by fail "ne1"
  have c2 : s ≠ l2 := by fail "ne1"
  have c3 : hl ≠ l2 := by fail "ne1"
  have c4 : sl ≠ l2 := by fail "ne1"
  have d1 : s ≠ q := by fail "ne1"
  have d2 : hl ≠ q := by fail "ne1"
  have d3 : sl ≠ q := by fail "ne1"
  have d4 : hl ≠ s := by fail "ne1"
  have d5 : sl ≠ s := by fail "ne1"
  have d6 : sl ≠ hl := by fail "ne1"
  have pp : p2 ≠ p := by fail "ne1"
  have ep_l : p ≠ l := by fail "ne1"
  have ep_o : p ≠ o := by fail "ne1"
  have ep_l2 : p ≠ l2 := by fail "ne1"
  have ep_q : p ≠ q := by fail "ne1"
  have ep_s : p ≠ s := by fail "ne1"
  have ep_hl : p ≠ hl := by fail "ne1"
  have ep_sl : p ≠ sl := by fail "ne1"
  have ep2_l : p2 ≠ l := by fail "ne1"
  have ep2_o : p2 ≠ o := by fail "ne1"
  have ep2_l2 : p2 ≠ l2 := by fail "ne1"
  have ep2_q : p2 ≠ q := by fail "ne1"
  have ep2_s : p2 ≠ s := by fail "ne1"
  have ep2_hl : p2 ≠ hl := by fail "ne1"
  have ep2_sl : p2 ≠ sl := by fail "ne1"
  have L0 : LawK K H9 m.toNat p dx l o p2 dx2 l2 q s hl sl (cutI sc (some 1) (some 80)) 0 (List.replicate m.toNat false) [false, false, false] 0 0 [] := ⟨by fail "hnd", List.length_replicate, by fail "hp", by fail "hnd", rfl, by fail "hp", by fail "hp", by fail "hp", ⟨fun _ h => by cases h⟩, rfl, by fail "hp"⟩
  clear m9 nsl hsl m8 mhl hhl nhl ms hs ns mq hq nq mo ho no C2 md2 nl2 mp2 hp2 np2 C nl md mp hp0 np hS
  refine for_list (xs := (cutI sc (some 1) (some 80)).map V.int) (fun i σ H => Hold (∃ v1 v2 v3 v4 bs bs2 at1 at2 hs, σ = [some (.ref a), some (.int w), some (.int m), some (.ref p), some (.ref p2), some (.ref o), some (.int (at1 : Nat)), some (.ref s), some (.ref hl), v1, v2, v3, v4, none, none, none] ∧ LawK K H m.toNat p dx l o p2 dx2 l2 q s hl sl (cutI sc (some 1) (some 80)) i bs bs2 at1 at2 hs)) ?_ ?_ ?_ ?_
  · exact .mk ⟨_, _, _, _, _, _, _, _, _, rfl, L0⟩
  · intro i σ H hi hh
    obtain ⟨v1, v2, v3, v4, bs, bs2, at1, at2, hs, rfl, L⟩ := hh.out
    exact .of L.sl
  · intro i x σ H hx hh
    obtain ⟨v1, v2, v3, v4, bs, bs2, at1, at2, hs, rfl, ⟨C, ml, ho, C2, l3, hq, hs', hhl, hb, hn, hsl⟩⟩ := hh.out
    obtain ⟨cell, rfl, ecell⟩ := ints_at hx
    have hn63 : hs.length ≤ 63 := by
      have q1 := (List.getElem?_eq_some_iff.mp ecell).1
      have q2 := cutI_len (ns := sc) (lo := some 1) (hi := some 80)
      omega
    have bp := C.pos
    have bp2 := C2.pos
    have bl := C.len
    have bl2 := C2.len
    clear hh L0 hx
    fail "go"
    refine cut (fun σ' H' => Hold (∃ u1 u2 bs' at', σ' = [some (.ref a), some (.int w), some (.int m), some (.ref p), some (.ref p2), some (.ref o), some (.int (at' : Nat)), some (.ref s), some (.ref hl), some (.int cell), u1, u2, v4, none, none, none] ∧ Md [p, l, o] H H' ∧ HandAt K H' p dx l bs' at' ∧ H' o = some (.lst (bs'.map V.bl)) ∧ bs'.length = m.toNat)) ?_ ?_
    · fail "go"
      refine ifd (fun z => ?_) (fun z => ?_)
      · obtain ⟨f, a', bs', er, f1, f2, f3⟩ := rnd_some (bs.length + 1) bs at1 bp (Nat.lt_succ_of_le List.count_le_length)
        fail "go"
        refine ⟨_, _, _, _, _, _, f, a', bs', rfl, (by fail "hnd"), er, ?_⟩
        intro H1 m1 C1
        have npo : p ≠ o := by fail "ne1"
        fail "go"
        refine ⟨o, bs, at1, f, a', bs', rfl, rfl, (by fail "hp"), by omega, bp, er, ?_⟩
        intro H2 t m2 ho2 nt ht
        fail "go"
        exact .mk ⟨_, _, bs', a', rfl, by fail "md", by fail "hnd", by fail "hp", by omega⟩
      · fail "go"
        intro H1 bs' m1 C1 ho1 l1
        exact .mk ⟨_, _, bs', at1, rfl, by fail "md", C1, ho1, by omega⟩
    intro σ' H1 hh
    obtain ⟨u1, u2, bs', at', rfl, m1, C1, ho1, l1⟩ := hh.out
    clear hh
    have bp' := C1.pos
    have bl' := C1.len
    fail "go"
    have pos_ := bp
    refine cut (fun σ' H' => Hold (∃ u3 bs2' at2', σ' = [some (.ref a), some (.int w), some (.int m), some (.ref p), some (.ref p2), some (.ref o), some (.int (at' : Nat)), some (.ref s), some (.ref hl), some (.int cell), u1, u3, v4, none, none, none] ∧ Md [p2, l2, q, s] H1 H' ∧ HandAt K H' p2 dx2 l2 bs2' at2' ∧ H' q = some (.lst (bs2'.map V.bl)) ∧ H' s = some (.lst [.ref q, .int (at2' : Nat)]) ∧ bs2'.length = 3)) ?_ ?_
    · fail "go"
      refine ifd (fun z => ?_) (fun z => ?_)
      · obtain ⟨f, a', br, er, f1, f2, f3⟩ := rnd_some (bs2.length + 1) bs2 at2 bp2 (Nat.lt_succ_of_le List.count_le_length)
        fail "go"
        refine ⟨q, bs2, at2, f, a', br, rfl, rfl, (by fail "hp"), by omega, bp2, er, ?_⟩
        intro H2 t m2 hq2 nt ht
        fail "go"
        refine ⟨_, _, _, _, _, _, f, a', br, rfl, (by fail "hnd"), er, ?_⟩
        intro H4 m4 C4
        fail "go"
        intro H5 m5 C5
        fail "go"
        rename_i H6 h6 m6
        rw [int_nat] at C5
        exact .mk ⟨_, _, a', rfl, by fail "md", by fail "hnd", h6, by fail "hp", by rw [List.length_set]; omega⟩
      · fail "go"
        exact .mk ⟨_, bs2, at2, rfl, Md.refl, by fail "hnd", by fail "hp", by fail "hp", l3⟩
    intro σ' H2 hh
    obtain ⟨u3, bs2', at2', rfl, m2, C2', hq', hs2, l2'⟩ := hh.out
    clear hh
    have bp2' := C2'.pos
    have bl2' := C2'.len
    fail "go"
    intro H3 m3
    fail "go"
    intro H4 m4
    fail "go"
    intro t H5 nt ht m5
    fail "go"
    rename_i u nu H6 hu m6 x nx H7 hx m7 H8 hh8 m8
    exact .mk ⟨_, _, _, _, bs', bs2', at', at2', hs ++ [x], rfl, ⟨by fail "hnd", l1, by fail "hp", by fail "hnd", l2', by fail "hp", by fail "hp", by fail "hp",
      HeldB.push (x := x) (t := t) (u := u) (bs := bs') (by fail "hlb") (by fail "nin") (by fail "nin") (by fail "nin") (by fail "hp") (by fail "hp") (by fail "hp"), by rw [List.length_append, hn]; rfl, by fail "hp"⟩⟩
  · intro σ H hh
    obtain ⟨v1, v2, v3, v4, bs, bs2, at1, at2, hs, rfl, ⟨C, ml, ho, C2, l3, hq, hs', hhl, hb, hn, hsl⟩⟩ := hh.out
    have hn63 : hs.length ≤ 63 := by
      have q2 := cutI_len (ns := sc) (lo := some 1) (hi := some 80)
      rw [hn, List.length_map]
      omega
    have bp := C.pos
    have bl := C.len
    clear hh L0
    fail "go"
    intro H1 m1
    fail "go"
    intro H2 m2
    fail "go"
    have ez : ∃ z, atI [V.int 0, V.int 65] (w % 2) = some (.int z) ∧ ¬ (1 ≤ z ∧ z ≤ 64) := by
      rcases (by omega : w % 2 = 0 ∨ w % 2 = 1) with e | e
      · exact ⟨0, by rw [e]; rfl, by omega⟩
      · exact ⟨65, by rw [e]; rfl, by omega⟩
    obtain ⟨z, ez, nz⟩ := ez
    refine ⟨_, _, _, _, rfl, rfl, SqL.of (by fail "hp"), ez, ?_⟩
    fail "go"
    intro H3 m3
    have hb3 : HeldB H3 [p, l, o, p2, l2, q, s, hl] hs := by fail "hlb"
    fail "go"
    intro D hD
    refine lc_list (xs := hs.map V.ref) (PvV H3 D fun _ => some (V.bl true)) (.start hD) (fun i H2 hi pv => .of (pv.md.at0 (by fail "hp"))) ?_ ?_
    · intro i x H4 hx pv
      obtain ⟨x, rfl, ex⟩ := refs_at hx
      have hi : i < hs.length := (List.getElem?_eq_some_iff.mp ex).1
      have m4 := pv.md
      obtain ⟨t, u, cs, n1, n2, n3, e1, e2, e3⟩ := (HeldB.st m4 sub0 hb3).all x (List.mem_of_getElem? ex)
      fail "go"
      refine eq_bb (by fail "sql") (by fail "sql") ?_
      rw [decide_eq_true rfl]
      exact pv.next hD Md.refl rfl (by rw [sizeLine_eq]; omega)
    intro H4 pv
    have hD2 := pv.at_
    rw [fm_const (f := V.bl) (x := true) rfl] at hD2
    have m4 := pv.md
    fail "go"
    refine ⟨D, _, rfl, .of hD2, ?_⟩
    rw [all_rep]
    fail "go"
    intro t H5 nt ht m5
    fail "go"
    fail "gm"
    fail "go"
    intro H6 m6
    exact h _
end LW
open PySem PySem.W PySem.Calls PyProof.Rows
theorem PySem.Challenge.cw_leafframe_k25_hand_holds : PySem.Challenge.rw_leafframe_k25_hand.Holds := by
  w_on; o_law
  refine HandSHeadRun.head_any (r := OpenLaw.row PySem.Challenge.rw_leafframe_k25_hand) (q := view (OpenLaw.row PySem.Challenge.rw_leafframe_k25_hand).prog [14]) (H := LW.hk) (ob := LW.ob) (M := 4000) (loose := LW.loose) (d := HandSHeadRun.topDef (OpenLaw.row PySem.Challenge.rw_leafframe_k25_hand).prog 14) (kwd := []) LW.ob_eq
    (by kernel_rfl) (fun s => by kernel_rfl) LW.run (by kernel_rfl) (by kernel_rfl) (by kernel_rfl) (by rfl) (by first | assumption | decide +kernel) (by decide +kernel) ⟨rfl, rfl, rfl, rfl, rfl, by decide +kernel⟩ ?hw ?hc
  case hw => w_witness2
  case hc =>
    have e : (HandSHeadRun.topDef (OpenLaw.row PySem.Challenge.rw_leafframe_k25_hand).prog 14).name = ("law" : PySem.Str) := by kernel_rfl
    refine LF.walk_end (l := PySem.Challenge.rw_leafframe_k25_hand) (k := 4) (x := "_law_script") (m := 4) (fa := LW.fa) (fn := LW.fn) (ex := LW.ex) rfl (by kernel_rfl) ⟨rfl, by decide, by decide⟩ 21 (by rw [e]; rfl) ?F
    intro w K mg T
    rw [e]
    exact LW.ok_law T
