import PyProof.Rows.All
import Wide.All
import OpenK.AllK
import Wide.FinOn
import KE.KStateDown
import Lean
import HandS.ForMost
import HandS.ForExc
import HandS.StrMore
import HandS.Replace
import HandS.FStr
import HandS.IsInst
import HandS.ExcIs
import HandS.TryMany
import HandS.ExcCtx
import HandS.Hot
import HandS.HotCalls
import HandS.Wide
import HandS.TupAny
import HandS.Codes
import HandS.Flow
import HandS.Defaults
import HandS.HeadEnd
import HandS.HeadHook1
import HandS.HeadHook2
import HandS.HeadHook3
import HandS.HeadNt
import HandS.ReplaceLit
import HandS.ReplaceList
import HandS.Base
import HandS.Call
import HandS.Exc
import HandS.Head0
import HandS.Head1
import HandS.Head2
import PySem.Challenge.RW_stemkeep_k57_odd_texts
set_option Elab.async false
set_option linter.all false
set_option maxRecDepth 100000
set_option maxHeartbeats 0
/-! ## SkA -/
namespace Sk
open PySem PySem.Spec PyProof.Rows L2
abbrev SS := L2.St

/-! ### defs and methods that may be called -/
abbrev XC (P : Program) (w : World) : CXT := L2N.CX P w
section
variable (P : Program) (w : World) (K : PySem.W.Frag) (mg : Str → Option Value) (base : Heap)
structure Dn (k : Nat) (x : Str) (sp : Sp) : Prop where
  ex : ∃ (f : Addr) (fd : FuncData) (ps : List Str), FnOk P w K mg base (L2N.CX P w) k f fd ps sp ∧ mg x = some (.ref f) ∧ PySem.W.keepIn K (.ref f) = true ∧ Binds K fd ps []
structure Mt (k : Nat) (C : Addr) (m : Str) (sp : Sp) : Prop where
  ex : ∃ (f : Addr) (fd : FuncData) (ps : List Str), Cls K C ∧ Meth K C m f ∧ FnOk P w K mg base (L2N.CX P w) k f fd ps sp ∧ Binds K fd ps []
structure Mn (k : Nat) (x : Str) (C : Addr) (sp : Sp) : Prop where
  ex : ∃ (f : Addr) (fd : FuncData) (ps : List Str), Mk K C f ∧ FnOk P w K mg base (L2N.CX P w) k f fd ps sp ∧ mg x = some (.ref C) ∧ Binds K fd ps []
end
section
variable {P : Program} {w : World} {K : PySem.W.Frag} {mg : Str → Option Value} {base : Heap}
theorem Dn.mono {j k : Nat} {x : Str} {sp : Sp} (D : Dn P w K mg base j x sp) (h : j ≤ k) : Dn P w K mg base k x sp := by
  obtain ⟨f, fd, ps, F, a, b, c⟩ := D.ex
  exact ⟨f, fd, ps, F.mono h, a, b, c⟩
theorem Dn.imp {k : Nat} {x : Str} {sp sp' : Sp} (D : Dn P w K mg base k x sp) (h : ∀ vs H Q E, sp' vs H Q E → sp vs H Q E) : Dn P w K mg base k x sp' := by
  obtain ⟨f, fd, ps, F, a, b, c⟩ := D.ex
  exact ⟨f, fd, ps, F.imp h, a, b, c⟩
theorem Mt.mono {j k : Nat} {C : Addr} {x : Str} {sp : Sp} (D : Mt P w K mg base j C x sp) (h : j ≤ k) : Mt P w K mg base k C x sp := by
  obtain ⟨f, fd, ps, c, m, F, b⟩ := D.ex
  exact ⟨f, fd, ps, c, m, F.mono h, b⟩
/-- the body's proof is the def's -/
theorem okN {x qual : Str} {st : Stmt} {f : Addr} {fd : FuncData} {N ps : List Str} {k : Nat} {sp : Sp} (F : Fun K x qual st f fd) (S : FnScope N ps (defScope st)) (len : ∀ vs H Q E, sp vs H Q E → vs.length = ps.length)
    (body : ∀ (cdv : Value) (A : Around) (outer : List Env) (s : Shared) (H : Hp) (vs : List V) (Q : VK) (E : XK), Room k (A.deeper (envOfC qual (defScope st) s.heap.objs.size f cdv)) → L2N.Takes (cxOf (L2N.CX P w) P w K mg base N qual (defScope st) f cdv A outer s H E) (fun cls d _ H => E cls d H) → sp vs H Q E →
      ∃ t, PSs (cxOf (L2N.CX P w) P w K mg base N qual (defScope st) f cdv A outer s H E) (defBody st) t ∧ t { nx := fun _ H' => Q .non H', rt := Q } (start N vs) H) : FnOk P w K mg base (L2N.CX P w) (k + 1) f fd ps sp := by
  obtain ⟨_, _, _, _, _, _, cdv, _, _, rfl, hl, hc⟩ := F.ex
  exact fn_of hl hc S len fun A outer s H vs Q E hr h => body cdv A outer s H vs Q E hr (L2N.takes_of rfl rfl rfl rfl) h
/-- a def by its body -/
theorem dn_mk {x : Str} {st : Stmt} {f : Addr} {fd : FuncData} {N ps : List Str} {k : Nat} {sp : Sp} (F : Fun K x x st f fd) (hm : mg x = some (.ref f)) (b : Binds K fd ps []) (S : FnScope N ps (defScope st)) (len : ∀ vs H Q E, sp vs H Q E → vs.length = ps.length)
    (hbody : ∀ (cdv : Value) (A : Around) (outer : List Env) (s : Shared) (H : Hp) (vs : List V) (Q : VK) (E : XK), Room k (A.deeper (envOfC x (defScope st) s.heap.objs.size f cdv)) → L2N.Takes (cxOf (L2N.CX P w) P w K mg base N x (defScope st) f cdv A outer s H E) (fun cls d _ H => E cls d H) → sp vs H Q E →
      ∃ t, PSs (cxOf (L2N.CX P w) P w K mg base N x (defScope st) f cdv A outer s H E) (defBody st) t ∧ t { nx := fun _ H' => Q .non H', rt := Q } (start N vs) H) : Dn P w K mg base (k + 1) x sp :=
  ⟨f, fd, ps, okN F S len hbody, hm, F.kp, b⟩
theorem mt_mk {m qual : Str} {C : Addr} {st : Stmt} {f : Addr} {fd : FuncData} {N ps : List Str} {k : Nat} {sp : Sp} (c : Cls K C) (me : Meth K C m f) (F : Fun K m qual st f fd) (b : Binds K fd ps []) (S : FnScope N ps (defScope st)) (len : ∀ vs H Q E, sp vs H Q E → vs.length = ps.length)
    (hbody : ∀ (cdv : Value) (A : Around) (outer : List Env) (s : Shared) (H : Hp) (vs : List V) (Q : VK) (E : XK), Room k (A.deeper (envOfC qual (defScope st) s.heap.objs.size f cdv)) → L2N.Takes (cxOf (L2N.CX P w) P w K mg base N qual (defScope st) f cdv A outer s H E) (fun cls d _ H => E cls d H) → sp vs H Q E →
      ∃ t, PSs (cxOf (L2N.CX P w) P w K mg base N qual (defScope st) f cdv A outer s H E) (defBody st) t ∧ t { nx := fun _ H' => Q .non H', rt := Q } (start N vs) H) : Mt P w K mg base (k + 1) C m sp :=
  ⟨f, fd, ps, c, me, okN F S len hbody, b⟩
theorem mn_mk {x qual : Str} {C : Addr} {st : Stmt} {f : Addr} {fd : FuncData} {N ps : List Str} {k : Nat} {sp : Sp} (M : Mk K C f) (hm : mg x = some (.ref C)) (F : Fun K "__init__" qual st f fd) (b : Binds K fd ps []) (S : FnScope N ps (defScope st)) (len : ∀ vs H Q E, sp vs H Q E → vs.length = ps.length)
    (hbody : ∀ (cdv : Value) (A : Around) (outer : List Env) (s : Shared) (H : Hp) (vs : List V) (Q : VK) (E : XK), Room k (A.deeper (envOfC qual (defScope st) s.heap.objs.size f cdv)) → L2N.Takes (cxOf (L2N.CX P w) P w K mg base N qual (defScope st) f cdv A outer s H E) (fun cls d _ H => E cls d H) → sp vs H Q E →
      ∃ t, PSs (cxOf (L2N.CX P w) P w K mg base N qual (defScope st) f cdv A outer s H E) (defBody st) t ∧ t { nx := fun _ H' => Q .non H', rt := Q } (start N vs) H) : Mn P w K mg base (k + 1) x C sp :=
  ⟨f, fd, ps, M, okN F S len hbody, hm, b⟩
end
section
variable {X : Cx} {k j : Nat} {C : Addr} {x m : Str} {sp : Sp} {E : SS → XK} {p pos apos : Pos} {e o : Expr} {es : List Expr} {ta : TE} {t : TA}
/-- f(..) -/
theorem pe_d (c : Dn X.prog X.w X.K X.mg X.base k x sp) (hr : Room j X.A) (hk : k ≤ j) (hx : ∀ σ, PassesAt (L2N.CX X.prog X.w) X σ (E σ)) (hg : Gl X x) (ha : PA X (e :: es) t)
    (hdb : (x == ("__debug__" : Str)) = false := by decide) (he : starEach (e :: es) X.env = (false, eval e X.env) :: starEach es X.env := by rfl) (hpl : (backTo pos (starEach es X.env)).any (·.1) = false := by rfl) :
    PE X (.Call (.Name x p) (e :: es) [] pos) (tCallS sp E t) := by
  obtain ⟨f, fd, ps, F, hm, kp, b⟩ := c.ex
  exact pe_callS F (hr.mono hk) hg hm kp b hx ha hdb he hpl
/-- o.m(..) -/
def tMethS (C : Addr) (m : Str) (sp : Sp) (E : SS → XK) (ta : TE) (t : TA) : TE := fun σ H Q => ta σ H fun x H1 => ∃ a dx fs, x = .ref a ∧ H1 a = some (.ins C dx fs) ∧ fs.lookup m = none ∧ t σ H1 fun vs H2 => sp (x :: vs) H2 Q (E σ)
theorem pe_m {pl : Sem Bool} (he : PE X o ta) (c : Mt X.prog X.w X.K X.mg X.base k C m sp) (hr : Room j X.A) (hk : k ≤ j) (hx : ∀ σ, PassesAt (L2N.CX X.prog X.w) X σ (E σ)) (ha : PA X (e :: es) t)
    (hst : starEach (e :: es) X.env = (false, eval e X.env) :: starEach es X.env := by rfl) (hpl : (backTo pos (starEach es X.env)).any (·.1) = false := by rfl)
    (ht : eval (.Call (.Attribute o m apos) (e :: es) [] pos) X.env = (do
      let ov ← eval o X.env
      standAt apos.atName
      let (f, first) ← holding [ov] (getMethod ov m pl)
      callWith pos f first (backTo pos (starEach (e :: es) X.env)) (backToKw pos (keywordEach [] X.env))) := by rfl) :
    PE X (.Call (.Attribute o m apos) (e :: es) [] pos) (tMethS C m sp E ta t) := by
  obtain ⟨f, fd, ps, hc, hm, F, b⟩ := c.ex
  refine ⟨fun pins s σ H Q I h => ?_⟩
  refine PySem.W.methodCall_KW (pl := pl) (thn (he.run pins s σ H _ I h) fun u s1 ⟨x, H1, I1, rx, a, dx, fs, ex, ea, l, q⟩ => ?_) ht
  subst ex
  obtain rfl : u = Value.ref a := rx
  refine getmeth_ok I1 ea hc hm l ?_
  refine PySem.W.callWith_K (first := [.ref a]) (h₀ := X.base) I.ok.mod.kin hm.kp (thn (ha.run pos pins s1 σ H1 _ I1 q) fun us s2 ⟨vs, H2, I2, r, q2⟩ => ⟨I2.kIn, ?_⟩) hst hpl
  exact run_fnS (us := .ref a :: us) (vs := .ref a :: vs) F (hr.mono hk) b (hx σ) I2 (.cons rfl r) q2
theorem pe_m0 {pl : Sem Bool} (he : PE X o ta) (c : Mt X.prog X.w X.K X.mg X.base k C m sp) (hr : Room j X.A) (hk : k ≤ j) (hx : ∀ σ, PassesAt (L2N.CX X.prog X.w) X σ (E σ))
    (ht : eval (.Call (.Attribute o m apos) [] [] pos) X.env = (do
      let ov ← eval o X.env
      standAt apos.atName
      let (f, first) ← holding [ov] (getMethod ov m pl)
      callWith pos f first (backTo pos (starEach [] X.env)) (backToKw pos (keywordEach [] X.env))) := by rfl) :
    PE X (.Call (.Attribute o m apos) [] [] pos) (tMethS C m sp E ta tNil) := by
  obtain ⟨f, fd, ps, hc, hm, F, b⟩ := c.ex
  refine ⟨fun pins s σ H Q I h => ?_⟩
  refine PySem.W.methodCall_KW (pl := pl) (thn (he.run pins s σ H _ I h) fun u s1 ⟨x, H1, I1, rx, a, dx, fs, ex, ea, l, q⟩ => ?_) ht
  subst ex
  obtain rfl : u = Value.ref a := rx
  refine getmeth_ok I1 ea hc hm l ?_
  exact PySem.W.callWith_K0 (first := [.ref a]) I1.kIn hm.kp (run_fnS (us := [.ref a]) (vs := [.ref a]) F (hr.mono hk) b (hx σ) I1 (.cons rfl .nil) q)
/-- C(..) -/
def tMakeS (C : Addr) (sp : Sp) (E : SS → XK) (t : TA) : TE := fun σ H Q => t σ H fun vs H1 => ∀ x dx, H1 x = none → H1 dx = none → dx ≠ x →
  sp (.ref x :: vs) (upd (upd H1 dx (.own x)) x (.ins C dx [])) (fun v H2 => v = .non ∧ Q (.ref x) H2) (E σ)
theorem run_makeS {pins : List (Addr × Obj)} {σ : SS} {H : Hp} {s : Shared} {Q : VK} {us : List Value} {vs : List V} {ps : List Str} {fd : FuncData} {f : Addr} {E : XK} (M : Mk X.K C f) (F : FnOk X.prog X.w X.K X.mg X.base (L2N.CX X.prog X.w) k f fd ps sp) (hr : Room (k + 1) X.A) (hb : Binds X.K fd ps [])
    (hx : PassesAt (L2N.CX X.prog X.w) X σ E) (I : Inv X pins σ H s) (r : Vals vs us)
    (h : ∀ x dx, H x = none → H dx = none → dx ≠ x → sp (.ref x :: vs) (upd (upd H dx (.own x)) x (.ins C dx [])) (fun v H2 => v = .non ∧ Q (.ref x) H2) E) :
    wpAny (model X.prog X.w) X.A (call (.ref C) us) (EP X pins σ Q) X.xe s := by
  have hq := h (s.heap.objs.size + 1) s.heap.objs.size (I.hok.fresh (Nat.le_succ _)) (I.hok.fresh (Nat.le_refl _)) (Nat.ne_of_lt (Nat.lt_succ_self _))
  have I2 := Inv.made (C := C) I
  have r2 : Vals (V.ref (s.heap.objs.size + 1) :: vs) (Value.ref (s.heap.objs.size + 1) :: us) := .cons rfl r
  have hl : (Value.ref (s.heap.objs.size + 1) :: us).length = ps.length := by
    have e := r2.length
    rw [F.len _ _ _ _ hq] at e
    exact e.symm
  have b := hb _ (Value.ref (s.heap.objs.size + 1) :: us) I2.kIn (by rw [List.append_nil]; exact hl)
  rw [List.append_nil] at b
  refine wpAny_call (make_map (f := f) I.kIn M.makes M.init (beq_iff_eq.mp M.fn) (codeAny_mono (F.run _ X.stack _ _ ⟨Value.ref (s.heap.objs.size + 1) :: us, []⟩ (Value.ref (s.heap.objs.size + 1) :: us) _ _ E (hr.make C us [])
    (I2.env0.make C us []) b r2 hq) fun r s' hq' => ?_))
  cases r with
  | error e => exact hx pins _ _ e s' I2 hq'
  | ok fl =>
    cases fl with
    | ret u =>
      obtain ⟨v, H', I3, rv, ev, q3⟩ := I2.after hq'
      subst ev
      exact ⟨rv, ⟨V.ref (s.heap.objs.size + 1), H', I3, rfl, q3⟩⟩
    | next => exact False.elim hq'
    | brk => exact False.elim hq'
    | cont => exact False.elim hq'
theorem pe_k (c : Mn X.prog X.w X.K X.mg X.base k x C sp) (hr : Room j X.A) (hk : k + 1 ≤ j) (hx : ∀ σ, PassesAt (L2N.CX X.prog X.w) X σ (E σ)) (hg : Gl X x) (ha : PA X (e :: es) t)
    (hdb : (x == ("__debug__" : Str)) = false := by decide) (he : starEach (e :: es) X.env = (false, eval e X.env) :: starEach es X.env := by rfl) (hpl : (backTo pos (starEach es X.env)).any (·.1) = false := by rfl) :
    PE X (.Call (.Name x p) (e :: es) [] pos) (tMakeS C sp E t) := by
  obtain ⟨f, fd, ps, M, F, hm, b⟩ := c.ex
  refine ⟨fun pins s σ H Q I h => ?_⟩
  refine wpAny_Call_Name_kw (ld_glob I hg hm ?_ hdb)
  refine PySem.W.callWith_K (h₀ := X.base) I.ok.mod.kin M.kp (thn (ha.run pos pins s σ H _ I h) fun us s1 ⟨vs, H1, I1, r, q⟩ => ⟨I1.kIn, ?_⟩) he hpl
  exact run_makeS M F (hr.mono hk) b (hx σ) I1 r q
theorem pe_k0 (c : Mn X.prog X.w X.K X.mg X.base k x C sp) (hr : Room j X.A) (hk : k + 1 ≤ j) (hx : ∀ σ, PassesAt (L2N.CX X.prog X.w) X σ (E σ)) (hg : Gl X x)
    (hdb : (x == ("__debug__" : Str)) = false := by decide) : PE X (.Call (.Name x p) [] [] pos) (tMakeS C sp E tNil) := by
  obtain ⟨f, fd, ps, M, F, hm, b⟩ := c.ex
  refine ⟨fun pins s σ H Q I h => ?_⟩
  refine wpAny_Call_Name_kw (ld_glob I hg hm ?_ hdb)
  exact PySem.W.callWith_K0 I.kIn M.kp (run_makeS (us := []) M F (hr.mono hk) b (hx σ) I .nil h)
end
/-- nothing is let out where nothing is wished -/
theorem passN {X : Cx} (σ : SS) : PassesAt (L2N.CX X.prog X.w) X σ E0 := fun _ _ _ _ _ _ c => by
  obtain ⟨a, B, H', cls, d, _, _, _, _, _, _, _, w⟩ := c
  exact w.elim

/-! ### joined operators -/
theorem OpR.or {X : Cx} {f : Value → Value → Sem Value} {r r' : R2} (h : OpR X f r) (h' : OpR X f r') : OpR X f (fun x y H Q => r x y H Q ∨ r' x y H Q) :=
  fun pins s σ H x y v u Q I rx ry hq => hq.elim (h pins s σ H x y v u Q I rx ry) (h' pins s σ H x y v u Q I rx ry)
end Sk

/-! ## SkB -/
namespace Sk
open PySem PySem.Spec PyProof.Rows L2

/-! ### operators joined -/
def rPlusI : R2 := rI0 fun i j => .int (i + j)
def rPlusS : R2 := fun x y H Q => ∃ i j, x = .str i ∧ y = .str j ∧ i.length + j.length ≤ sizeLine ∧ Q (.str (i ++ j)) H
def rPlus (K : PySem.W.Frag) : R2 := fun x y H Q => rPlusI x y H Q ∨ (rPlusS x y H Q ∨ (rCat x y H Q ∨ rCatA K x y H Q))
theorem op_plus {X : Cx} : OpR X (binaryOp .Add) (rPlus X.K) := OpR.or op_add (OpR.or op_add_str (OpR.or op_cat op_catA))
def iPlusS : TIp := fun x y H Q => ∃ i j, x = .str i ∧ y = .str j ∧ i.length + j.length ≤ sizeLine ∧ Q (.str (i ++ j)) H
def iPlusI : TIp := ipI fun i j => i + j
theorem ip_plusS1 {X : Cx} : PIp X .Add iPlusS := fun pins s σ H x y v u Q I rx ry h => by
  obtain ⟨i, j, rfl, rfl, hz, q⟩ := h
  obtain ⟨t, rfl⟩ := rx
  obtain ⟨t', rfl⟩ := ry
  exact iadd_str (fun t' tk => ⟨.str (i ++ j), H, I.tok _, ⟨_, rfl⟩, q⟩) hz
def iPlus : TIp := fun x y H Q => iPlusI x y H Q ∨ iPlusS x y H Q
theorem ip_plus {X : Cx} : PIp X .Add iPlus := fun pins s σ H x y v u Q I rx ry h => h.elim (ip_add pins s σ H x y v u Q I rx ry) fun h => by
  obtain ⟨i, j, rfl, rfl, hz, q⟩ := h
  obtain ⟨t, rfl⟩ := rx
  obtain ⟨t', rfl⟩ := ry
  exact iadd_str (fun t' tk => ⟨.str (i ++ j), H, I.tok _, ⟨_, rfl⟩, q⟩) hz
/-- a power of a great number -/
def CPowW (i j : Int) : Prop := 0 ≤ j ∧ j ≤ 100 ∧ i.natAbs < 2 ^ 1300000
def rPowW : R2 := rI CPowW fun i j => .int (i ^ j.toNat)
theorem op_powW {X : Cx} : OpR X (binaryOp .Pow) rPowW := by
  intro pins s σ H x y v u Q I rx ry h
  obtain ⟨i, j, rfl, rfl, ⟨h1, h2, h3⟩, q⟩ := h
  obtain ⟨t, rfl⟩ := rx
  obtain ⟨t', rfl⟩ := ry
  have hb : Builtin.Int.intBits i ≤ 1300000 := intBits_le h3
  have hj : j ≤ 100 := h2
  refine pow_int h1 ?_ ⟨.int _, H, I.tok _, ⟨_, rfl⟩, q⟩
  have h4 : (Builtin.Int.intBits i : Int) * j ≤ 1300000 * j := Int.mul_le_mul_of_nonneg_right (by omega) h1
  omega
/-- text * int -/
def rMulS : R2 := fun x y H Q => ∃ z k, x = .str z ∧ y = .int k ∧ 0 ≤ k ∧ k ≤ 100000 ∧ z.length * k.toNat ≤ sizeLine ∧ Q (.str ⟨((List.replicate k.toNat z.cps.toList).flatten).toArray⟩) H
theorem foldl_rep (l : Array Nat) : ∀ (n : Nat) (acc : Array Nat), ((List.replicate n l).foldl (· ++ ·) acc).toList = acc.toList ++ (List.replicate n l.toList).flatten
  | 0, acc => by simp
  | n + 1, acc => by
    rw [List.replicate_succ, List.foldl_cons, foldl_rep l n, List.replicate_succ, List.flatten_cons, Array.toList_append, List.append_assoc]
theorem op_mulS {X : Cx} : OpR X (binaryOp .Mult) rMulS := by
  intro pins s σ H x y v u Q I rx ry h
  obtain ⟨z, k, rfl, rfl, h0, h1, hz, q⟩ := h
  obtain ⟨t, rfl⟩ := rx
  obtain ⟨t', rfl⟩ := ry
  have hl : sizeLine = 16777216 := sizeLine_eq
  refine PySem.P.mul_str (by rw [decide_eq_false (by omega : ¬ k < -(2 ^ 63 : Int)), decide_eq_false (by omega : ¬ k ≥ 2 ^ 63)]; rfl) (fun a b => ?_) (fun a b => ?_) ?_
  · intro c
    have kp : 0 < k := by omega
    have e : (z.length : Int) * k ≤ 16777216 := by
      have := hz
      have e2 : ((z.length * k.toNat : Nat) : Int) = (z.length : Int) * k := by rw [Int.natCast_mul]; congr 1; omega
      omega
    have e3 : (z.length : Int) ≤ (2 ^ 63 - 1) / k := (Int.le_ediv_iff_mul_le kp).mpr (by omega)
    omega
  · unfold Builtin.Str.tooLong
    exact decide_eq_false (by omega)
  · by_cases c : k < 1
    · rw [if_pos c]
      have e : k = 0 := by omega
      subst e
      exact ⟨by decide, .str _, H, I.tok _, ⟨s.toks, rfl⟩, q⟩
    · rw [if_neg c]
      by_cases c2 : (k == 1 || z.length == 0) = true
      · rw [if_pos c2]
        refine ⟨.str _, H, I, ⟨t, ?_⟩, q⟩
        congr 1
        apply TL.ext_tl
        show z.cps.toList = _
        simp only [Bool.or_eq_true, beq_iff_eq] at c2
        rcases c2 with c2 | c2
        · subst c2
          simp [TL.tl]
        · have e : z.cps.toList = [] := by
            have : z.cps.size = 0 := c2
            exact List.eq_nil_of_length_eq_zero (by simpa using this)
          rw [e]
          simp [TL.tl]
      · rw [if_neg c2]
        have e : (⟨(List.replicate k.toNat z.cps).foldl (· ++ ·) #[]⟩ : Str) = ⟨((List.replicate k.toNat z.cps.toList).flatten).toArray⟩ := by
          apply TL.ext_tl
          show ((List.replicate k.toNat z.cps).foldl (· ++ ·) #[]).toList = _
          rw [foldl_rep]
          simp [TL.tl]
        rw [e]
        refine ⟨?_, .str _, H, I.tok _, ⟨_, rfl⟩, q⟩
        show _ ≤ _
        simp [Str.length]
        rw [Nat.mul_comm]
        simpa [Str.length] using hz
def rMul : R2 := fun x y H Q => rI CMulW (fun i j => .int (i * j)) x y H Q ∨ (rMulS x y H Q ∨ rRep x y H Q)
theorem op_mul3 {X : Cx} : OpR X (binaryOp .Mult) rMul := OpR.or op_mulW (OpR.or op_mulS op_rep)

/-! ### slices, walks -/
def rSl (K : PySem.W.Frag) : V → Option Int → Option Int → Hp → VK → Prop := fun x lo hi H Q => rSlS x lo hi H Q ∨ (rSlL K x lo hi H Q ∨ rSlA K x lo hi H Q)
theorem sl_any {X : Cx} : SlR X (rSl X.K) := sl_str.or (sl_list.or sl_tupA)
theorem PI.or {X : Cx} {tg iter : Expr} {w w' : TI} (h : PI X tg iter w) (h' : PI X tg iter w') : PI X tg iter (fun σ H R => w σ H R ∨ w' σ H R) :=
  ⟨fun pins s σ H R I q => q.elim (h.run pins s σ H R I) (h'.run pins s σ H R I)⟩
def iSeq (K : PySem.W.Frag) (te : TE) : TI := fun σ H R => iList K te σ H R ∨ (iTup K te σ H R ∨ iStr te σ H R)
theorem pi_seq {X : Cx} {tg e : Expr} {te : TE} (he : PE X e te) : PI X tg e (iSeq X.K te) := PI.or (pi_list he) (PI.or (pi_tup he) (pi_str he))

/-! ### '..' op e, where e wants a token -/
theorem pe_strT {X : Cx} {op : Operator} {r : R2} {x : Str} {j : Nat} {p pos : Pos} {f : Expr} {tf : TE} (ho : OpR X (binaryOp op) r) (hb : PET X f tf) : PE X (.BinOp (.Constant (.str x) j p) op f pos) (tOp r (tC (.str x)) tf) := by
  refine ⟨fun pins s σ H Q I h => ?_⟩
  refine wpAny_BinOp (Calls.Constant_str ?_)
  exact thn (hb pins _ σ H _ (by show 1 ≤ s.toks + 1; omega) (I.tok _) h) fun u s2 ⟨y, H2, I2, r2, q2⟩ => ho pins s2 σ H2 (.str x) y _ u Q I2 ⟨_, rfl⟩ r2 q2

/-! ### isinstance by a built-in class -/
def tyN : V → Option String
  | .non => some "NoneType" | .bl _ => some "bool" | .int _ => some "int" | .str _ => some "str"
  | _ => none
def rIsS (K : PySem.W.Frag) : List V → Hp → VK → Prop := fun xs H Q => ∃ x n, xs = [x, .ty n] ∧ ((∃ t b, tyN x = some t ∧ kitB t n = some b ∧ Q (.bl b) H) ∨ (∃ a t b, x = .ref a ∧ TyX K H (.ref a) (.type t) ∧ kitB t n = some b ∧ Q (.bl b) H))
theorem call_isS {X : Cx} : CallR X (.builtin "isinstance") (rIsS X.K) := by
  intro pins s σ H xs us Q I r h
  refine call_isi pins s σ H xs us Q I r ?_
  obtain ⟨x, n, rfl, h⟩ := h
  rcases h with ⟨t, b, ht, hb, q⟩ | ⟨a, t, b, rfl, ht, hb, q⟩
  · refine ⟨x, .ty n, .type t, .type n, b, rfl, .ty n, ?_, kit_ty hb, q⟩
    cases x with
    | non => cases ht; exact .base .non
    | bl y => cases ht; exact .base (.bl y)
    | int y => cases ht; exact .base (.int y)
    | str y => cases ht; exact .base (.str y)
    | _ => cases ht
  · exact ⟨.ref a, .ty n, .type t, .type n, b, rfl, .ty n, ht, kit_ty hb, q⟩
theorem kb1 : kitB "str" "str" = some true := by decide +kernel
theorem kb2 : kitB "str" "list" = some false := by decide +kernel
theorem kb3 : kitB "str" "tuple" = some false := by decide +kernel
theorem kb4 : kitB "list" "list" = some true := by decide +kernel
theorem kb5 : kitB "list" "str" = some false := by decide +kernel
theorem kb6 : kitB "list" "tuple" = some false := by decide +kernel
theorem kb7 : kitB "tuple" "tuple" = some true := by decide +kernel
theorem kb8 : kitB "tuple" "str" = some false := by decide +kernel
theorem kb9 : kitB "tuple" "list" = some false := by decide +kernel
theorem kb10 : kitB "int" "str" = some false := by decide +kernel
theorem kb11 : kitB "bool" "str" = some false := by decide +kernel
theorem kb12 : kitB "NoneType" "str" = some false := by decide +kernel
theorem kb13 : kitB "dict" "str" = some false := by decide +kernel
theorem kb14 : kitB "int" "list" = some false := by decide +kernel
theorem kb15 : kitB "int" "tuple" = some false := by decide +kernel
theorem kb16 : kitB "NoneType" "list" = some false := by decide +kernel
theorem kb17 : kitB "NoneType" "tuple" = some false := by decide +kernel
theorem kb18 : kitB "dict" "list" = some false := by decide +kernel
theorem kb19 : kitB "dict" "tuple" = some false := by decide +kernel
theorem kb20 : kitB "bool" "list" = some false := by decide +kernel
theorem kb21 : kitB "bool" "tuple" = some false := by decide +kernel
theorem kb22 : kitB "bool" "bool" = some true := by decide +kernel
theorem kb23 : kitB "int" "bool" = some false := by decide +kernel
theorem kb24 : kitB "int" "int" = some true := by decide +kernel
theorem kb25 : kitB "bool" "int" = some true := by decide +kernel
theorem kb26 : kitB "str" "bool" = some false := by decide +kernel
theorem kb27 : kitB "str" "int" = some false := by decide +kernel
/-- all(..), any(..) over a list that stands there -/
theorem bl_map {α : Type} (f : α → Bool) (l : List α) : (l.map fun c => V.bl (f c)) = (l.map f).map V.bl := by rw [List.map_map]; rfl

/-! ### a comprehension whose element is reckoned without a change -/
/-- over the signs of a text -/
theorem lc_str {x : Str} {g : TG} {te : TE} {vs : List Nat} {σ : SS} {H1 : Hp} {D : Addr} {Qd : Hp → Prop} (f : Nat → V) (nD : H1 D = none) (hx : x.length ≤ sizeLine)
    (hs : ∀ (i c : Nat) (H : Hp) (Q : VK), x.cps.toList[i]? = some c → Same H1 H → (∀ H', Same H H' → Q (f c) H') → g (.str ⟨#[c]⟩) (wipe σ vs) H fun σ2 H2 => wipe σ2 vs = wipe σ vs ∧ te σ2 H2 Q)
    (hd : ∀ H, Same H1 H → H D = some (.lst (x.cps.toList.map f)) → Qd H)
    (gm : ∀ (v : V) (σ : SS) (H : Hp) (Q Q' : SS → Hp → Prop), (∀ σ H, Q σ H → Q' σ H) → g v σ H Q → g v σ H Q') :
    ∃ W : Nat → Nat → Hp → Prop, (∃ m, W 0 m (upd H1 D (.lst []))) ∧ ∀ i m H, W i m H →
      ((Its x).stop i H ∧ Qd H) ∨ ((Its x).go i H ∧ ∃ Nx : Hp → Prop, (∀ H', Nx H' → ∃ m', m' < m ∧ W (i + 1) m' H') ∧ ∀ y H', (Its x).yld i H y H' → g y (wipe σ vs) H' fun σ2 H2 => wipe σ2 vs = wipe σ vs ∧ tYes σ2 H2 fun b H3 =>
        if b = true then te σ2 H3 fun y H4 => ∃ acc, H4 D = some (.lst acc) ∧ acc.length < sizeLine ∧ Nx (upd H4 D (.lst (acc ++ [y]))) else Nx H3) := by
  have hl : x.cps.size = x.cps.toList.length := by simp
  refine ⟨fun i m H => m = x.cps.size - i ∧ i ≤ x.cps.size ∧ Same H1 H ∧ H D = some (.lst ((x.cps.toList.take i).map f)), ⟨x.cps.size, by simp, Nat.zero_le _, fun b o e => ?_, ?_⟩, ?_⟩
  · rw [upd_ne (ne_of_none e nD)]
    exact e
  · rw [upd_same]
    rfl
  rintro i m H ⟨rfl, hi, s1, hD⟩
  by_cases hlt : i < x.cps.size
  · refine .inr ⟨hlt, fun H' => Same H1 H' ∧ H' D = some (.lst ((x.cps.toList.take (i + 1)).map f)), fun H' h => ⟨x.cps.size - (i + 1), by omega, rfl, hlt, h⟩, fun y H' hy => ?_⟩
    obtain ⟨rfl, c, hc, rfl⟩ := hy
    have hc' : x.cps.toList[i]? = some c := by simpa using hc
    refine gm _ _ _ _ _ ?_ (hs i c H' (fun y H4 => ∃ acc, H4 D = some (.lst acc) ∧ acc.length < sizeLine ∧ (fun H' => Same H1 H' ∧ H' D = some (.lst ((x.cps.toList.take (i + 1)).map f))) (upd H4 D (.lst (acc ++ [y])))) hc' s1 fun H4 s4 => ?_)
    · rintro σ2 H2 ⟨e1, q⟩
      exact ⟨e1, by simp only [tYes, ↓reduceIte]; exact q⟩
    · refine ⟨_, s4 _ _ hD, ?_, fun b o e => ?_, ?_⟩
      · rw [List.length_map, List.length_take]
        have h2 : x.cps.size ≤ sizeLine := hx
        omega
      · rw [upd_ne (ne_of_none e nD)]
        exact s4 _ _ (s1 _ _ e)
      · rw [upd_same, List.take_add_one, hc', List.map_append]
        rfl
  · have e : i = x.cps.size := by omega
    subst e
    refine .inl ⟨Nat.le_refl _, hd H s1 ?_⟩
    rw [hD, hl, List.take_length]
/-- over a list or tuple of values that stand there: xs; ys what comes of them -/
theorem lc_vals {J : It} {xs ys : List V} {g : TG} {te : TE} {vs : List Nat} {σ : SS} {H1 : Hp} {D : Addr} {Qd : Hp → Prop} (nD : H1 D = none) (hx : xs.length ≤ sizeLine) (hl : ys.length = xs.length)
    (hst : ∀ H, Same H1 H → J.stop xs.length H) (hgo : ∀ i H, i < xs.length → Same H1 H → J.go i H) (hy : ∀ i H y H', Same H1 H → J.yld i H y H' → H' = H ∧ xs[i]? = some y)
    (hs : ∀ (i : Nat) (c d : V) (H : Hp) (Q : VK), xs[i]? = some c → ys[i]? = some d → Same H1 H → (∀ H', Same H H' → Q d H') → g c (wipe σ vs) H fun σ2 H2 => wipe σ2 vs = wipe σ vs ∧ te σ2 H2 Q)
    (hd : ∀ H, Same H1 H → H D = some (.lst ys) → Qd H)
    (gm : ∀ (v : V) (σ : SS) (H : Hp) (Q Q' : SS → Hp → Prop), (∀ σ H, Q σ H → Q' σ H) → g v σ H Q → g v σ H Q') :
    ∃ W : Nat → Nat → Hp → Prop, (∃ m, W 0 m (upd H1 D (.lst []))) ∧ ∀ i m H, W i m H →
      (J.stop i H ∧ Qd H) ∨ (J.go i H ∧ ∃ Nx : Hp → Prop, (∀ H', Nx H' → ∃ m', m' < m ∧ W (i + 1) m' H') ∧ ∀ y H', J.yld i H y H' → g y (wipe σ vs) H' fun σ2 H2 => wipe σ2 vs = wipe σ vs ∧ tYes σ2 H2 fun b H3 =>
        if b = true then te σ2 H3 fun y H4 => ∃ acc, H4 D = some (.lst acc) ∧ acc.length < sizeLine ∧ Nx (upd H4 D (.lst (acc ++ [y]))) else Nx H3) := by
  refine ⟨fun i m H => m = xs.length - i ∧ i ≤ xs.length ∧ Same H1 H ∧ H D = some (.lst (ys.take i)), ⟨xs.length, by simp, Nat.zero_le _, fun b o e => ?_, ?_⟩, ?_⟩
  · rw [upd_ne (ne_of_none e nD)]
    exact e
  · rw [upd_same]
    rfl
  rintro i m H ⟨rfl, hi, s1, hD⟩
  by_cases hlt : i < xs.length
  · refine .inr ⟨hgo i H hlt s1, fun H' => Same H1 H' ∧ H' D = some (.lst (ys.take (i + 1))), fun H' h => ⟨xs.length - (i + 1), by omega, rfl, hlt, h⟩, fun y H' hyy => ?_⟩
    obtain ⟨rfl, hc'⟩ := hy i H y H' s1 hyy
    have hd' : ys[i]? = some ys[i] := List.getElem?_eq_getElem (by omega)
    refine gm _ _ _ _ _ ?_ (hs i y ys[i] H' (fun y H4 => ∃ acc, H4 D = some (.lst acc) ∧ acc.length < sizeLine ∧ (fun H' => Same H1 H' ∧ H' D = some (.lst (ys.take (i + 1)))) (upd H4 D (.lst (acc ++ [y])))) hc' hd' s1 fun H4 s4 => ?_)
    · rintro σ2 H2 ⟨e1, q⟩
      exact ⟨e1, by simp only [tYes, ↓reduceIte]; exact q⟩
    · refine ⟨_, s4 _ _ hD, ?_, fun b o e => ?_, ?_⟩
      · rw [List.length_take]
        omega
      · rw [upd_ne (ne_of_none e nD)]
        exact s4 _ _ (s1 _ _ e)
      · rw [upd_same, List.take_add_one, hd']
        rfl
  · have e : i = xs.length := by omega
    subst e
    refine .inl ⟨hst H s1, hd H s1 ?_⟩
    rw [hD, ← hl, List.take_length]
theorem gName_mono {i : Nat} (v : V) (σ : SS) (H : Hp) (Q Q' : SS → Hp → Prop) (h : ∀ σ H, Q σ H → Q' σ H) (q : gName i v σ H Q) : gName i v σ H Q' := h _ _ q

/-- [te for c in x], x a text -/
theorem tLc_str {K : PySem.W.Frag} {te0 te : TE} {i : Nat} {vs : List Nat} {σ : SS} {H : Hp} {Q : VK} (x : Str) (f : Nat → V) (h0 : ∀ R : VK, R (.str x) H → te0 σ H R) (hx : x.length ≤ sizeLine)
    (hs : ∀ (j c : Nat) (H' : Hp) (Q' : VK), x.cps.toList[j]? = some c → Same H H' → (∀ H'', Same H' H'' → Q' (f c) H'') → wipe ((wipe σ vs).set i (some (.str ⟨#[c]⟩))) vs = wipe σ vs ∧ te ((wipe σ vs).set i (some (.str ⟨#[c]⟩))) H' Q')
    (hd : ∀ D H', H D = none → Same H H' → H' D = some (.lst (x.cps.toList.map f)) → Q (.ref D) H') : tLc (iSeq K te0) (gName i) tYes te vs σ H Q := by
  refine .inr (.inr (h0 _ ⟨x, rfl, fun D nD => ?_⟩))
  exact lc_str f nD hx (fun j c H' Q' hc s h => hs j c H' Q' hc s h) (fun H' s h => hd D H' nD s h) gName_mono
theorem tLc_list {K : PySem.W.Frag} {te0 te : TE} {i : Nat} {vs : List Nat} {σ : SS} {H : Hp} {Q : VK} (xs ys : List V) (h0 : ∀ R : VK, (∀ a H1, Same H H1 → SqL K H1 a xs → R (.ref a) H1) → te0 σ H R) (hx : xs.length ≤ sizeLine) (hl : ys.length = xs.length)
    (hs : ∀ (j : Nat) (c d : V) (H' : Hp) (Q' : VK), xs[j]? = some c → ys[j]? = some d → Same H H' → (∀ H'', Same H' H'' → Q' d H'') → wipe ((wipe σ vs).set i (some c)) vs = wipe σ vs ∧ te ((wipe σ vs).set i (some c)) H' Q')
    (hd : ∀ D H', H D = none → Same H H' → H' D = some (.lst ys) → Q (.ref D) H') : tLc (iSeq K te0) (gName i) tYes te vs σ H Q := by
  refine .inl (h0 _ fun a H1 s0 hL => ⟨a, rfl, ⟨xs, hL⟩, fun D nD => ?_⟩)
  refine lc_vals (xs := xs) (ys := ys) nD hx hl (fun H' s => ⟨xs, s.seq hL, Nat.le_refl _⟩) (fun j H' hj s => ⟨xs, xs[j], s.seq hL, List.getElem?_eq_getElem hj⟩) (fun j H' y H'' s hy => ⟨hy.1, hy.2 xs (s.seq hL)⟩) (fun j c d H' Q' hc hd s h => hs j c d H' Q' hc hd (s0.trans s) h) (fun H' s h => hd D H' (s0.free nD) (s0.trans s) h) gName_mono
theorem Same.seqT {K : PySem.W.Frag} {H H' : Hp} {a : Addr} {xs : List V} (e : Same H H') (h : SqT K H a xs) : SqT K H' a xs := by
  rcases h with h | h
  · rcases h with h | ⟨o, h⟩
    · exact .inl (.inl (e _ _ h))
    · exact .inl (.inr ⟨o, e _ _ h⟩)
  · exact .inr h
theorem tLc_tup {K : PySem.W.Frag} {te0 te : TE} {i : Nat} {vs : List Nat} {σ : SS} {H : Hp} {Q : VK} (xs ys : List V) (h0 : ∀ R : VK, (∀ a H1, Same H H1 → SqT K H1 a xs → R (.ref a) H1) → te0 σ H R) (hx : xs.length ≤ sizeLine) (hl : ys.length = xs.length)
    (hs : ∀ (j : Nat) (c d : V) (H' : Hp) (Q' : VK), xs[j]? = some c → ys[j]? = some d → Same H H' → (∀ H'', Same H' H'' → Q' d H'') → wipe ((wipe σ vs).set i (some c)) vs = wipe σ vs ∧ te ((wipe σ vs).set i (some c)) H' Q')
    (hd : ∀ D H', H D = none → Same H H' → H' D = some (.lst ys) → Q (.ref D) H') : tLc (iSeq K te0) (gName i) tYes te vs σ H Q := by
  refine .inr (.inl (h0 _ fun a H1 s0 hL => ⟨a, rfl, ⟨xs, hL⟩, fun D nD => ?_⟩))
  refine lc_vals (xs := xs) (ys := ys) nD hx hl (fun H' s => ⟨xs, Same.seqT s hL, Nat.le_refl _⟩) (fun j H' hj s => ⟨xs, xs[j], Same.seqT s hL, List.getElem?_eq_getElem hj⟩) (fun j H' y H'' s hy => ⟨hy.1, hy.2 xs (Same.seqT s hL)⟩) (fun j c d H' Q' hc hd s h => hs j c d H' Q' hc hd (s0.trans s) h) (fun H' s h => hd D H' (s0.free nD) (s0.trans s) h) gName_mono
mutual
theorem Dp.same {K : PySem.W.Frag} {H H' : Hp} (s : Same H H') : ∀ {d : PyData} {v : V}, Dp K H v d → Dp K H' v d
  | _, _, .non => .non
  | _, _, .bl b => .bl b
  | _, _, .int i => .int i
  | _, _, .str x => .str x
  | _, _, .lst h r => .lst (s.seq h) (DpAll.same s r)
  | _, _, .tup h r => .tup (Same.seqT s h) (DpAll.same s r)
theorem DpAll.same {K : PySem.W.Frag} {H H' : Hp} (s : Same H H') : ∀ {ds : List PyData} {vs : List V}, DpAll K H vs ds → DpAll K H' vs ds
  | _, _, .nil => .nil
  | _, _, .cons h r => .cons (Dp.same s h) (DpAll.same s r)
end
theorem DpAll.len {K : PySem.W.Frag} {H : Hp} : ∀ {vs : List V} {ds : List PyData}, DpAll K H vs ds → vs.length = ds.length
  | _, _, .nil => rfl
  | _, _, .cons _ r => by rw [List.length_cons, List.length_cons, DpAll.len r]
theorem DpAll.at_ {K : PySem.W.Frag} {H : Hp} : ∀ {vs : List V} {ds : List PyData} {i : Nat} {v : V} {d : PyData}, DpAll K H vs ds → vs[i]? = some v → ds[i]? = some d → Dp K H v d
  | _, _, _, _, _, .nil, h, _ => by simp at h
  | _, _, 0, _, _, .cons h _, h1, h2 => by simp at h1 h2; subst h1 h2; exact h
  | _, _, i + 1, _, _, .cons _ r, h1, h2 => DpAll.at_ (i := i) r (by simpa using h1) (by simpa using h2)
theorem all_id {α : Type} (f : α → Bool) (l : List α) : (l.map f).all id = l.all f := by simp
end Sk

/-! ## SkH -/
namespace Sk
open PySem PySem.Spec PyProof.Rows L2 L2H HotX
/-! ### a def that is called while an exception is handled, and is told what it is -/
/-- Z: what the handled object is; the promise may name its address -/
structure FnZ (P : Program) (w : World) (K : PySem.W.Frag) (mg : Str → Option Value) (base : Heap) (Z : Obj → Prop) (k : Nat) (f : Addr) (fd : FuncData) (ps : List Str) (sp : Addr → Sp) : Prop where
  len : ∀ a vs H Q E, sp a vs H Q E → vs.length = ps.length
  run : ∀ (A : Around) (outer : List Env) (s : Shared) (H : Hp) (args : Args) (us : List Value) (vs : List V) (Q : VK) (E : XK) (p : Addr × Obj), RoomH k A → Hot1 A p → Z p.2 → PinOk outer H s p → Env0 P w K mg base A outer s H → BindsTo s fd args (ps.zip us) → Vals vs us → sp p.1 vs H Q E →
    codeAny (model P w) A (.call (.ref f) args) (CR (L2N.CX P w) outer P w H s Q E) s
section
variable {P : Program} {w : World} {K : PySem.W.Frag} {mg : Str → Option Value} {base : Heap}
theorem fnZ_mk {x qual : Str} {st : Stmt} {f : Addr} {fd : FuncData} {N ps : List Str} {k : Nat} {sp : Addr → Sp} {Z : Obj → Prop} (F : Fun K x qual st f fd) (S : FnScope N ps (defScope st)) (hlen : ∀ a vs H Q E, sp a vs H Q E → vs.length = ps.length)
    (body : ∀ (cdv : Value) (A : Around) (outer : List Env) (s : Shared) (H : Hp) (vs : List V) (Q : VK) (E : XK) (p : Addr × Obj), Hot1 A p → Z p.2 → RoomH k (A.deeper (envOfC qual (defScope st) s.heap.objs.size f cdv)) → sp p.1 vs H Q E →
      ∃ t, PSs (cxH (L2N.CX P w) P w K mg base N qual (defScope st) f cdv A outer s H E p) (defBody st) t ∧ t { nx := fun _ H' => Q .non H', rt := Q } (L2.start N vs) H) : FnZ P w K mg base Z (k + 1) f fd ps sp := by
  obtain ⟨_, _, _, _, _, _, cdv, _, _, rfl, hfun, hcode⟩ := F.ex
  refine ⟨hlen, fun A outer s H args us vs Q E p room hot hz pin e0 binds rel hsp => ?_⟩
  have inK : K.In s.heap := e0.mod.kin.keeps fun b o z => (e0.bs b o z).1
  have kinds : ∀ y ∈ ps.zip us, (defScope st).names.lookup y.1 = some .local ∨ ((defScope st).names.lookup y.1 = some .cell ∧ ((cellsFrom (s.heap.objs.size + 1) (defScope st).names []).lookup y.1).isSome = true) := by
    intro y hy
    have := S.par y.1 (List.of_mem_zip (a := y.1) (b := y.2) hy).1
    exact this.imp id fun c => ⟨c, PySem.W.cellsFrom_some _ _ _ (.inl c)⟩
  refine codeAny_call_function room.depth (inK _ _ hfun) rfl S.co S.gen rfl (PySem.W.codeRec_of inK hcode) (binds _ _ _ _ ?_)
  refine wpAny_newFunctionEnv_cells S.kind kinds fun env he s1 made => ?_
  cases he
  refine ⟨(e0.mod.nolimit.keeps fun b o z => (e0.bs b o z).1).keeps made.toInCall.keep, codeAny_func ?_⟩
  obtain ⟨t, run, wish⟩ := body cdv A outer s H vs Q E p hot hz (room.deeper _) hsp
  refine wpAny_mono (run.run [] s1 _ H _ (inv_startH S pin e0 (hlen _ _ _ _ _ hsp) rel made) wish) (fun fl s' out => ?_) fun _ _ out => out
  match fl, out with
  | .ret _, ⟨v, _, H', J, rv, q⟩ => exact ⟨v, H', J.os, J.bare, J.base, J.hok, rv, q⟩
  | .next, ⟨_, H', J, q⟩ => exact ⟨V.non, H', J.os, J.bare, J.base, J.hok, rfl, q⟩
  | .brk, ⟨_, _, _, q⟩ => exact q.elim
  | .cont, ⟨_, _, _, q⟩ => exact q.elim
end
section
variable {X : Cx} {k : Nat} {f : Addr} {fd : FuncData} {ps : List Str} {sp : Addr → Sp} {E : SS → XK} {x : Str} {q pos : Pos} {e : Expr} {es : List Expr} {t : TA} {Z : Obj → Prop} {p : Addr × Obj}
theorem pe_callZ (F : FnZ X.prog X.w X.K X.mg X.base Z k f fd ps sp) (room : RoomH k X.A) (hot : Hot1 X.A p) (hz : Z p.2) (hp : p ∈ X.pn) (hg : Gl X x) (hm : X.mg x = some (.ref f)) (hk : PySem.W.keepIn X.K (.ref f) = true) (hb : Binds X.K fd ps [])
    (hx : ∀ σ, PassesAt (L2N.CX X.prog X.w) X σ (E σ)) (ha : PA X (e :: es) t) (hdb : (x == ("__debug__" : Str)) = false := by decide) (he : starEach (e :: es) X.env = (false, eval e X.env) :: starEach es X.env := by rfl)
    (hpl : (backTo pos (starEach es X.env)).any (·.1) = false := by rfl) : PE X (.Call (.Name x q) (e :: es) [] pos) (tCallS (sp p.1) E t) := by
  refine ⟨fun pins s σ H Q I h => wpAny_Call_Name_kw (ld_glob I hg hm ?_ hdb)⟩
  refine PySem.W.callWith_K (h₀ := X.base) I.ok.mod.kin hk (thn (ha.run pos pins s σ H _ I h) ?_) he hpl
  rintro us s1 ⟨vs, H1, I1, rel, hsp⟩
  refine ⟨I1.kIn, wpAny_call ?_⟩
  have P1 := I1.pin p (List.mem_append_left _ hp)
  have pin : PinOk X.stack H1 s1 p := ⟨P1.1, P1.2.1, fun hm => (List.mem_cons.mp (I1.stkSub p.1 hm)).elim P1.2.2.1 P1.2.2.2.1, P1.2.2.2.2⟩
  have b := hb s1 us I1.kIn (by rw [List.append_nil, ← rel.length]; exact F.len _ _ _ _ _ hsp)
  rw [List.append_nil] at b
  refine codeAny_mono (F.run X.A X.stack s1 H1 ⟨us, []⟩ us vs Q (E σ) p room hot hz pin I1.env0 b rel hsp) fun r s' out => ?_
  match r, out with
  | .error u, out => exact hx σ pins H1 s1 u s' I1 out
  | .ok (.ret _), out => exact I1.after out
end
/-! ### isinstance of the handled exception -/
section
variable {X : Cx} {p : Addr × Obj} {D : Addr}
theorem inst_pin (hp : p ∈ X.pn) (hz : Zc (.ref D) none p.2) (hf : ∃ vs, p.2.data = .fields vs) {pins : List (Addr × Obj)} {σ : SS} {H : Hp} {s : Shared} (I : Inv X pins σ H s) : PySem.W.InstAt s.heap p.1 p.2 D none := by
  obtain ⟨a, oc, od, dt, sl⟩ := p
  obtain ⟨rfl, rfl⟩ := hz
  obtain ⟨vs, hv⟩ := hf
  dsimp only at hv
  subst hv
  exact ⟨(I.pin _ (List.mem_append_left _ hp)).1, rfl, rfl, trivial⟩
def rIsZ (K : PySem.W.Frag) (D a : Addr) : List V → Hp → VK → Prop := fun xs H Q => (∃ c u b, xs = [.ref a, c] ∧ ClsV c u ∧ PySem.W.kitOne K (.ref D) u = some b ∧ Q (.bl b) H) ∨
  ∃ tp cs us b, xs = [.ref a, .ref tp] ∧ H tp = some (.tup cs) ∧ Paired ClsV cs us ∧ PySem.W.kitAny K (.ref D) us = some b ∧ Q (.bl b) H
theorem call_isZ (C : ExcC X.K D) (hp : p ∈ X.pn) (hz : Zc (.ref D) none p.2) (hf : ∃ vs, p.2.data = .fields vs) : CallR X (.builtin "isinstance") (rIsZ X.K D p.1) := by
  intro pins s σ H xs us Q I rel h
  have J := inst_pin hp hz hf I
  have kit := PySem.W.handS_kitx_exc (x := p.1) (ox := p.2) C.hg C.hk C.hs C.hd C.ha C.hn C.ht C.hm
  rcases h with ⟨c, u, b, rfl, hc, e, q⟩ | ⟨tp, cs, cl, b, rfl, ht, hc, e, q⟩
  · obtain ⟨u1, u2, rfl, r1, r2⟩ := vals2 rel
    cases r1
    cases hc.eq r2
    exact PySem.W.kia_one kit I.kIn J e (fun z => nomatch z) fun tk => ⟨.bl b, H, I.kept (t' := tk) fun _ _ z => z, rfl, q⟩
  · obtain ⟨u1, u2, rfl, r1, r2⟩ := vals2 rel
    cases r1
    cases r2
    obtain ⟨_, its, rv, ⟨oc, od, dt, sl⟩, at_, h2, n, h3⟩ := (show ObjOk X.prog X.w H s.heap tp (.tup cs) from I.hok tp _ ht)
    cases ClsV.all hc rv
    dsimp only at h2 h3
    subst h2 h3
    exact PySem.W.kia_tup kit I.kIn J at_ e (fun z => nomatch z) fun tk => ⟨.bl b, H, I.kept (t' := tk) fun _ _ z => z, rfl, q⟩
end
/-- a body that is served under a condition -/
theorem PSs.when {X : Cx} {b : List Stmt} {C : Prop} {t : TS} (h : C → PSs X b t) : PSs X b (fun D σ H => C ∧ t D σ H) :=
  ⟨fun pins s σ H D I q => (h q.1).run pins s σ H D I q.2⟩
end Sk

/-! ## Hd57 -/
namespace Sk
open PySem PySem.Spec PyProof.Rows L2
def top (i : Nat) : Stmt := PySem.Challenge.pw_stemkeep_k57_odd_texts.main.body.getD i (.Pass ⟨0, 0, 0, 0⟩)
abbrev s__wall : Stmt := top 0
abbrev s_is_worth : Stmt := top 25
abbrev s_is_name : Stmt := top 26
abbrev s_is_key : Stmt := top 27
abbrev s_is_reference : Stmt := top 28
abbrev s_signs_ahead : Stmt := top 29
abbrev s_number_of : Stmt := top 30
abbrev s_number_text : Stmt := top 31
abbrev s_is_number_text : Stmt := top 32
abbrev s_rank : Stmt := top 33
abbrev s_is_stem : Stmt := top 34
abbrev s_need_reference : Stmt := top 36
abbrev s_need_worth : Stmt := top 37
abbrev s_need_ordered : Stmt := top 38
abbrev s_ranks : Stmt := top 39
abbrev s_walked : Stmt := top 40
abbrev s_truth_text : Stmt := top 45
abbrev s_are_one_text : Stmt := top 46
abbrev s_put_behind : Stmt := top 47
abbrev s_holds_other : Stmt := top 48
abbrev s_stands_behind : Stmt := top 49
abbrev s_are_parts : Stmt := top 52
abbrev s_may_stand : Stmt := top 53
abbrev s_is_expression : Stmt := top 54
abbrev s_are_names : Stmt := top 58
abbrev s_is_part : Stmt := top 59
abbrev s_is_deed : Stmt := top 60
abbrev s_is_program : Stmt := top 61
abbrev s_quoted : Stmt := top 68
abbrev s_shown_worth : Stmt := top 69
abbrev s_joined : Stmt := top 70
abbrev s_name_read : Stmt := top 72
abbrev s_quoted_read : Stmt := top 73
abbrev s_worth_read : Stmt := top 74
abbrev s_parts_read : Stmt := top 75
abbrev s_some_parts_read : Stmt := top 76
abbrev s_place_read : Stmt := top 77
abbrev s_call_read : Stmt := top 78
abbrev s_under_read : Stmt := top 79
abbrev s_single_read : Stmt := top 80
abbrev s_is_within : Stmt := top 81
abbrev s_expression_from : Stmt := top 82
abbrev s_read_expression : Stmt := top 83
abbrev s_names_read : Stmt := top 84
abbrev s_for_read : Stmt := top 85
abbrev s_deed_read : Stmt := top 86
abbrev s_row_read : Stmt := top 87
abbrev s_label_read : Stmt := top 88
abbrev s_read_program : Stmt := top 89
abbrev s_show_arrays : Stmt := top 90
abbrev s_node_read : Stmt := top 91
abbrev s_read_arrays : Stmt := top 92
abbrev s__law_cell_at : Stmt := top 94
abbrev s__law_bag : Stmt := top 95
abbrev s__law_draw : Stmt := top 96
abbrev s__law_only_no_text : Stmt := top 97
abbrev s__law_refused : Stmt := top 98
abbrev s_law : Stmt := top 99
abbrev s_Arrays___init__ : Stmt := inClass (top 41) 0
abbrev s_Arrays_put : Stmt := inClass (top 41) 1
abbrev s_Arrays_read : Stmt := inClass (top 41) 2
abbrev s_Arrays_beneath : Stmt := inClass (top 41) 3
abbrev s_Arrays_data : Stmt := inClass (top 41) 4
abbrev s_Arrays_kill : Stmt := inClass (top 41) 5
abbrev s_Arrays_names : Stmt := inClass (top 41) 6
abbrev s_Arrays_count : Stmt := inClass (top 41) 7
abbrev s_Arrays_order : Stmt := inClass (top 41) 8
abbrev s_Arrays_following : Stmt := inClass (top 41) 9
abbrev s_Arrays_rows : Stmt := inClass (top 41) 10
abbrev s_Arrays_merge : Stmt := inClass (top 41) 11
abbrev s_Source___init__ : Stmt := inClass (top 71) 0
abbrev s_Source_comes_next : Stmt := inClass (top 71) 1
abbrev s_Source_skips : Stmt := inClass (top 71) 2
abbrev s_Source_goes_past : Stmt := inClass (top 71) 3
abbrev s_Source_run_of : Stmt := inClass (top 71) 4
abbrev s_Source_next_sign : Stmt := inClass (top 71) 5
abbrev s_Source_at_end : Stmt := inClass (top 71) 6
/-- isinstance of a NoText -/
structure KtNT (K : PySem.W.Frag) : Prop where
  xc : ExcC K (He.ga K "NoText")
  no_Erring : PySem.W.kitOne K (.ref (He.ga K "NoText")) (.ref (He.ga K "Erring")) = some false
  no_Held : PySem.W.kitOne K (.ref (He.ga K "NoText")) (.ref (He.ga K "Held")) = some false
  no_NoDealing : PySem.W.kitOne K (.ref (He.ga K "NoText")) (.ref (He.ga K "NoDealing")) = some false
  no_NoHead : PySem.W.kitOne K (.ref (He.ga K "NoText")) (.ref (He.ga K "NoHead")) = some false
  no_NoJob : PySem.W.kitOne K (.ref (He.ga K "NoText")) (.ref (He.ga K "NoJob")) = some false
  no_NoLabel : PySem.W.kitOne K (.ref (He.ga K "NoText")) (.ref (He.ga K "NoLabel")) = some false
  no_NoLock : PySem.W.kitOne K (.ref (He.ga K "NoText")) (.ref (He.ga K "NoLock")) = some false
  no_NoProgram : PySem.W.kitOne K (.ref (He.ga K "NoText")) (.ref (He.ga K "NoProgram")) = some false
  no_NoRef : PySem.W.kitOne K (.ref (He.ga K "NoText")) (.ref (He.ga K "NoRef")) = some false
  no_NoWorth : PySem.W.kitOne K (.ref (He.ga K "NoText")) (.ref (He.ga K "NoWorth")) = some false
  no_TooDeep : PySem.W.kitOne K (.ref (He.ga K "NoText")) (.ref (He.ga K "TooDeep")) = some false
  no_TooLong : PySem.W.kitOne K (.ref (He.ga K "NoText")) (.ref (He.ga K "TooLong")) = some false
  no_Waiting : PySem.W.kitOne K (.ref (He.ga K "NoText")) (.ref (He.ga K "Waiting")) = some false
  no_Within : PySem.W.kitOne K (.ref (He.ga K "NoText")) (.ref (He.ga K "Within")) = some false
  yes : PySem.W.kitOne K (.ref (He.ga K "NoText")) (.ref (He.ga K "NoText")) = some true
  ve : PySem.W.kitOne K (.ref (He.ga K "NoText")) (.type "ValueError") = some true
/-- what the top leaves -/
structure Hd (w : World) (K : PySem.W.Frag) (mg : Str → Option Value) : Prop where
  f_ValueError : mg "ValueError" = none
  f_all : mg "all" = none
  f_int : mg "int" = none
  f_isinstance : mg "isinstance" = none
  f_len : mg "len" = none
  f_list : mg "list" = none
  f_max : mg "max" = none
  f_min : mg "min" = none
  f_range : mg "range" = none
  f_set : mg "set" = none
  f_sorted : mg "sorted" = none
  f_str : mg "str" = none
  f_tuple : mg "tuple" = none
  f_zip : mg "zip" = none
  c_LETTERS : ∃ u, mg "LETTERS" = some u ∧ RelV (.str "abcdefghijklmnopqrstuvwxyz") u
  c_FIGURES : ∃ u, mg "FIGURES" = some u ∧ RelV (.str "0123456789") u
  c_MOST_SIGNS : ∃ u, mg "MOST_SIGNS" = some u ∧ RelV (.int 40) u
  c_MOST_LETTERS : ∃ u, mg "MOST_LETTERS" = some u ∧ RelV (.int 8) u
  c_MOST_KEYS : ∃ u, mg "MOST_KEYS" = some u ∧ RelV (.int 6) u
  c_SIGNS : ∃ u, mg "SIGNS" = some u ∧ RelV (.str " !\"#$&'()*+,-./0123456789:;<=>?@ABCDEFGHIJKLMNOPQRSTUVWXYZ[\\]^_`abcdefghijklmnopqrstuvwxyz{|}~") u
  c_PLACES_terms : ∃ u, mg "PLACES_terms" = some u ∧ RelV (.ref (He.ga K "PLACES_terms")) u
  tt_PLACES_terms : ∀ H, SqT K H (He.ga K "PLACES_terms") [.str "var", .str "at", .str "short"]
  c_BY_NUMBERS : ∃ u, mg "BY_NUMBERS" = some u ∧ RelV (.str "+-*/#<>&!") u
  c_PLACES_jobs : ∃ u, mg "PLACES_jobs" = some u ∧ RelV (.ref (He.ga K "PLACES_jobs")) u
  tt_PLACES_jobs : ∀ H, SqT K H (He.ga K "PLACES_jobs") [.str "var", .str "at", .str "short"]
  c_OPS : ∃ u, mg "OPS" = some u ∧ RelV (.str "+-*/#<>=_[]&!") u
  c_MOST_LEVELS : ∃ u, mg "MOST_LEVELS" = some u ∧ RelV (.int 40) u
  c_PLACES_texts : ∃ u, mg "PLACES_texts" = some u ∧ RelV (.ref (He.ga K "PLACES_texts")) u
  tt_PLACES_texts : ∀ H, SqT K H (He.ga K "PLACES_texts") [.str "order", .str "back", .str "data"]
  c_ALONE : ∃ u, mg "ALONE" = some u ∧ RelV (.ref (He.ga K "ALONE")) u
  tt_ALONE : ∀ H, SqT K H (He.ga K "ALONE") [.str "else", .str "quit", .str "start", .str "keep", .str "undo", .str "halt"]
  c_SHAPES_terms : ∃ u, mg "SHAPES_terms" = some u ∧ RelV (.ref (He.ga K "SHAPES_terms")) u
  c_BY_TEXTS : ∃ u, mg "BY_TEXTS" = some u ∧ RelV (.ref (He.ga K "BY_TEXTS")) u
  c_SHAPES_jobs : ∃ u, mg "SHAPES_jobs" = some u ∧ RelV (.ref (He.ga K "SHAPES_jobs")) u
  c_CALLS : ∃ u, mg "CALLS" = some u ∧ RelV (.ref (He.ga K "CALLS")) u
  kd_SHAPES_terms : ∃ es n, KDict K w (He.ga K "SHAPES_terms") es n
  kk_SHAPES_terms : He.dicW K (He.ga K "SHAPES_terms") = some (He.keysIn w.params ["is", "var", "at", "short", "op", "not", "minus", "length", "piece", "part", "order", "back", "data", "other"])
  kv_SHAPES_terms : He.valsB K (He.ga K "SHAPES_terms") [("is", .str "w"), ("var", .str "np"), ("at", .str "np"), ("short", .str "q"), ("op", .str "see"), ("not", .str "e"), ("minus", .str "e"), ("length", .str "e"), ("piece", .str "eee"), ("part", .str "eee"), ("order", .str "l"), ("back", .str "l"), ("data", .str "l"), ("other", .str "le")] = true
  kd_BY_TEXTS : ∃ es n, KDict K w (He.ga K "BY_TEXTS") es n
  kk_BY_TEXTS : He.dicW K (He.ga K "BY_TEXTS") = some (He.keysIn w.params ["=", "_", "[", "]"])
  kv_BY_TEXTS : He.valsB K (He.ga K "BY_TEXTS") [("=", .glo "are_one_text"), ("_", .glo "put_behind"), ("[", .glo "holds_other"), ("]", .glo "stands_behind")] = true
  kd_SHAPES_jobs : ∃ es n, KDict K w (He.ga K "SHAPES_jobs") es n
  kk_SHAPES_jobs : He.dicW K (He.ga K "SHAPES_jobs") = some (He.keysIn w.params ["set", "kill", "write", "if", "else", "for", "do", "quit", "new", "lock", "free", "free_all", "start", "keep", "undo", "halt"])
  kv_SHAPES_jobs : He.valsB K (He.ga K "SHAPES_jobs") [("set", .str "pe"), ("kill", .str "p"), ("write", .str "e"), ("if", .str "e"), ("else", .str ""), ("for", .str "neee"), ("do", .str "ld"), ("quit", .str ""), ("new", .str "s"), ("lock", .str "a"), ("free", .str "a"), ("free_all", .str ""), ("start", .str ""), ("keep", .str ""), ("undo", .str ""), ("halt", .str "")] = true
  kd_CALLS : ∃ es n, KDict K w (He.ga K "CALLS") es n
  kk_CALLS : He.dicW K (He.ga K "CALLS") = some (He.keysIn w.params ["length", "piece", "part"])
  kv_CALLS : He.valsB K (He.ga K "CALLS") [("length", .int 1), ("piece", .int 3), ("part", .int 3)] = true
  nt : KtNT K
  x_NoText : PySem.W.excIn K (He.ga K "NoText") He.veBase "ValueError.__new__" = true
  k_NoText : PySem.W.keepIn K (.ref (He.ga K "NoText")) = true
  b_NoText : PySem.W.subIn K (.ref (He.ga K "NoText")) (.type "BaseException") = some true
  t_NoText : PySem.W.typeIn K (.ref (He.ga K "NoText")) = some (.type "type")
  e_NoText_StemError : PySem.W.exmOne K (.ref (He.ga K "NoText")) (.ref (He.ga K "StemError")) = some true
  g_StemError : mg "StemError" = some (.ref (He.ga K "StemError"))
  g_NoRef : mg "NoRef" = some (.ref (He.ga K "NoRef"))
  g_NoWorth : mg "NoWorth" = some (.ref (He.ga K "NoWorth"))
  g_Within : mg "Within" = some (.ref (He.ga K "Within"))
  g_TooDeep : mg "TooDeep" = some (.ref (He.ga K "TooDeep"))
  g_NoHead : mg "NoHead" = some (.ref (He.ga K "NoHead"))
  g_NoJob : mg "NoJob" = some (.ref (He.ga K "NoJob"))
  g_Waiting : mg "Waiting" = some (.ref (He.ga K "Waiting"))
  g_NoLock : mg "NoLock" = some (.ref (He.ga K "NoLock"))
  g_Held : mg "Held" = some (.ref (He.ga K "Held"))
  g_NoDealing : mg "NoDealing" = some (.ref (He.ga K "NoDealing"))
  g_Erring : mg "Erring" = some (.ref (He.ga K "Erring"))
  g_NoProgram : mg "NoProgram" = some (.ref (He.ga K "NoProgram"))
  g_NoLabel : mg "NoLabel" = some (.ref (He.ga K "NoLabel"))
  g_TooLong : mg "TooLong" = some (.ref (He.ga K "TooLong"))
  g_NoText : mg "NoText" = some (.ref (He.ga K "NoText"))
  g_Arrays : mg "Arrays" = some (.ref (He.ga K "Arrays"))
  g_Source : mg "Source" = some (.ref (He.ga K "Source"))
  cl_Arrays : Cls K (He.ga K "Arrays")
  mk_Arrays : Mk K (He.ga K "Arrays") (He.ma K (He.ga K "Arrays") "__init__")
  na_Arrays_nodes : NoAttr K (He.ga K "Arrays") "nodes"
  fn_Arrays___init__ : ∃ fd, Fun K "__init__" "Arrays.__init__" s_Arrays___init__ (He.ma K (He.ga K "Arrays") "__init__") fd
  me_Arrays_put : Meth K (He.ga K "Arrays") "put" (He.ma K (He.ga K "Arrays") "put")
  fn_Arrays_put : ∃ fd, Fun K "put" "Arrays.put" s_Arrays_put (He.ma K (He.ga K "Arrays") "put") fd
  me_Arrays_read : Meth K (He.ga K "Arrays") "read" (He.ma K (He.ga K "Arrays") "read")
  fn_Arrays_read : ∃ fd, Fun K "read" "Arrays.read" s_Arrays_read (He.ma K (He.ga K "Arrays") "read") fd
  me_Arrays_beneath : Meth K (He.ga K "Arrays") "beneath" (He.ma K (He.ga K "Arrays") "beneath")
  fn_Arrays_beneath : ∃ fd, Fun K "beneath" "Arrays.beneath" s_Arrays_beneath (He.ma K (He.ga K "Arrays") "beneath") fd
  me_Arrays_data : Meth K (He.ga K "Arrays") "data" (He.ma K (He.ga K "Arrays") "data")
  fn_Arrays_data : ∃ fd, Fun K "data" "Arrays.data" s_Arrays_data (He.ma K (He.ga K "Arrays") "data") fd
  me_Arrays_kill : Meth K (He.ga K "Arrays") "kill" (He.ma K (He.ga K "Arrays") "kill")
  fn_Arrays_kill : ∃ fd, Fun K "kill" "Arrays.kill" s_Arrays_kill (He.ma K (He.ga K "Arrays") "kill") fd
  me_Arrays_names : Meth K (He.ga K "Arrays") "names" (He.ma K (He.ga K "Arrays") "names")
  fn_Arrays_names : ∃ fd, Fun K "names" "Arrays.names" s_Arrays_names (He.ma K (He.ga K "Arrays") "names") fd
  me_Arrays_count : Meth K (He.ga K "Arrays") "count" (He.ma K (He.ga K "Arrays") "count")
  fn_Arrays_count : ∃ fd, Fun K "count" "Arrays.count" s_Arrays_count (He.ma K (He.ga K "Arrays") "count") fd
  me_Arrays_order : Meth K (He.ga K "Arrays") "order" (He.ma K (He.ga K "Arrays") "order")
  fn_Arrays_order : ∃ fd, Fun K "order" "Arrays.order" s_Arrays_order (He.ma K (He.ga K "Arrays") "order") fd
  me_Arrays_following : Meth K (He.ga K "Arrays") "following" (He.ma K (He.ga K "Arrays") "following")
  fn_Arrays_following : ∃ fd, Fun K "following" "Arrays.following" s_Arrays_following (He.ma K (He.ga K "Arrays") "following") fd
  me_Arrays_rows : Meth K (He.ga K "Arrays") "rows" (He.ma K (He.ga K "Arrays") "rows")
  fn_Arrays_rows : ∃ fd, Fun K "rows" "Arrays.rows" s_Arrays_rows (He.ma K (He.ga K "Arrays") "rows") fd
  me_Arrays_merge : Meth K (He.ga K "Arrays") "merge" (He.ma K (He.ga K "Arrays") "merge")
  fn_Arrays_merge : ∃ fd, Fun K "merge" "Arrays.merge" s_Arrays_merge (He.ma K (He.ga K "Arrays") "merge") fd
  cl_Source : Cls K (He.ga K "Source")
  mk_Source : Mk K (He.ga K "Source") (He.ma K (He.ga K "Source") "__init__")
  na_Source_signs : NoAttr K (He.ga K "Source") "signs"
  na_Source_spot : NoAttr K (He.ga K "Source") "spot"
  fn_Source___init__ : ∃ fd, Fun K "__init__" "Source.__init__" s_Source___init__ (He.ma K (He.ga K "Source") "__init__") fd
  me_Source_comes_next : Meth K (He.ga K "Source") "comes_next" (He.ma K (He.ga K "Source") "comes_next")
  fn_Source_comes_next : ∃ fd, Fun K "comes_next" "Source.comes_next" s_Source_comes_next (He.ma K (He.ga K "Source") "comes_next") fd
  me_Source_skips : Meth K (He.ga K "Source") "skips" (He.ma K (He.ga K "Source") "skips")
  fn_Source_skips : ∃ fd, Fun K "skips" "Source.skips" s_Source_skips (He.ma K (He.ga K "Source") "skips") fd
  me_Source_goes_past : Meth K (He.ga K "Source") "goes_past" (He.ma K (He.ga K "Source") "goes_past")
  fn_Source_goes_past : ∃ fd, Fun K "goes_past" "Source.goes_past" s_Source_goes_past (He.ma K (He.ga K "Source") "goes_past") fd
  me_Source_run_of : Meth K (He.ga K "Source") "run_of" (He.ma K (He.ga K "Source") "run_of")
  fn_Source_run_of : ∃ fd, Fun K "run_of" "Source.run_of" s_Source_run_of (He.ma K (He.ga K "Source") "run_of") fd
  me_Source_next_sign : Meth K (He.ga K "Source") "next_sign" (He.ma K (He.ga K "Source") "next_sign")
  fn_Source_next_sign : ∃ fd, Fun K "next_sign" "Source.next_sign" s_Source_next_sign (He.ma K (He.ga K "Source") "next_sign") fd
  me_Source_at_end : Meth K (He.ga K "Source") "at_end" (He.ma K (He.ga K "Source") "at_end")
  fn_Source_at_end : ∃ fd, Fun K "at_end" "Source.at_end" s_Source_at_end (He.ma K (He.ga K "Source") "at_end") fd
  g_is_worth : mg "is_worth" = some (.ref (He.ga K "is_worth"))
  fn_is_worth : ∃ fd, Fun K "is_worth" "is_worth" s_is_worth (He.ga K "is_worth") fd
  g_is_name : mg "is_name" = some (.ref (He.ga K "is_name"))
  fn_is_name : ∃ fd, Fun K "is_name" "is_name" s_is_name (He.ga K "is_name") fd
  g_is_key : mg "is_key" = some (.ref (He.ga K "is_key"))
  fn_is_key : ∃ fd, Fun K "is_key" "is_key" s_is_key (He.ga K "is_key") fd
  g_is_reference : mg "is_reference" = some (.ref (He.ga K "is_reference"))
  fn_is_reference : ∃ fd, Fun K "is_reference" "is_reference" s_is_reference (He.ga K "is_reference") fd
  g_signs_ahead : mg "signs_ahead" = some (.ref (He.ga K "signs_ahead"))
  fn_signs_ahead : ∃ fd, Fun K "signs_ahead" "signs_ahead" s_signs_ahead (He.ga K "signs_ahead") fd
  g_number_of : mg "number_of" = some (.ref (He.ga K "number_of"))
  fn_number_of : ∃ fd, Fun K "number_of" "number_of" s_number_of (He.ga K "number_of") fd
  g_number_text : mg "number_text" = some (.ref (He.ga K "number_text"))
  fn_number_text : ∃ fd, Fun K "number_text" "number_text" s_number_text (He.ga K "number_text") fd
  g_is_number_text : mg "is_number_text" = some (.ref (He.ga K "is_number_text"))
  fn_is_number_text : ∃ fd, Fun K "is_number_text" "is_number_text" s_is_number_text (He.ga K "is_number_text") fd
  g_rank : mg "rank" = some (.ref (He.ga K "rank"))
  fn_rank : ∃ fd, Fun K "rank" "rank" s_rank (He.ga K "rank") fd
  g_is_stem : mg "is_stem" = some (.ref (He.ga K "is_stem"))
  fn_is_stem : ∃ fd, Fun K "is_stem" "is_stem" s_is_stem (He.ga K "is_stem") fd
  g_need_reference : mg "need_reference" = some (.ref (He.ga K "need_reference"))
  fn_need_reference : ∃ fd, Fun K "need_reference" "need_reference" s_need_reference (He.ga K "need_reference") fd
  g_need_worth : mg "need_worth" = some (.ref (He.ga K "need_worth"))
  fn_need_worth : ∃ fd, Fun K "need_worth" "need_worth" s_need_worth (He.ga K "need_worth") fd
  g_need_ordered : mg "need_ordered" = some (.ref (He.ga K "need_ordered"))
  fn_need_ordered : ∃ fd, Fun K "need_ordered" "need_ordered" s_need_ordered (He.ga K "need_ordered") fd
  g_ranks : mg "ranks" = some (.ref (He.ga K "ranks"))
  fn_ranks : ∃ fd, Fun K "ranks" "ranks" s_ranks (He.ga K "ranks") fd
  g_walked : mg "walked" = some (.ref (He.ga K "walked"))
  fn_walked : ∃ fd, Fun K "walked" "walked" s_walked (He.ga K "walked") fd
  g_truth_text : mg "truth_text" = some (.ref (He.ga K "truth_text"))
  fn_truth_text : ∃ fd, Fun K "truth_text" "truth_text" s_truth_text (He.ga K "truth_text") fd
  g_are_one_text : mg "are_one_text" = some (.ref (He.ga K "are_one_text"))
  fn_are_one_text : ∃ fd, Fun K "are_one_text" "are_one_text" s_are_one_text (He.ga K "are_one_text") fd
  g_put_behind : mg "put_behind" = some (.ref (He.ga K "put_behind"))
  fn_put_behind : ∃ fd, Fun K "put_behind" "put_behind" s_put_behind (He.ga K "put_behind") fd
  g_holds_other : mg "holds_other" = some (.ref (He.ga K "holds_other"))
  fn_holds_other : ∃ fd, Fun K "holds_other" "holds_other" s_holds_other (He.ga K "holds_other") fd
  g_stands_behind : mg "stands_behind" = some (.ref (He.ga K "stands_behind"))
  fn_stands_behind : ∃ fd, Fun K "stands_behind" "stands_behind" s_stands_behind (He.ga K "stands_behind") fd
  g_are_parts : mg "are_parts" = some (.ref (He.ga K "are_parts"))
  fn_are_parts : ∃ fd, Fun K "are_parts" "are_parts" s_are_parts (He.ga K "are_parts") fd
  g_may_stand : mg "may_stand" = some (.ref (He.ga K "may_stand"))
  fn_may_stand : ∃ fd, Fun K "may_stand" "may_stand" s_may_stand (He.ga K "may_stand") fd
  g_is_expression : mg "is_expression" = some (.ref (He.ga K "is_expression"))
  fn_is_expression : ∃ fd, Fun K "is_expression" "is_expression" s_is_expression (He.ga K "is_expression") fd
  g_are_names : mg "are_names" = some (.ref (He.ga K "are_names"))
  fn_are_names : ∃ fd, Fun K "are_names" "are_names" s_are_names (He.ga K "are_names") fd
  g_is_part : mg "is_part" = some (.ref (He.ga K "is_part"))
  fn_is_part : ∃ fd, Fun K "is_part" "is_part" s_is_part (He.ga K "is_part") fd
  g_is_deed : mg "is_deed" = some (.ref (He.ga K "is_deed"))
  fn_is_deed : ∃ fd, Fun K "is_deed" "is_deed" s_is_deed (He.ga K "is_deed") fd
  g_is_program : mg "is_program" = some (.ref (He.ga K "is_program"))
  fn_is_program : ∃ fd, Fun K "is_program" "is_program" s_is_program (He.ga K "is_program") fd
  g_quoted : mg "quoted" = some (.ref (He.ga K "quoted"))
  fn_quoted : ∃ fd, Fun K "quoted" "quoted" s_quoted (He.ga K "quoted") fd
  g_shown_worth : mg "shown_worth" = some (.ref (He.ga K "shown_worth"))
  fn_shown_worth : ∃ fd, Fun K "shown_worth" "shown_worth" s_shown_worth (He.ga K "shown_worth") fd
  g_joined : mg "joined" = some (.ref (He.ga K "joined"))
  fn_joined : ∃ fd, Fun K "joined" "joined" s_joined (He.ga K "joined") fd
  g_name_read : mg "name_read" = some (.ref (He.ga K "name_read"))
  fn_name_read : ∃ fd, Fun K "name_read" "name_read" s_name_read (He.ga K "name_read") fd
  g_quoted_read : mg "quoted_read" = some (.ref (He.ga K "quoted_read"))
  fn_quoted_read : ∃ fd, Fun K "quoted_read" "quoted_read" s_quoted_read (He.ga K "quoted_read") fd
  g_worth_read : mg "worth_read" = some (.ref (He.ga K "worth_read"))
  fn_worth_read : ∃ fd, Fun K "worth_read" "worth_read" s_worth_read (He.ga K "worth_read") fd
  g_parts_read : mg "parts_read" = some (.ref (He.ga K "parts_read"))
  fn_parts_read : ∃ fd, Fun K "parts_read" "parts_read" s_parts_read (He.ga K "parts_read") fd
  g_some_parts_read : mg "some_parts_read" = some (.ref (He.ga K "some_parts_read"))
  fn_some_parts_read : ∃ fd, Fun K "some_parts_read" "some_parts_read" s_some_parts_read (He.ga K "some_parts_read") fd
  g_place_read : mg "place_read" = some (.ref (He.ga K "place_read"))
  fn_place_read : ∃ fd, Fun K "place_read" "place_read" s_place_read (He.ga K "place_read") fd
  g_call_read : mg "call_read" = some (.ref (He.ga K "call_read"))
  fn_call_read : ∃ fd, Fun K "call_read" "call_read" s_call_read (He.ga K "call_read") fd
  g_under_read : mg "under_read" = some (.ref (He.ga K "under_read"))
  fn_under_read : ∃ fd, Fun K "under_read" "under_read" s_under_read (He.ga K "under_read") fd
  g_single_read : mg "single_read" = some (.ref (He.ga K "single_read"))
  fn_single_read : ∃ fd, Fun K "single_read" "single_read" s_single_read (He.ga K "single_read") fd
  g_is_within : mg "is_within" = some (.ref (He.ga K "is_within"))
  fn_is_within : ∃ fd, Fun K "is_within" "is_within" s_is_within (He.ga K "is_within") fd
  g_expression_from : mg "expression_from" = some (.ref (He.ga K "expression_from"))
  fn_expression_from : ∃ fd, Fun K "expression_from" "expression_from" s_expression_from (He.ga K "expression_from") fd
  g_read_expression : mg "read_expression" = some (.ref (He.ga K "read_expression"))
  fn_read_expression : ∃ fd, Fun K "read_expression" "read_expression" s_read_expression (He.ga K "read_expression") fd
  g_names_read : mg "names_read" = some (.ref (He.ga K "names_read"))
  fn_names_read : ∃ fd, Fun K "names_read" "names_read" s_names_read (He.ga K "names_read") fd
  g_for_read : mg "for_read" = some (.ref (He.ga K "for_read"))
  fn_for_read : ∃ fd, Fun K "for_read" "for_read" s_for_read (He.ga K "for_read") fd
  g_deed_read : mg "deed_read" = some (.ref (He.ga K "deed_read"))
  fn_deed_read : ∃ fd, Fun K "deed_read" "deed_read" s_deed_read (He.ga K "deed_read") fd
  g_row_read : mg "row_read" = some (.ref (He.ga K "row_read"))
  fn_row_read : ∃ fd, Fun K "row_read" "row_read" s_row_read (He.ga K "row_read") fd
  g_label_read : mg "label_read" = some (.ref (He.ga K "label_read"))
  fn_label_read : ∃ fd, Fun K "label_read" "label_read" s_label_read (He.ga K "label_read") fd
  g_read_program : mg "read_program" = some (.ref (He.ga K "read_program"))
  fn_read_program : ∃ fd, Fun K "read_program" "read_program" s_read_program (He.ga K "read_program") fd
  g_show_arrays : mg "show_arrays" = some (.ref (He.ga K "show_arrays"))
  fn_show_arrays : ∃ fd, Fun K "show_arrays" "show_arrays" s_show_arrays (He.ga K "show_arrays") fd
  g_node_read : mg "node_read" = some (.ref (He.ga K "node_read"))
  fn_node_read : ∃ fd, Fun K "node_read" "node_read" s_node_read (He.ga K "node_read") fd
  g_read_arrays : mg "read_arrays" = some (.ref (He.ga K "read_arrays"))
  fn_read_arrays : ∃ fd, Fun K "read_arrays" "read_arrays" s_read_arrays (He.ga K "read_arrays") fd
  g__law_cell_at : mg "_law_cell_at" = some (.ref (He.ga K "_law_cell_at"))
  fn__law_cell_at : ∃ fd, Fun K "_law_cell_at" "_law_cell_at" s__law_cell_at (He.ga K "_law_cell_at") fd
  g__law_bag : mg "_law_bag" = some (.ref (He.ga K "_law_bag"))
  fn__law_bag : ∃ fd, Fun K "_law_bag" "_law_bag" s__law_bag (He.ga K "_law_bag") fd
  g__law_draw : mg "_law_draw" = some (.ref (He.ga K "_law_draw"))
  fn__law_draw : ∃ fd, Fun K "_law_draw" "_law_draw" s__law_draw (He.ga K "_law_draw") fd
  g__law_only_no_text : mg "_law_only_no_text" = some (.ref (He.ga K "_law_only_no_text"))
  fn__law_only_no_text : ∃ fd, Fun K "_law_only_no_text" "_law_only_no_text" s__law_only_no_text (He.ga K "_law_only_no_text") fd
  g__law_refused : mg "_law_refused" = some (.ref (He.ga K "_law_refused"))
  fn__law_refused : ∃ fd, Fun K "_law_refused" "_law_refused" s__law_refused (He.ga K "_law_refused") fd
  g_law : mg "law" = some (.ref (He.ga K "law"))
  fn_law : ∃ fd, Fun K "law" "law" s_law (He.ga K "law") fd
end Sk

/-! ## SkHk -/
namespace Sk
open PySem PySem.Spec PyProof.Rows L2 He
/-! ### a Hook over all objects, in a form that the kernel compares quickly (lists by two maps of different names) -/
def mp {α β : Type} (f : α → β) : List α → List β
  | [] => []
  | a :: l => f a :: mp f l
theorem mp_eq {α β : Type} (f : α → β) : ∀ l : List α, mp f l = l.map f
  | [] => rfl
  | a :: l => by rw [List.map_cons, mp, mp_eq f l]
def allB {α : Type} (f : α → Bool) : List α → Bool
  | [] => true
  | a :: l => match f a with
    | true => allB f l
    | false => false
theorem allB_mem {α : Type} {f : α → Bool} : ∀ {l : List α}, allB f l = true → ∀ a ∈ l, f a = true
  | [], _, _, h => nomatch h
  | b :: l, h, a, ha => by
    unfold allB at h
    cases e : f b with
    | false => rw [e] at h; cases h
    | true =>
      rw [e] at h
      cases ha with
      | head => exact e
      | tail _ ha => exact allB_mem h a ha
abbrev AlB : Type := Bool × List FnW × List (Option (List (Option (Str × Int))))
def obsK (fa : List Fa) (fn : List DefD) (ts : List Tab) (ex : List (PySem.W.Frag → Bool)) (K : PySem.W.Frag) : AlB := (match allB (fun f : Fa => f.ok K) fa with
  | true => (match allB (fun d : DefD => d.ok K) fn with
    | true => allB (fun x : PySem.W.Frag → Bool => x K) ex
    | false => false)
  | false => false, mp (fun d : DefD => fnW K d.at_) fn, mp (fun t : Tab => dicW K (t.1 K)) ts)
def obsB (N : Nat) (fa : List Fa) (fn : List DefD) (ts : List Tab) (ex : List (PySem.W.Frag → Bool)) (g : Addr → Option Obj) : AlB := obsK fa fn ts ex (frG g (List.range N))
def valB (fn : List DefD) (ts : List Tab) (w : World) : AlB := (true, fn.map DefD.val, ts.map fun t => some (keysIn w.params t.2))
structure SaysB (fa : List Fa) (fn : List DefD) (ts : List Tab) (ex : List (PySem.W.Frag → Bool)) (w : World) (K : PySem.W.Frag) : Prop where
  d : SaysD fa fn K
  tab : ∀ t ∈ ts, dicW K (t.1 K) = some (keysIn w.params t.2)
  ex : ∀ x ∈ ex, x K = true
theorem map_same {α β : Type} {f g : α → β} : ∀ {l : List α}, l.map f = l.map g → ∀ a ∈ l, f a = g a
  | [], _, _, h => nomatch h
  | b :: l, h, a, ha => by
    rw [List.map_cons, List.map_cons] at h
    injection h with h1 h2
    cases ha with
    | head => exact h1
    | tail _ ha => exact map_same h2 a ha
theorem saysB_of {fa : List Fa} {fn : List DefD} {ts : List Tab} {ex : List (PySem.W.Frag → Bool)} {w : World} {K : PySem.W.Frag} (e : obsK fa fn ts ex K = valB fn ts w) : SaysB fa fn ts ex w K := by
  have e1 : (match allB (fun f : Fa => f.ok K) fa with
    | true => (match allB (fun d : DefD => d.ok K) fn with
      | true => allB (fun x : PySem.W.Frag → Bool => x K) ex
      | false => false)
    | false => false) = true := congrArg (fun z : AlB => z.1) e
  have e2 : mp (fun d : DefD => fnW K d.at_) fn = fn.map DefD.val := congrArg (fun z : AlB => z.2.1) e
  have e3 : mp (fun t : Tab => dicW K (t.1 K)) ts = ts.map fun t => some (keysIn w.params t.2) := congrArg (fun z : AlB => z.2.2) e
  rw [mp_eq] at e2 e3
  cases a1 : allB (fun f : Fa => f.ok K) fa with
  | false => rw [a1] at e1; cases e1
  | true =>
    rw [a1] at e1
    cases a2 : allB (fun d : DefD => d.ok K) fn with
    | false => rw [a2] at e1; cases e1
    | true =>
      rw [a2] at e1
      refine ⟨?_, map_same e3, allB_mem (show allB (fun x : PySem.W.Frag → Bool => x K) ex = true from e1)⟩
      have b1 : (fa.all fun f => f.ok K) = true := List.all_eq_true.mpr (allB_mem a1)
      have b2 : (fn.all fun d => d.ok K) = true := List.all_eq_true.mpr (allB_mem a2)
      show obsD fa fn K = valD fn
      unfold obsD valD
      rw [b1, b2, e2]
      rfl
def hookB (N : Nat) (fa : List Fa) (fn : List DefD) (ts : List Tab) (ex : List (PySem.W.Frag → Bool)) : PySem.W.Hook where
  α := AlB
  obs := fun s => obsB N fa fn ts ex s.heap.get?
  val := fun w => valB fn ts w
  says := fun w h => ∃ K : PySem.W.Frag, K.In h ∧ SaysB fa fn ts ex w K
  of := fun _ _ e => ⟨_, frG_in, saysB_of e⟩
  keeps := fun _ _ _ ⟨K, hK, c⟩ k => ⟨K, PySem.W.Frag.In.keeps hK k, c⟩
theorem obsB_eq {N : Nat} {fa : List Fa} {fn : List DefD} {ts : List Tab} {ex : List (PySem.W.Frag → Bool)} {g : Addr → Option Obj} {s : Shared} (h : ∀ a, g a = s.heap.get? a) : obsB N fa fn ts ex g = (hookB N fa fn ts ex).obs s := by
  have e : g = s.heap.get? := funext h
  rw [e] <;> rfl
theorem SaysB.exl {fa : List Fa} {fn : List DefD} {ts : List Tab} {ex : List (PySem.W.Frag → Bool)} {w : World} {K : PySem.W.Frag} (c : SaysB fa fn ts ex w K) (i : Nat) {x : PySem.W.Frag → Bool} (h : ex[i]? = some x) : x K = true := c.ex x (List.mem_of_getElem? h)
theorem SaysB.tabs {fa : List Fa} {fn : List DefD} {ts : List Tab} {ex : List (PySem.W.Frag → Bool)} {w : World} {K : PySem.W.Frag} (c : SaysB fa fn ts ex w K) (i : Nat) {t : Tab} (h : ts[i]? = some t) : dicW K (t.1 K) = some (keysIn w.params t.2) := c.tab t (List.mem_of_getElem? h)
/-- what the top leaves, looked at -/
def RunA (r : PySem.W.OpenRow) (q : Program) (M : Nat) (loose : List PySem.Str) (w : World) : Prop :=
  ∀ os : OsState, (HandSHeadRun.endF (HandSHeadRun.stepQ (HandSHeadRun.denQ HandSHeadRun.tabQ) r.prog w) M r.prog w os).map (fun s => (HandSHeadRun.looksF r.prog (PySem.W.boot_heap w.params) s.abs, HandSHeadRun.seenQ q loose (importedModules r.prog.main.body) (fun s => PySem.W.xlAt q [] s && PySem.W.recOk r.toRowW.records s) s.abs)) = some (true, PySem.W.openGood q loose)
def RunB (r : PySem.W.OpenRow) (H : PySem.W.Hook) (ob : PySem.W.SharedT → H.α) (M : Nat) (w : World) : Prop :=
  ∀ os : OsState, (HandSHeadRun.endF (HandSHeadRun.stepQ (HandSHeadRun.denQ HandSHeadRun.tabQ) r.prog w) M r.prog w os).map ob = some (H.val w)
/-- a run's equation from two -/
theorem map_two {α β γ δ : Type} {o : Option α} {f : α → β} {g : α → γ} {k : α → δ} {a : β} {b : γ} {c : δ} (h1 : o.map (fun s => (f s, g s)) = some (a, b)) (h2 : o.map k = some c) : o.map (fun s => (f s, g s, k s)) = some (a, b, c) := by
  cases o with
  | none => cases h1
  | some s =>
    injection h1 with h1
    injection h2 with h2
    injection h1 with h1 h3
    show some (f s, g s, k s) = some (a, b, c)
    rw [h1, h2, h3]
theorem run_two {r : PySem.W.OpenRow} {q : Program} {H : PySem.W.Hook} {ob : PySem.W.SharedT → H.α} {M : Nat} {loose : List PySem.Str} {w : World} (h1 : RunA r q M loose w) (h2 : RunB r H ob M w) : HandSHeadRun.RunEq r q H ob M loose w := fun os => map_two (h1 os) (h2 os)
end Sk

/-! ## HR57 -/
namespace Sk
open PySem PySem.Spec PyProof.Rows L2
def dd_Arrays___init__ : He.DefD := ⟨("Arrays", some "__init__"), "__init__", "Arrays.__init__", defArgs s_Arrays___init__, defBody s_Arrays___init__, defScope s_Arrays___init__, [], []⟩
def dd_Arrays_put : He.DefD := ⟨("Arrays", some "put"), "put", "Arrays.put", defArgs s_Arrays_put, defBody s_Arrays_put, defScope s_Arrays_put, [], []⟩
def dd_Arrays_read : He.DefD := ⟨("Arrays", some "read"), "read", "Arrays.read", defArgs s_Arrays_read, defBody s_Arrays_read, defScope s_Arrays_read, [], [("otherwise", .str "")]⟩
def dd_Arrays_beneath : He.DefD := ⟨("Arrays", some "beneath"), "beneath", "Arrays.beneath", defArgs s_Arrays_beneath, defBody s_Arrays_beneath, defScope s_Arrays_beneath, [], []⟩
def dd_Arrays_data : He.DefD := ⟨("Arrays", some "data"), "data", "Arrays.data", defArgs s_Arrays_data, defBody s_Arrays_data, defScope s_Arrays_data, [], []⟩
def dd_Arrays_kill : He.DefD := ⟨("Arrays", some "kill"), "kill", "Arrays.kill", defArgs s_Arrays_kill, defBody s_Arrays_kill, defScope s_Arrays_kill, [], []⟩
def dd_Arrays_names : He.DefD := ⟨("Arrays", some "names"), "names", "Arrays.names", defArgs s_Arrays_names, defBody s_Arrays_names, defScope s_Arrays_names, [], []⟩
def dd_Arrays_count : He.DefD := ⟨("Arrays", some "count"), "count", "Arrays.count", defArgs s_Arrays_count, defBody s_Arrays_count, defScope s_Arrays_count, [], []⟩
def dd_Arrays_order : He.DefD := ⟨("Arrays", some "order"), "order", "Arrays.order", defArgs s_Arrays_order, defBody s_Arrays_order, defScope s_Arrays_order, [], [("back", .bl false)]⟩
def dd_Arrays_following : He.DefD := ⟨("Arrays", some "following"), "following", "Arrays.following", defArgs s_Arrays_following, defBody s_Arrays_following, defScope s_Arrays_following, [], [("back", .bl false)]⟩
def dd_Arrays_rows : He.DefD := ⟨("Arrays", some "rows"), "rows", "Arrays.rows", defArgs s_Arrays_rows, defBody s_Arrays_rows, defScope s_Arrays_rows, [], []⟩
def dd_Arrays_merge : He.DefD := ⟨("Arrays", some "merge"), "merge", "Arrays.merge", defArgs s_Arrays_merge, defBody s_Arrays_merge, defScope s_Arrays_merge, [], []⟩
def dd_Source___init__ : He.DefD := ⟨("Source", some "__init__"), "__init__", "Source.__init__", defArgs s_Source___init__, defBody s_Source___init__, defScope s_Source___init__, [], []⟩
def dd_Source_comes_next : He.DefD := ⟨("Source", some "comes_next"), "comes_next", "Source.comes_next", defArgs s_Source_comes_next, defBody s_Source_comes_next, defScope s_Source_comes_next, [], []⟩
def dd_Source_skips : He.DefD := ⟨("Source", some "skips"), "skips", "Source.skips", defArgs s_Source_skips, defBody s_Source_skips, defScope s_Source_skips, [], []⟩
def dd_Source_goes_past : He.DefD := ⟨("Source", some "goes_past"), "goes_past", "Source.goes_past", defArgs s_Source_goes_past, defBody s_Source_goes_past, defScope s_Source_goes_past, [], []⟩
def dd_Source_run_of : He.DefD := ⟨("Source", some "run_of"), "run_of", "Source.run_of", defArgs s_Source_run_of, defBody s_Source_run_of, defScope s_Source_run_of, [], []⟩
def dd_Source_next_sign : He.DefD := ⟨("Source", some "next_sign"), "next_sign", "Source.next_sign", defArgs s_Source_next_sign, defBody s_Source_next_sign, defScope s_Source_next_sign, [], []⟩
def dd_Source_at_end : He.DefD := ⟨("Source", some "at_end"), "at_end", "Source.at_end", defArgs s_Source_at_end, defBody s_Source_at_end, defScope s_Source_at_end, [], []⟩
def dd_is_worth : He.DefD := ⟨("is_worth", none), "is_worth", "is_worth", defArgs s_is_worth, defBody s_is_worth, defScope s_is_worth, [], []⟩
def dd_is_name : He.DefD := ⟨("is_name", none), "is_name", "is_name", defArgs s_is_name, defBody s_is_name, defScope s_is_name, [], []⟩
def dd_is_key : He.DefD := ⟨("is_key", none), "is_key", "is_key", defArgs s_is_key, defBody s_is_key, defScope s_is_key, [], []⟩
def dd_is_reference : He.DefD := ⟨("is_reference", none), "is_reference", "is_reference", defArgs s_is_reference, defBody s_is_reference, defScope s_is_reference, [], []⟩
def dd_signs_ahead : He.DefD := ⟨("signs_ahead", none), "signs_ahead", "signs_ahead", defArgs s_signs_ahead, defBody s_signs_ahead, defScope s_signs_ahead, [], []⟩
def dd_number_of : He.DefD := ⟨("number_of", none), "number_of", "number_of", defArgs s_number_of, defBody s_number_of, defScope s_number_of, [], []⟩
def dd_number_text : He.DefD := ⟨("number_text", none), "number_text", "number_text", defArgs s_number_text, defBody s_number_text, defScope s_number_text, [], []⟩
def dd_is_number_text : He.DefD := ⟨("is_number_text", none), "is_number_text", "is_number_text", defArgs s_is_number_text, defBody s_is_number_text, defScope s_is_number_text, [], []⟩
def dd_rank : He.DefD := ⟨("rank", none), "rank", "rank", defArgs s_rank, defBody s_rank, defScope s_rank, [], []⟩
def dd_is_stem : He.DefD := ⟨("is_stem", none), "is_stem", "is_stem", defArgs s_is_stem, defBody s_is_stem, defScope s_is_stem, [], []⟩
def dd_need_reference : He.DefD := ⟨("need_reference", none), "need_reference", "need_reference", defArgs s_need_reference, defBody s_need_reference, defScope s_need_reference, [], []⟩
def dd_need_worth : He.DefD := ⟨("need_worth", none), "need_worth", "need_worth", defArgs s_need_worth, defBody s_need_worth, defScope s_need_worth, [], []⟩
def dd_need_ordered : He.DefD := ⟨("need_ordered", none), "need_ordered", "need_ordered", defArgs s_need_ordered, defBody s_need_ordered, defScope s_need_ordered, [], []⟩
def dd_ranks : He.DefD := ⟨("ranks", none), "ranks", "ranks", defArgs s_ranks, defBody s_ranks, defScope s_ranks, [], []⟩
def dd_walked : He.DefD := ⟨("walked", none), "walked", "walked", defArgs s_walked, defBody s_walked, defScope s_walked, [], []⟩
def dd_truth_text : He.DefD := ⟨("truth_text", none), "truth_text", "truth_text", defArgs s_truth_text, defBody s_truth_text, defScope s_truth_text, [], []⟩
def dd_are_one_text : He.DefD := ⟨("are_one_text", none), "are_one_text", "are_one_text", defArgs s_are_one_text, defBody s_are_one_text, defScope s_are_one_text, [], []⟩
def dd_put_behind : He.DefD := ⟨("put_behind", none), "put_behind", "put_behind", defArgs s_put_behind, defBody s_put_behind, defScope s_put_behind, [], []⟩
def dd_holds_other : He.DefD := ⟨("holds_other", none), "holds_other", "holds_other", defArgs s_holds_other, defBody s_holds_other, defScope s_holds_other, [], []⟩
def dd_stands_behind : He.DefD := ⟨("stands_behind", none), "stands_behind", "stands_behind", defArgs s_stands_behind, defBody s_stands_behind, defScope s_stands_behind, [], []⟩
def dd_are_parts : He.DefD := ⟨("are_parts", none), "are_parts", "are_parts", defArgs s_are_parts, defBody s_are_parts, defScope s_are_parts, [], []⟩
def dd_may_stand : He.DefD := ⟨("may_stand", none), "may_stand", "may_stand", defArgs s_may_stand, defBody s_may_stand, defScope s_may_stand, [], []⟩
def dd_is_expression : He.DefD := ⟨("is_expression", none), "is_expression", "is_expression", defArgs s_is_expression, defBody s_is_expression, defScope s_is_expression, [], []⟩
def dd_are_names : He.DefD := ⟨("are_names", none), "are_names", "are_names", defArgs s_are_names, defBody s_are_names, defScope s_are_names, [], []⟩
def dd_is_part : He.DefD := ⟨("is_part", none), "is_part", "is_part", defArgs s_is_part, defBody s_is_part, defScope s_is_part, [], []⟩
def dd_is_deed : He.DefD := ⟨("is_deed", none), "is_deed", "is_deed", defArgs s_is_deed, defBody s_is_deed, defScope s_is_deed, [], []⟩
def dd_is_program : He.DefD := ⟨("is_program", none), "is_program", "is_program", defArgs s_is_program, defBody s_is_program, defScope s_is_program, [], []⟩
def dd_quoted : He.DefD := ⟨("quoted", none), "quoted", "quoted", defArgs s_quoted, defBody s_quoted, defScope s_quoted, [], []⟩
def dd_shown_worth : He.DefD := ⟨("shown_worth", none), "shown_worth", "shown_worth", defArgs s_shown_worth, defBody s_shown_worth, defScope s_shown_worth, [], []⟩
def dd_joined : He.DefD := ⟨("joined", none), "joined", "joined", defArgs s_joined, defBody s_joined, defScope s_joined, [], []⟩
def dd_name_read : He.DefD := ⟨("name_read", none), "name_read", "name_read", defArgs s_name_read, defBody s_name_read, defScope s_name_read, [], []⟩
def dd_quoted_read : He.DefD := ⟨("quoted_read", none), "quoted_read", "quoted_read", defArgs s_quoted_read, defBody s_quoted_read, defScope s_quoted_read, [], []⟩
def dd_worth_read : He.DefD := ⟨("worth_read", none), "worth_read", "worth_read", defArgs s_worth_read, defBody s_worth_read, defScope s_worth_read, [], []⟩
def dd_parts_read : He.DefD := ⟨("parts_read", none), "parts_read", "parts_read", defArgs s_parts_read, defBody s_parts_read, defScope s_parts_read, [], []⟩
def dd_some_parts_read : He.DefD := ⟨("some_parts_read", none), "some_parts_read", "some_parts_read", defArgs s_some_parts_read, defBody s_some_parts_read, defScope s_some_parts_read, [], []⟩
def dd_place_read : He.DefD := ⟨("place_read", none), "place_read", "place_read", defArgs s_place_read, defBody s_place_read, defScope s_place_read, [], []⟩
def dd_call_read : He.DefD := ⟨("call_read", none), "call_read", "call_read", defArgs s_call_read, defBody s_call_read, defScope s_call_read, [], []⟩
def dd_under_read : He.DefD := ⟨("under_read", none), "under_read", "under_read", defArgs s_under_read, defBody s_under_read, defScope s_under_read, [], []⟩
def dd_single_read : He.DefD := ⟨("single_read", none), "single_read", "single_read", defArgs s_single_read, defBody s_single_read, defScope s_single_read, [], []⟩
def dd_is_within : He.DefD := ⟨("is_within", none), "is_within", "is_within", defArgs s_is_within, defBody s_is_within, defScope s_is_within, [], []⟩
def dd_expression_from : He.DefD := ⟨("expression_from", none), "expression_from", "expression_from", defArgs s_expression_from, defBody s_expression_from, defScope s_expression_from, [], []⟩
def dd_read_expression : He.DefD := ⟨("read_expression", none), "read_expression", "read_expression", defArgs s_read_expression, defBody s_read_expression, defScope s_read_expression, [], []⟩
def dd_names_read : He.DefD := ⟨("names_read", none), "names_read", "names_read", defArgs s_names_read, defBody s_names_read, defScope s_names_read, [], []⟩
def dd_for_read : He.DefD := ⟨("for_read", none), "for_read", "for_read", defArgs s_for_read, defBody s_for_read, defScope s_for_read, [], []⟩
def dd_deed_read : He.DefD := ⟨("deed_read", none), "deed_read", "deed_read", defArgs s_deed_read, defBody s_deed_read, defScope s_deed_read, [], []⟩
def dd_row_read : He.DefD := ⟨("row_read", none), "row_read", "row_read", defArgs s_row_read, defBody s_row_read, defScope s_row_read, [], []⟩
def dd_label_read : He.DefD := ⟨("label_read", none), "label_read", "label_read", defArgs s_label_read, defBody s_label_read, defScope s_label_read, [], []⟩
def dd_read_program : He.DefD := ⟨("read_program", none), "read_program", "read_program", defArgs s_read_program, defBody s_read_program, defScope s_read_program, [], []⟩
def dd_show_arrays : He.DefD := ⟨("show_arrays", none), "show_arrays", "show_arrays", defArgs s_show_arrays, defBody s_show_arrays, defScope s_show_arrays, [], []⟩
def dd_node_read : He.DefD := ⟨("node_read", none), "node_read", "node_read", defArgs s_node_read, defBody s_node_read, defScope s_node_read, [], []⟩
def dd_read_arrays : He.DefD := ⟨("read_arrays", none), "read_arrays", "read_arrays", defArgs s_read_arrays, defBody s_read_arrays, defScope s_read_arrays, [], []⟩
def dd__law_cell_at : He.DefD := ⟨("_law_cell_at", none), "_law_cell_at", "_law_cell_at", defArgs s__law_cell_at, defBody s__law_cell_at, defScope s__law_cell_at, [], []⟩
def dd__law_bag : He.DefD := ⟨("_law_bag", none), "_law_bag", "_law_bag", defArgs s__law_bag, defBody s__law_bag, defScope s__law_bag, [], []⟩
def dd__law_draw : He.DefD := ⟨("_law_draw", none), "_law_draw", "_law_draw", defArgs s__law_draw, defBody s__law_draw, defScope s__law_draw, [], []⟩
def dd__law_only_no_text : He.DefD := ⟨("_law_only_no_text", none), "_law_only_no_text", "_law_only_no_text", defArgs s__law_only_no_text, defBody s__law_only_no_text, defScope s__law_only_no_text, [], []⟩
def dd__law_refused : He.DefD := ⟨("_law_refused", none), "_law_refused", "_law_refused", defArgs s__law_refused, defBody s__law_refused, defScope s__law_refused, [], []⟩
def dd_law : He.DefD := ⟨("law", none), "law", "law", defArgs s_law, defBody s_law, defScope s_law, [], []⟩
def dfn : List He.DefD := [dd_Arrays___init__, dd_Arrays_put, dd_Arrays_read, dd_Arrays_beneath, dd_Arrays_data, dd_Arrays_kill, dd_Arrays_names, dd_Arrays_count, dd_Arrays_order, dd_Arrays_following, dd_Arrays_rows, dd_Arrays_merge, dd_Source___init__, dd_Source_comes_next, dd_Source_skips, dd_Source_goes_past, dd_Source_run_of, dd_Source_next_sign, dd_Source_at_end, dd_is_worth, dd_is_name, dd_is_key, dd_is_reference, dd_signs_ahead, dd_number_of, dd_number_text, dd_is_number_text, dd_rank, dd_is_stem, dd_need_reference, dd_need_worth, dd_need_ordered, dd_ranks, dd_walked, dd_truth_text, dd_are_one_text, dd_put_behind, dd_holds_other, dd_stands_behind, dd_are_parts, dd_may_stand, dd_is_expression, dd_are_names, dd_is_part, dd_is_deed, dd_is_program, dd_quoted, dd_shown_worth, dd_joined, dd_name_read, dd_quoted_read, dd_worth_read, dd_parts_read, dd_some_parts_read, dd_place_read, dd_call_read, dd_under_read, dd_single_read, dd_is_within, dd_expression_from, dd_read_expression, dd_names_read, dd_for_read, dd_deed_read, dd_row_read, dd_label_read, dd_read_program, dd_show_arrays, dd_node_read, dd_read_arrays, dd__law_cell_at, dd__law_bag, dd__law_draw, dd__law_only_no_text, dd__law_refused, dd_law]
def fac : List He.Fa := [.free "ValueError", .free "all", .free "int", .free "isinstance", .free "len", .free "list", .free "max", .free "min", .free "range", .free "set", .free "sorted", .free "str", .free "tuple", .free "zip", .str "LETTERS" "abcdefghijklmnopqrstuvwxyz", .str "FIGURES" "0123456789", .int "MOST_SIGNS" 40, .int "MOST_LETTERS" 8, .int "MOST_KEYS" 6, .str "SIGNS" " !\"#$&'()*+,-./0123456789:;<=>?@ABCDEFGHIJKLMNOPQRSTUVWXYZ[\\]^_`abcdefghijklmnopqrstuvwxyz{|}~", .glo "PLACES_terms", .str "BY_NUMBERS" "+-*/#<>&!", .glo "PLACES_jobs", .str "OPS" "+-*/#<>=_[]&!", .int "MOST_LEVELS" 40, .glo "PLACES_texts", .glo "ALONE", .glo "SHAPES_terms", .glo "BY_TEXTS", .glo "SHAPES_jobs", .glo "CALLS", .exc "NoText", .glo "NoText", .exm "NoText" "StemError" true, .glo "StemError", .glo "NoRef", .glo "NoWorth", .glo "Within", .glo "TooDeep", .glo "NoHead", .glo "NoJob", .glo "Waiting", .glo "NoLock", .glo "Held", .glo "NoDealing", .glo "Erring", .glo "NoProgram", .glo "NoLabel", .glo "TooLong", .glo "Arrays", .glo "Source", .cls "Arrays", .mkr "Arrays", .noat "Arrays" "nodes", .meth "Arrays" "put", .meth "Arrays" "read", .meth "Arrays" "beneath", .meth "Arrays" "data", .meth "Arrays" "kill", .meth "Arrays" "names", .meth "Arrays" "count", .meth "Arrays" "order", .meth "Arrays" "following", .meth "Arrays" "rows", .meth "Arrays" "merge", .cls "Source", .mkr "Source", .noat "Source" "signs", .noat "Source" "spot", .meth "Source" "comes_next", .meth "Source" "skips", .meth "Source" "goes_past", .meth "Source" "run_of", .meth "Source" "next_sign", .meth "Source" "at_end", .glo "is_worth", .glo "is_name", .glo "is_key", .glo "is_reference", .glo "signs_ahead", .glo "number_of", .glo "number_text", .glo "is_number_text", .glo "rank", .glo "is_stem", .glo "need_reference", .glo "need_worth", .glo "need_ordered", .glo "ranks", .glo "walked", .glo "truth_text", .glo "are_one_text", .glo "put_behind", .glo "holds_other", .glo "stands_behind", .glo "are_parts", .glo "may_stand", .glo "is_expression", .glo "are_names", .glo "is_part", .glo "is_deed", .glo "is_program", .glo "quoted", .glo "shown_worth", .glo "joined", .glo "name_read", .glo "quoted_read", .glo "worth_read", .glo "parts_read", .glo "some_parts_read", .glo "place_read", .glo "call_read", .glo "under_read", .glo "single_read", .glo "is_within", .glo "expression_from", .glo "read_expression", .glo "names_read", .glo "for_read", .glo "deed_read", .glo "row_read", .glo "label_read", .glo "read_program", .glo "show_arrays", .glo "node_read", .glo "read_arrays", .glo "_law_cell_at", .glo "_law_bag", .glo "_law_draw", .glo "_law_only_no_text", .glo "_law_refused", .glo "law"]
theorem hd_mk {w : World} {K : PySem.W.Frag} {h : Heap} {mg : Str → Option Value} (X : K.In h) (G : h.Ns mainGlobals mg) (c : He.SaysD fac dfn K) (knt : KtNT K) (x_PLACES_terms : He.tupB K "PLACES_terms" [.str "var", .str "at", .str "short"] = true) (x_PLACES_jobs : He.tupB K "PLACES_jobs" [.str "var", .str "at", .str "short"] = true) (x_PLACES_texts : He.tupB K "PLACES_texts" [.str "order", .str "back", .str "data"] = true) (x_ALONE : He.tupB K "ALONE" [.str "else", .str "quit", .str "start", .str "keep", .str "undo", .str "halt"] = true) (y_SHAPES_terms : He.dicW K (He.ga K "SHAPES_terms") = some (He.keysIn w.params ["is", "var", "at", "short", "op", "not", "minus", "length", "piece", "part", "order", "back", "data", "other"])) (z_SHAPES_terms : He.valsB K (He.ga K "SHAPES_terms") [("is", .str "w"), ("var", .str "np"), ("at", .str "np"), ("short", .str "q"), ("op", .str "see"), ("not", .str "e"), ("minus", .str "e"), ("length", .str "e"), ("piece", .str "eee"), ("part", .str "eee"), ("order", .str "l"), ("back", .str "l"), ("data", .str "l"), ("other", .str "le")] = true) (y_BY_TEXTS : He.dicW K (He.ga K "BY_TEXTS") = some (He.keysIn w.params ["=", "_", "[", "]"])) (z_BY_TEXTS : He.valsB K (He.ga K "BY_TEXTS") [("=", .glo "are_one_text"), ("_", .glo "put_behind"), ("[", .glo "holds_other"), ("]", .glo "stands_behind")] = true) (y_SHAPES_jobs : He.dicW K (He.ga K "SHAPES_jobs") = some (He.keysIn w.params ["set", "kill", "write", "if", "else", "for", "do", "quit", "new", "lock", "free", "free_all", "start", "keep", "undo", "halt"])) (z_SHAPES_jobs : He.valsB K (He.ga K "SHAPES_jobs") [("set", .str "pe"), ("kill", .str "p"), ("write", .str "e"), ("if", .str "e"), ("else", .str ""), ("for", .str "neee"), ("do", .str "ld"), ("quit", .str ""), ("new", .str "s"), ("lock", .str "a"), ("free", .str "a"), ("free_all", .str ""), ("start", .str ""), ("keep", .str ""), ("undo", .str ""), ("halt", .str "")] = true) (y_CALLS : He.dicW K (He.ga K "CALLS") = some (He.keysIn w.params ["length", "piece", "part"])) (z_CALLS : He.valsB K (He.ga K "CALLS") [("length", .int 1), ("piece", .int 3), ("part", .int 3)] = true) : Hd w K mg where
  f_ValueError := He.free_ok X G (c.fact 0 (f := .free "ValueError") rfl)
  f_all := He.free_ok X G (c.fact 1 (f := .free "all") rfl)
  f_int := He.free_ok X G (c.fact 2 (f := .free "int") rfl)
  f_isinstance := He.free_ok X G (c.fact 3 (f := .free "isinstance") rfl)
  f_len := He.free_ok X G (c.fact 4 (f := .free "len") rfl)
  f_list := He.free_ok X G (c.fact 5 (f := .free "list") rfl)
  f_max := He.free_ok X G (c.fact 6 (f := .free "max") rfl)
  f_min := He.free_ok X G (c.fact 7 (f := .free "min") rfl)
  f_range := He.free_ok X G (c.fact 8 (f := .free "range") rfl)
  f_set := He.free_ok X G (c.fact 9 (f := .free "set") rfl)
  f_sorted := He.free_ok X G (c.fact 10 (f := .free "sorted") rfl)
  f_str := He.free_ok X G (c.fact 11 (f := .free "str") rfl)
  f_tuple := He.free_ok X G (c.fact 12 (f := .free "tuple") rfl)
  f_zip := He.free_ok X G (c.fact 13 (f := .free "zip") rfl)
  c_LETTERS := (let ⟨t, e⟩ := He.str_ok X G (c.fact 14 (f := .str "LETTERS" "abcdefghijklmnopqrstuvwxyz") rfl); ⟨_, e, t, rfl⟩)
  c_FIGURES := (let ⟨t, e⟩ := He.str_ok X G (c.fact 15 (f := .str "FIGURES" "0123456789") rfl); ⟨_, e, t, rfl⟩)
  c_MOST_SIGNS := (let ⟨t, e⟩ := He.int_ok X G (c.fact 16 (f := .int "MOST_SIGNS" 40) rfl); ⟨_, e, t, rfl⟩)
  c_MOST_LETTERS := (let ⟨t, e⟩ := He.int_ok X G (c.fact 17 (f := .int "MOST_LETTERS" 8) rfl); ⟨_, e, t, rfl⟩)
  c_MOST_KEYS := (let ⟨t, e⟩ := He.int_ok X G (c.fact 18 (f := .int "MOST_KEYS" 6) rfl); ⟨_, e, t, rfl⟩)
  c_SIGNS := (let ⟨t, e⟩ := He.str_ok X G (c.fact 19 (f := .str "SIGNS" " !\"#$&'()*+,-./0123456789:;<=>?@ABCDEFGHIJKLMNOPQRSTUVWXYZ[\\]^_`abcdefghijklmnopqrstuvwxyz{|}~") rfl); ⟨_, e, t, rfl⟩)
  c_PLACES_terms := ⟨_, He.glo_ok X G (c.fact 20 (f := .glo "PLACES_terms") rfl), rfl⟩
  tt_PLACES_terms := (fun H => He.tupB_ok (vs := [.str "var", .str "at", .str "short"]) x_PLACES_terms H)
  c_BY_NUMBERS := (let ⟨t, e⟩ := He.str_ok X G (c.fact 21 (f := .str "BY_NUMBERS" "+-*/#<>&!") rfl); ⟨_, e, t, rfl⟩)
  c_PLACES_jobs := ⟨_, He.glo_ok X G (c.fact 22 (f := .glo "PLACES_jobs") rfl), rfl⟩
  tt_PLACES_jobs := (fun H => He.tupB_ok (vs := [.str "var", .str "at", .str "short"]) x_PLACES_jobs H)
  c_OPS := (let ⟨t, e⟩ := He.str_ok X G (c.fact 23 (f := .str "OPS" "+-*/#<>=_[]&!") rfl); ⟨_, e, t, rfl⟩)
  c_MOST_LEVELS := (let ⟨t, e⟩ := He.int_ok X G (c.fact 24 (f := .int "MOST_LEVELS" 40) rfl); ⟨_, e, t, rfl⟩)
  c_PLACES_texts := ⟨_, He.glo_ok X G (c.fact 25 (f := .glo "PLACES_texts") rfl), rfl⟩
  tt_PLACES_texts := (fun H => He.tupB_ok (vs := [.str "order", .str "back", .str "data"]) x_PLACES_texts H)
  c_ALONE := ⟨_, He.glo_ok X G (c.fact 26 (f := .glo "ALONE") rfl), rfl⟩
  tt_ALONE := (fun H => He.tupB_ok (vs := [.str "else", .str "quit", .str "start", .str "keep", .str "undo", .str "halt"]) x_ALONE H)
  c_SHAPES_terms := ⟨_, He.glo_ok X G (c.fact 27 (f := .glo "SHAPES_terms") rfl), rfl⟩
  c_BY_TEXTS := ⟨_, He.glo_ok X G (c.fact 28 (f := .glo "BY_TEXTS") rfl), rfl⟩
  c_SHAPES_jobs := ⟨_, He.glo_ok X G (c.fact 29 (f := .glo "SHAPES_jobs") rfl), rfl⟩
  c_CALLS := ⟨_, He.glo_ok X G (c.fact 30 (f := .glo "CALLS") rfl), rfl⟩
  kd_SHAPES_terms := He.dicW_ok y_SHAPES_terms
  kk_SHAPES_terms := y_SHAPES_terms
  kv_SHAPES_terms := z_SHAPES_terms
  kd_BY_TEXTS := He.dicW_ok y_BY_TEXTS
  kk_BY_TEXTS := y_BY_TEXTS
  kv_BY_TEXTS := z_BY_TEXTS
  kd_SHAPES_jobs := He.dicW_ok y_SHAPES_jobs
  kk_SHAPES_jobs := y_SHAPES_jobs
  kv_SHAPES_jobs := z_SHAPES_jobs
  kd_CALLS := He.dicW_ok y_CALLS
  kk_CALLS := y_CALLS
  kv_CALLS := z_CALLS
  nt := knt
  x_NoText := (He.exc_ok (c.fact 31 (f := .exc "NoText") rfl)).1
  k_NoText := (He.exc_ok (c.fact 31 (f := .exc "NoText") rfl)).2.1
  b_NoText := (He.exc_ok (c.fact 31 (f := .exc "NoText") rfl)).2.2.1
  t_NoText := (He.exc_ok (c.fact 31 (f := .exc "NoText") rfl)).2.2.2
  e_NoText_StemError := He.exm_ok (c.fact 33 (f := .exm "NoText" "StemError" true) rfl)
  g_StemError := He.glo_ok X G (c.fact 34 (f := .glo "StemError") rfl)
  g_NoRef := He.glo_ok X G (c.fact 35 (f := .glo "NoRef") rfl)
  g_NoWorth := He.glo_ok X G (c.fact 36 (f := .glo "NoWorth") rfl)
  g_Within := He.glo_ok X G (c.fact 37 (f := .glo "Within") rfl)
  g_TooDeep := He.glo_ok X G (c.fact 38 (f := .glo "TooDeep") rfl)
  g_NoHead := He.glo_ok X G (c.fact 39 (f := .glo "NoHead") rfl)
  g_NoJob := He.glo_ok X G (c.fact 40 (f := .glo "NoJob") rfl)
  g_Waiting := He.glo_ok X G (c.fact 41 (f := .glo "Waiting") rfl)
  g_NoLock := He.glo_ok X G (c.fact 42 (f := .glo "NoLock") rfl)
  g_Held := He.glo_ok X G (c.fact 43 (f := .glo "Held") rfl)
  g_NoDealing := He.glo_ok X G (c.fact 44 (f := .glo "NoDealing") rfl)
  g_Erring := He.glo_ok X G (c.fact 45 (f := .glo "Erring") rfl)
  g_NoProgram := He.glo_ok X G (c.fact 46 (f := .glo "NoProgram") rfl)
  g_NoLabel := He.glo_ok X G (c.fact 47 (f := .glo "NoLabel") rfl)
  g_TooLong := He.glo_ok X G (c.fact 48 (f := .glo "TooLong") rfl)
  g_NoText := He.glo_ok X G (c.fact 32 (f := .glo "NoText") rfl)
  g_Arrays := He.glo_ok X G (c.fact 49 (f := .glo "Arrays") rfl)
  g_Source := He.glo_ok X G (c.fact 50 (f := .glo "Source") rfl)
  cl_Arrays := He.cls_ok (c.fact 51 (f := .cls "Arrays") rfl)
  mk_Arrays := He.mkr_ok (c.fact 52 (f := .mkr "Arrays") rfl)
  na_Arrays_nodes := He.noat_ok (c.fact 53 (f := .noat "Arrays" "nodes") rfl)
  fn_Arrays___init__ := (let ⟨fd, F⟩ := c.def_ 0 (d := dd_Arrays___init__) rfl; ⟨fd, He5.fun_of F⟩)
  me_Arrays_put := He.meth_ok (c.fact 54 (f := .meth "Arrays" "put") rfl)
  fn_Arrays_put := (let ⟨fd, F⟩ := c.def_ 1 (d := dd_Arrays_put) rfl; ⟨fd, He5.fun_of F⟩)
  me_Arrays_read := He.meth_ok (c.fact 55 (f := .meth "Arrays" "read") rfl)
  fn_Arrays_read := (let ⟨fd, F⟩ := c.def_ 2 (d := dd_Arrays_read) rfl; ⟨fd, He5.fun_of F⟩)
  me_Arrays_beneath := He.meth_ok (c.fact 56 (f := .meth "Arrays" "beneath") rfl)
  fn_Arrays_beneath := (let ⟨fd, F⟩ := c.def_ 3 (d := dd_Arrays_beneath) rfl; ⟨fd, He5.fun_of F⟩)
  me_Arrays_data := He.meth_ok (c.fact 57 (f := .meth "Arrays" "data") rfl)
  fn_Arrays_data := (let ⟨fd, F⟩ := c.def_ 4 (d := dd_Arrays_data) rfl; ⟨fd, He5.fun_of F⟩)
  me_Arrays_kill := He.meth_ok (c.fact 58 (f := .meth "Arrays" "kill") rfl)
  fn_Arrays_kill := (let ⟨fd, F⟩ := c.def_ 5 (d := dd_Arrays_kill) rfl; ⟨fd, He5.fun_of F⟩)
  me_Arrays_names := He.meth_ok (c.fact 59 (f := .meth "Arrays" "names") rfl)
  fn_Arrays_names := (let ⟨fd, F⟩ := c.def_ 6 (d := dd_Arrays_names) rfl; ⟨fd, He5.fun_of F⟩)
  me_Arrays_count := He.meth_ok (c.fact 60 (f := .meth "Arrays" "count") rfl)
  fn_Arrays_count := (let ⟨fd, F⟩ := c.def_ 7 (d := dd_Arrays_count) rfl; ⟨fd, He5.fun_of F⟩)
  me_Arrays_order := He.meth_ok (c.fact 61 (f := .meth "Arrays" "order") rfl)
  fn_Arrays_order := (let ⟨fd, F⟩ := c.def_ 8 (d := dd_Arrays_order) rfl; ⟨fd, He5.fun_of F⟩)
  me_Arrays_following := He.meth_ok (c.fact 62 (f := .meth "Arrays" "following") rfl)
  fn_Arrays_following := (let ⟨fd, F⟩ := c.def_ 9 (d := dd_Arrays_following) rfl; ⟨fd, He5.fun_of F⟩)
  me_Arrays_rows := He.meth_ok (c.fact 63 (f := .meth "Arrays" "rows") rfl)
  fn_Arrays_rows := (let ⟨fd, F⟩ := c.def_ 10 (d := dd_Arrays_rows) rfl; ⟨fd, He5.fun_of F⟩)
  me_Arrays_merge := He.meth_ok (c.fact 64 (f := .meth "Arrays" "merge") rfl)
  fn_Arrays_merge := (let ⟨fd, F⟩ := c.def_ 11 (d := dd_Arrays_merge) rfl; ⟨fd, He5.fun_of F⟩)
  cl_Source := He.cls_ok (c.fact 65 (f := .cls "Source") rfl)
  mk_Source := He.mkr_ok (c.fact 66 (f := .mkr "Source") rfl)
  na_Source_signs := He.noat_ok (c.fact 67 (f := .noat "Source" "signs") rfl)
  na_Source_spot := He.noat_ok (c.fact 68 (f := .noat "Source" "spot") rfl)
  fn_Source___init__ := (let ⟨fd, F⟩ := c.def_ 12 (d := dd_Source___init__) rfl; ⟨fd, He5.fun_of F⟩)
  me_Source_comes_next := He.meth_ok (c.fact 69 (f := .meth "Source" "comes_next") rfl)
  fn_Source_comes_next := (let ⟨fd, F⟩ := c.def_ 13 (d := dd_Source_comes_next) rfl; ⟨fd, He5.fun_of F⟩)
  me_Source_skips := He.meth_ok (c.fact 70 (f := .meth "Source" "skips") rfl)
  fn_Source_skips := (let ⟨fd, F⟩ := c.def_ 14 (d := dd_Source_skips) rfl; ⟨fd, He5.fun_of F⟩)
  me_Source_goes_past := He.meth_ok (c.fact 71 (f := .meth "Source" "goes_past") rfl)
  fn_Source_goes_past := (let ⟨fd, F⟩ := c.def_ 15 (d := dd_Source_goes_past) rfl; ⟨fd, He5.fun_of F⟩)
  me_Source_run_of := He.meth_ok (c.fact 72 (f := .meth "Source" "run_of") rfl)
  fn_Source_run_of := (let ⟨fd, F⟩ := c.def_ 16 (d := dd_Source_run_of) rfl; ⟨fd, He5.fun_of F⟩)
  me_Source_next_sign := He.meth_ok (c.fact 73 (f := .meth "Source" "next_sign") rfl)
  fn_Source_next_sign := (let ⟨fd, F⟩ := c.def_ 17 (d := dd_Source_next_sign) rfl; ⟨fd, He5.fun_of F⟩)
  me_Source_at_end := He.meth_ok (c.fact 74 (f := .meth "Source" "at_end") rfl)
  fn_Source_at_end := (let ⟨fd, F⟩ := c.def_ 18 (d := dd_Source_at_end) rfl; ⟨fd, He5.fun_of F⟩)
  g_is_worth := He.glo_ok X G (c.fact 75 (f := .glo "is_worth") rfl)
  fn_is_worth := (let ⟨fd, F⟩ := c.def_ 19 (d := dd_is_worth) rfl; ⟨fd, He5.fun_of F⟩)
  g_is_name := He.glo_ok X G (c.fact 76 (f := .glo "is_name") rfl)
  fn_is_name := (let ⟨fd, F⟩ := c.def_ 20 (d := dd_is_name) rfl; ⟨fd, He5.fun_of F⟩)
  g_is_key := He.glo_ok X G (c.fact 77 (f := .glo "is_key") rfl)
  fn_is_key := (let ⟨fd, F⟩ := c.def_ 21 (d := dd_is_key) rfl; ⟨fd, He5.fun_of F⟩)
  g_is_reference := He.glo_ok X G (c.fact 78 (f := .glo "is_reference") rfl)
  fn_is_reference := (let ⟨fd, F⟩ := c.def_ 22 (d := dd_is_reference) rfl; ⟨fd, He5.fun_of F⟩)
  g_signs_ahead := He.glo_ok X G (c.fact 79 (f := .glo "signs_ahead") rfl)
  fn_signs_ahead := (let ⟨fd, F⟩ := c.def_ 23 (d := dd_signs_ahead) rfl; ⟨fd, He5.fun_of F⟩)
  g_number_of := He.glo_ok X G (c.fact 80 (f := .glo "number_of") rfl)
  fn_number_of := (let ⟨fd, F⟩ := c.def_ 24 (d := dd_number_of) rfl; ⟨fd, He5.fun_of F⟩)
  g_number_text := He.glo_ok X G (c.fact 81 (f := .glo "number_text") rfl)
  fn_number_text := (let ⟨fd, F⟩ := c.def_ 25 (d := dd_number_text) rfl; ⟨fd, He5.fun_of F⟩)
  g_is_number_text := He.glo_ok X G (c.fact 82 (f := .glo "is_number_text") rfl)
  fn_is_number_text := (let ⟨fd, F⟩ := c.def_ 26 (d := dd_is_number_text) rfl; ⟨fd, He5.fun_of F⟩)
  g_rank := He.glo_ok X G (c.fact 83 (f := .glo "rank") rfl)
  fn_rank := (let ⟨fd, F⟩ := c.def_ 27 (d := dd_rank) rfl; ⟨fd, He5.fun_of F⟩)
  g_is_stem := He.glo_ok X G (c.fact 84 (f := .glo "is_stem") rfl)
  fn_is_stem := (let ⟨fd, F⟩ := c.def_ 28 (d := dd_is_stem) rfl; ⟨fd, He5.fun_of F⟩)
  g_need_reference := He.glo_ok X G (c.fact 85 (f := .glo "need_reference") rfl)
  fn_need_reference := (let ⟨fd, F⟩ := c.def_ 29 (d := dd_need_reference) rfl; ⟨fd, He5.fun_of F⟩)
  g_need_worth := He.glo_ok X G (c.fact 86 (f := .glo "need_worth") rfl)
  fn_need_worth := (let ⟨fd, F⟩ := c.def_ 30 (d := dd_need_worth) rfl; ⟨fd, He5.fun_of F⟩)
  g_need_ordered := He.glo_ok X G (c.fact 87 (f := .glo "need_ordered") rfl)
  fn_need_ordered := (let ⟨fd, F⟩ := c.def_ 31 (d := dd_need_ordered) rfl; ⟨fd, He5.fun_of F⟩)
  g_ranks := He.glo_ok X G (c.fact 88 (f := .glo "ranks") rfl)
  fn_ranks := (let ⟨fd, F⟩ := c.def_ 32 (d := dd_ranks) rfl; ⟨fd, He5.fun_of F⟩)
  g_walked := He.glo_ok X G (c.fact 89 (f := .glo "walked") rfl)
  fn_walked := (let ⟨fd, F⟩ := c.def_ 33 (d := dd_walked) rfl; ⟨fd, He5.fun_of F⟩)
  g_truth_text := He.glo_ok X G (c.fact 90 (f := .glo "truth_text") rfl)
  fn_truth_text := (let ⟨fd, F⟩ := c.def_ 34 (d := dd_truth_text) rfl; ⟨fd, He5.fun_of F⟩)
  g_are_one_text := He.glo_ok X G (c.fact 91 (f := .glo "are_one_text") rfl)
  fn_are_one_text := (let ⟨fd, F⟩ := c.def_ 35 (d := dd_are_one_text) rfl; ⟨fd, He5.fun_of F⟩)
  g_put_behind := He.glo_ok X G (c.fact 92 (f := .glo "put_behind") rfl)
  fn_put_behind := (let ⟨fd, F⟩ := c.def_ 36 (d := dd_put_behind) rfl; ⟨fd, He5.fun_of F⟩)
  g_holds_other := He.glo_ok X G (c.fact 93 (f := .glo "holds_other") rfl)
  fn_holds_other := (let ⟨fd, F⟩ := c.def_ 37 (d := dd_holds_other) rfl; ⟨fd, He5.fun_of F⟩)
  g_stands_behind := He.glo_ok X G (c.fact 94 (f := .glo "stands_behind") rfl)
  fn_stands_behind := (let ⟨fd, F⟩ := c.def_ 38 (d := dd_stands_behind) rfl; ⟨fd, He5.fun_of F⟩)
  g_are_parts := He.glo_ok X G (c.fact 95 (f := .glo "are_parts") rfl)
  fn_are_parts := (let ⟨fd, F⟩ := c.def_ 39 (d := dd_are_parts) rfl; ⟨fd, He5.fun_of F⟩)
  g_may_stand := He.glo_ok X G (c.fact 96 (f := .glo "may_stand") rfl)
  fn_may_stand := (let ⟨fd, F⟩ := c.def_ 40 (d := dd_may_stand) rfl; ⟨fd, He5.fun_of F⟩)
  g_is_expression := He.glo_ok X G (c.fact 97 (f := .glo "is_expression") rfl)
  fn_is_expression := (let ⟨fd, F⟩ := c.def_ 41 (d := dd_is_expression) rfl; ⟨fd, He5.fun_of F⟩)
  g_are_names := He.glo_ok X G (c.fact 98 (f := .glo "are_names") rfl)
  fn_are_names := (let ⟨fd, F⟩ := c.def_ 42 (d := dd_are_names) rfl; ⟨fd, He5.fun_of F⟩)
  g_is_part := He.glo_ok X G (c.fact 99 (f := .glo "is_part") rfl)
  fn_is_part := (let ⟨fd, F⟩ := c.def_ 43 (d := dd_is_part) rfl; ⟨fd, He5.fun_of F⟩)
  g_is_deed := He.glo_ok X G (c.fact 100 (f := .glo "is_deed") rfl)
  fn_is_deed := (let ⟨fd, F⟩ := c.def_ 44 (d := dd_is_deed) rfl; ⟨fd, He5.fun_of F⟩)
  g_is_program := He.glo_ok X G (c.fact 101 (f := .glo "is_program") rfl)
  fn_is_program := (let ⟨fd, F⟩ := c.def_ 45 (d := dd_is_program) rfl; ⟨fd, He5.fun_of F⟩)
  g_quoted := He.glo_ok X G (c.fact 102 (f := .glo "quoted") rfl)
  fn_quoted := (let ⟨fd, F⟩ := c.def_ 46 (d := dd_quoted) rfl; ⟨fd, He5.fun_of F⟩)
  g_shown_worth := He.glo_ok X G (c.fact 103 (f := .glo "shown_worth") rfl)
  fn_shown_worth := (let ⟨fd, F⟩ := c.def_ 47 (d := dd_shown_worth) rfl; ⟨fd, He5.fun_of F⟩)
  g_joined := He.glo_ok X G (c.fact 104 (f := .glo "joined") rfl)
  fn_joined := (let ⟨fd, F⟩ := c.def_ 48 (d := dd_joined) rfl; ⟨fd, He5.fun_of F⟩)
  g_name_read := He.glo_ok X G (c.fact 105 (f := .glo "name_read") rfl)
  fn_name_read := (let ⟨fd, F⟩ := c.def_ 49 (d := dd_name_read) rfl; ⟨fd, He5.fun_of F⟩)
  g_quoted_read := He.glo_ok X G (c.fact 106 (f := .glo "quoted_read") rfl)
  fn_quoted_read := (let ⟨fd, F⟩ := c.def_ 50 (d := dd_quoted_read) rfl; ⟨fd, He5.fun_of F⟩)
  g_worth_read := He.glo_ok X G (c.fact 107 (f := .glo "worth_read") rfl)
  fn_worth_read := (let ⟨fd, F⟩ := c.def_ 51 (d := dd_worth_read) rfl; ⟨fd, He5.fun_of F⟩)
  g_parts_read := He.glo_ok X G (c.fact 108 (f := .glo "parts_read") rfl)
  fn_parts_read := (let ⟨fd, F⟩ := c.def_ 52 (d := dd_parts_read) rfl; ⟨fd, He5.fun_of F⟩)
  g_some_parts_read := He.glo_ok X G (c.fact 109 (f := .glo "some_parts_read") rfl)
  fn_some_parts_read := (let ⟨fd, F⟩ := c.def_ 53 (d := dd_some_parts_read) rfl; ⟨fd, He5.fun_of F⟩)
  g_place_read := He.glo_ok X G (c.fact 110 (f := .glo "place_read") rfl)
  fn_place_read := (let ⟨fd, F⟩ := c.def_ 54 (d := dd_place_read) rfl; ⟨fd, He5.fun_of F⟩)
  g_call_read := He.glo_ok X G (c.fact 111 (f := .glo "call_read") rfl)
  fn_call_read := (let ⟨fd, F⟩ := c.def_ 55 (d := dd_call_read) rfl; ⟨fd, He5.fun_of F⟩)
  g_under_read := He.glo_ok X G (c.fact 112 (f := .glo "under_read") rfl)
  fn_under_read := (let ⟨fd, F⟩ := c.def_ 56 (d := dd_under_read) rfl; ⟨fd, He5.fun_of F⟩)
  g_single_read := He.glo_ok X G (c.fact 113 (f := .glo "single_read") rfl)
  fn_single_read := (let ⟨fd, F⟩ := c.def_ 57 (d := dd_single_read) rfl; ⟨fd, He5.fun_of F⟩)
  g_is_within := He.glo_ok X G (c.fact 114 (f := .glo "is_within") rfl)
  fn_is_within := (let ⟨fd, F⟩ := c.def_ 58 (d := dd_is_within) rfl; ⟨fd, He5.fun_of F⟩)
  g_expression_from := He.glo_ok X G (c.fact 115 (f := .glo "expression_from") rfl)
  fn_expression_from := (let ⟨fd, F⟩ := c.def_ 59 (d := dd_expression_from) rfl; ⟨fd, He5.fun_of F⟩)
  g_read_expression := He.glo_ok X G (c.fact 116 (f := .glo "read_expression") rfl)
  fn_read_expression := (let ⟨fd, F⟩ := c.def_ 60 (d := dd_read_expression) rfl; ⟨fd, He5.fun_of F⟩)
  g_names_read := He.glo_ok X G (c.fact 117 (f := .glo "names_read") rfl)
  fn_names_read := (let ⟨fd, F⟩ := c.def_ 61 (d := dd_names_read) rfl; ⟨fd, He5.fun_of F⟩)
  g_for_read := He.glo_ok X G (c.fact 118 (f := .glo "for_read") rfl)
  fn_for_read := (let ⟨fd, F⟩ := c.def_ 62 (d := dd_for_read) rfl; ⟨fd, He5.fun_of F⟩)
  g_deed_read := He.glo_ok X G (c.fact 119 (f := .glo "deed_read") rfl)
  fn_deed_read := (let ⟨fd, F⟩ := c.def_ 63 (d := dd_deed_read) rfl; ⟨fd, He5.fun_of F⟩)
  g_row_read := He.glo_ok X G (c.fact 120 (f := .glo "row_read") rfl)
  fn_row_read := (let ⟨fd, F⟩ := c.def_ 64 (d := dd_row_read) rfl; ⟨fd, He5.fun_of F⟩)
  g_label_read := He.glo_ok X G (c.fact 121 (f := .glo "label_read") rfl)
  fn_label_read := (let ⟨fd, F⟩ := c.def_ 65 (d := dd_label_read) rfl; ⟨fd, He5.fun_of F⟩)
  g_read_program := He.glo_ok X G (c.fact 122 (f := .glo "read_program") rfl)
  fn_read_program := (let ⟨fd, F⟩ := c.def_ 66 (d := dd_read_program) rfl; ⟨fd, He5.fun_of F⟩)
  g_show_arrays := He.glo_ok X G (c.fact 123 (f := .glo "show_arrays") rfl)
  fn_show_arrays := (let ⟨fd, F⟩ := c.def_ 67 (d := dd_show_arrays) rfl; ⟨fd, He5.fun_of F⟩)
  g_node_read := He.glo_ok X G (c.fact 124 (f := .glo "node_read") rfl)
  fn_node_read := (let ⟨fd, F⟩ := c.def_ 68 (d := dd_node_read) rfl; ⟨fd, He5.fun_of F⟩)
  g_read_arrays := He.glo_ok X G (c.fact 125 (f := .glo "read_arrays") rfl)
  fn_read_arrays := (let ⟨fd, F⟩ := c.def_ 69 (d := dd_read_arrays) rfl; ⟨fd, He5.fun_of F⟩)
  g__law_cell_at := He.glo_ok X G (c.fact 126 (f := .glo "_law_cell_at") rfl)
  fn__law_cell_at := (let ⟨fd, F⟩ := c.def_ 70 (d := dd__law_cell_at) rfl; ⟨fd, He5.fun_of F⟩)
  g__law_bag := He.glo_ok X G (c.fact 127 (f := .glo "_law_bag") rfl)
  fn__law_bag := (let ⟨fd, F⟩ := c.def_ 71 (d := dd__law_bag) rfl; ⟨fd, He5.fun_of F⟩)
  g__law_draw := He.glo_ok X G (c.fact 128 (f := .glo "_law_draw") rfl)
  fn__law_draw := (let ⟨fd, F⟩ := c.def_ 72 (d := dd__law_draw) rfl; ⟨fd, He5.fun_of F⟩)
  g__law_only_no_text := He.glo_ok X G (c.fact 129 (f := .glo "_law_only_no_text") rfl)
  fn__law_only_no_text := (let ⟨fd, F⟩ := c.def_ 73 (d := dd__law_only_no_text) rfl; ⟨fd, He5.fun_of F⟩)
  g__law_refused := He.glo_ok X G (c.fact 130 (f := .glo "_law_refused") rfl)
  fn__law_refused := (let ⟨fd, F⟩ := c.def_ 74 (d := dd__law_refused) rfl; ⟨fd, He5.fun_of F⟩)
  g_law := He.glo_ok X G (c.fact 131 (f := .glo "law") rfl)
  fn_law := (let ⟨fd, F⟩ := c.def_ 75 (d := dd_law) rfl; ⟨fd, He5.fun_of F⟩)
def tbs : List He.Tab := [(fun K => He.ga K "SHAPES_terms", ["is", "var", "at", "short", "op", "not", "minus", "length", "piece", "part", "order", "back", "data", "other"]), (fun K => He.ga K "BY_TEXTS", ["=", "_", "[", "]"]), (fun K => He.ga K "SHAPES_jobs", ["set", "kill", "write", "if", "else", "for", "do", "quit", "new", "lock", "free", "free_all", "start", "keep", "undo", "halt"]), (fun K => He.ga K "CALLS", ["length", "piece", "part"])]

def exL : List (PySem.W.Frag → Bool) := [
  fun K => He.tupB K "PLACES_terms" [.str "var", .str "at", .str "short"],
  fun K => He.tupB K "PLACES_jobs" [.str "var", .str "at", .str "short"],
  fun K => He.tupB K "PLACES_texts" [.str "order", .str "back", .str "data"],
  fun K => He.tupB K "ALONE" [.str "else", .str "quit", .str "start", .str "keep", .str "undo", .str "halt"],
  fun K => He.valsB K (He.ga K "SHAPES_terms") [("is", .str "w"), ("var", .str "np"), ("at", .str "np"), ("short", .str "q"), ("op", .str "see"), ("not", .str "e"), ("minus", .str "e"), ("length", .str "e"), ("piece", .str "eee"), ("part", .str "eee"), ("order", .str "l"), ("back", .str "l"), ("data", .str "l"), ("other", .str "le")],
  fun K => He.valsB K (He.ga K "BY_TEXTS") [("=", .glo "are_one_text"), ("_", .glo "put_behind"), ("[", .glo "holds_other"), ("]", .glo "stands_behind")],
  fun K => He.valsB K (He.ga K "SHAPES_jobs") [("set", .str "pe"), ("kill", .str "p"), ("write", .str "e"), ("if", .str "e"), ("else", .str ""), ("for", .str "neee"), ("do", .str "ld"), ("quit", .str ""), ("new", .str "s"), ("lock", .str "a"), ("free", .str "a"), ("free_all", .str ""), ("start", .str ""), ("keep", .str ""), ("undo", .str ""), ("halt", .str "")],
  fun K => He.valsB K (He.ga K "CALLS") [("length", .int 1), ("piece", .int 3), ("part", .int 3)],
  fun K => He.eqO (PySem.W.findIn K (.ref (He.ga K "NoText")) "__getattribute__") (some (some (.builtin "BaseException.__getattribute__"))),
  fun K => He.eqO (PySem.W.findIn K (.ref (He.ga K "NoText")) "__getattr__") (some none),
  fun K => decide (PySem.W.subIn K (.ref (He.ga K "NoText")) (.type "BaseException") = some true),
  fun K => PySem.W.hasDictIn K (He.ga K "NoText"),
  fun K => He.eqO (PySem.W.findIn K (.ref (He.ga K "NoText")) "__class__") (some (some (.builtin "object.__class__"))),
  fun K => He.eqO (PySem.W.specialIn K (.builtin "object.__class__") "__get__") (some (some (.builtin "getset_descriptor.__get__"))),
  fun K => decide (PySem.W.takesIn K (.builtin "object.__class__") = some true),
  fun K => decide (PySem.W.mroIn K (He.ga K "NoText") (.type "object") = some true),
  fun K => decide (PySem.W.kitOne K (.ref (He.ga K "NoText")) (.ref (He.ga K "Erring")) = some false),
  fun K => decide (PySem.W.kitOne K (.ref (He.ga K "NoText")) (.ref (He.ga K "Held")) = some false),
  fun K => decide (PySem.W.kitOne K (.ref (He.ga K "NoText")) (.ref (He.ga K "NoDealing")) = some false),
  fun K => decide (PySem.W.kitOne K (.ref (He.ga K "NoText")) (.ref (He.ga K "NoHead")) = some false),
  fun K => decide (PySem.W.kitOne K (.ref (He.ga K "NoText")) (.ref (He.ga K "NoJob")) = some false),
  fun K => decide (PySem.W.kitOne K (.ref (He.ga K "NoText")) (.ref (He.ga K "NoLabel")) = some false),
  fun K => decide (PySem.W.kitOne K (.ref (He.ga K "NoText")) (.ref (He.ga K "NoLock")) = some false),
  fun K => decide (PySem.W.kitOne K (.ref (He.ga K "NoText")) (.ref (He.ga K "NoProgram")) = some false),
  fun K => decide (PySem.W.kitOne K (.ref (He.ga K "NoText")) (.ref (He.ga K "NoRef")) = some false),
  fun K => decide (PySem.W.kitOne K (.ref (He.ga K "NoText")) (.ref (He.ga K "NoWorth")) = some false),
  fun K => decide (PySem.W.kitOne K (.ref (He.ga K "NoText")) (.ref (He.ga K "TooDeep")) = some false),
  fun K => decide (PySem.W.kitOne K (.ref (He.ga K "NoText")) (.ref (He.ga K "TooLong")) = some false),
  fun K => decide (PySem.W.kitOne K (.ref (He.ga K "NoText")) (.ref (He.ga K "Waiting")) = some false),
  fun K => decide (PySem.W.kitOne K (.ref (He.ga K "NoText")) (.ref (He.ga K "Within")) = some false),
  fun K => decide (PySem.W.kitOne K (.ref (He.ga K "NoText")) (.ref (He.ga K "NoText")) = some true),
  fun K => decide (PySem.W.kitOne K (.ref (He.ga K "NoText")) (.type "ValueError") = some true)]
abbrev hk : PySem.W.Hook := hookB 2000 fac dfn tbs exL
def ob (s : PySem.W.SharedT) : AlB := obsB 2000 fac dfn tbs exL (HandSHeadRun.getT s)
theorem ob_eq (s : PySem.W.SharedT) : ob s = hk.obs s.abs := obsB_eq (HandSHeadRun.getT_eq s)
def hnames : List PySem.Str := (["_wall", "StemError", "NoRef", "NoWorth", "Within", "TooDeep", "NoHead", "NoJob", "Waiting", "NoLock", "Held", "NoDealing", "Erring", "NoProgram", "NoLabel", "TooLong"] : List PySem.Str) ++ (["NoText", "LETTERS", "FIGURES", "MOST_SIGNS", "MOST_LETTERS", "MOST_KEYS", "SIGNS", "is_worth", "is_name", "is_key", "is_reference", "signs_ahead", "number_of", "number_text", "is_number_text", "rank"] : List PySem.Str) ++ (["is_stem", "need_reference", "need_worth", "need_ordered", "ranks", "walked", "Arrays", "PLACES_terms", "SHAPES_terms", "truth_text", "are_one_text", "put_behind", "holds_other", "stands_behind", "BY_TEXTS", "BY_NUMBERS"] : List PySem.Str) ++ (["are_parts", "may_stand", "is_expression", "PLACES_jobs", "SHAPES_jobs", "are_names", "is_part", "is_deed", "is_program", "OPS", "MOST_LEVELS", "PLACES_texts", "CALLS", "ALONE", "quoted", "shown_worth"] : List PySem.Str) ++ (["joined", "Source", "name_read", "quoted_read", "worth_read", "parts_read", "some_parts_read", "place_read", "call_read", "under_read", "single_read", "is_within", "expression_from", "read_expression", "names_read", "for_read"] : List PySem.Str) ++ (["deed_read", "row_read", "label_read", "read_program", "show_arrays", "node_read", "read_arrays", "_law_cell_at", "_law_bag", "_law_draw", "_law_only_no_text", "_law_refused"] : List PySem.Str)
abbrev R : PySem.W.OpenRow := PySem.W.OpenLaw.row PySem.Challenge.rw_stemkeep_k57_odd_texts
theorem run_fa (w : World) : RunA R (PySem.W.view R.prog [99]) 8000 hnames (w.withFollow "special-get-raises" false) := by
  intro os
  kernel_rfl
theorem run_fb (w : World) : RunB R hk ob 8000 (w.withFollow "special-get-raises" false) := by
  intro os
  kernel_rfl
theorem run_ta (w : World) : RunA R (PySem.W.view R.prog [99]) 8000 hnames (w.withFollow "special-get-raises" true) := by
  intro os
  kernel_rfl
theorem run_tb (w : World) : RunB R hk ob 8000 (w.withFollow "special-get-raises" true) := by
  intro os
  kernel_rfl
theorem run (w : World) : HandSHeadRun.RunEq R (PySem.W.view R.prog [99]) hk ob 8000 hnames w :=
  PySem.W.byRow2 "special-get-raises" (P := fun w => HandSHeadRun.RunEq R (PySem.W.view R.prog [99]) hk ob 8000 hnames w) (fun w => run_two (run_fa w) (run_fb w)) (fun w => run_two (run_ta w) (run_tb w)) w
theorem hd57 {w : World} {h : Heap} {mg : Str → Option Value} (Y : hk.says w h) (G : h.Ns mainGlobals mg) : ∃ K, K.In h ∧ Hd w K mg := by
  obtain ⟨K, X, c⟩ := Y
  have knt : KtNT K := {
    xc := ⟨He.eqO_ok (c.exl 8 rfl), He.eqO_ok (c.exl 9 rfl), of_decide_eq_true (c.exl 10 rfl), id (c.exl 11 rfl), He.eqO_ok (c.exl 12 rfl), He.eqO_ok (c.exl 13 rfl), of_decide_eq_true (c.exl 14 rfl), of_decide_eq_true (c.exl 15 rfl)⟩
    no_Erring := of_decide_eq_true (c.exl 16 rfl)
    no_Held := of_decide_eq_true (c.exl 17 rfl)
    no_NoDealing := of_decide_eq_true (c.exl 18 rfl)
    no_NoHead := of_decide_eq_true (c.exl 19 rfl)
    no_NoJob := of_decide_eq_true (c.exl 20 rfl)
    no_NoLabel := of_decide_eq_true (c.exl 21 rfl)
    no_NoLock := of_decide_eq_true (c.exl 22 rfl)
    no_NoProgram := of_decide_eq_true (c.exl 23 rfl)
    no_NoRef := of_decide_eq_true (c.exl 24 rfl)
    no_NoWorth := of_decide_eq_true (c.exl 25 rfl)
    no_TooDeep := of_decide_eq_true (c.exl 26 rfl)
    no_TooLong := of_decide_eq_true (c.exl 27 rfl)
    no_Waiting := of_decide_eq_true (c.exl 28 rfl)
    no_Within := of_decide_eq_true (c.exl 29 rfl)
    yes := of_decide_eq_true (c.exl 30 rfl)
    ve := of_decide_eq_true (c.exl 31 rfl) }
  exact ⟨K, X, hd_mk X G c.d knt (c.exl 0 rfl) (c.exl 1 rfl) (c.exl 2 rfl) (c.exl 3 rfl) (c.tabs 0 rfl) (c.exl 4 rfl) (c.tabs 1 rfl) (c.exl 5 rfl) (c.tabs 2 rfl) (c.exl 6 rfl) (c.tabs 3 rfl) (c.exl 7 rfl)⟩
end Sk
open PySem PySem.W PySem.Calls PyProof.Rows
theorem head57 (call : PySem.W.WalkO (PySem.W.view Sk.R.prog [99]) Sk.hnames (XL (PySem.W.view Sk.R.prog [99]) []) Sk.hk.says Sk.R.toRowW (HandSHeadRun.topDef Sk.R.prog 99) [] fun f vs => PySem.call f vs) : PySem.Challenge.rw_stemkeep_k57_odd_texts.Holds := by
  w_on; o_law
  refine HandSHeadRun.head_any (r := OpenLaw.row PySem.Challenge.rw_stemkeep_k57_odd_texts) (q := view (OpenLaw.row PySem.Challenge.rw_stemkeep_k57_odd_texts).prog [99]) (H := Sk.hk) (ob := Sk.ob) (M := 8000) (loose := Sk.hnames) (d := HandSHeadRun.topDef (OpenLaw.row PySem.Challenge.rw_stemkeep_k57_odd_texts).prog 99) (kwd := []) Sk.ob_eq
    (by kernel_rfl) (fun s => by kernel_rfl) Sk.run (by kernel_rfl) (by kernel_rfl) (by kernel_rfl) (by rfl) (by first | assumption | decide +kernel) (by decide +kernel) ⟨rfl, rfl, rfl, rfl, rfl, by decide +kernel⟩ ?hw ?hc
  case hw => w_witness2
  case hc => exact call

/-! ## SkM -/
namespace Sk
open PySem PySem.Spec PyProof.Rows L2

/-! ### texts as rows of signs -/
abbrev Tx := List Nat
abbrev St (l : Tx) : Str := ⟨l.toArray⟩
def tl (z : Str) : Tx := z.cps.toList
theorem st_tl (z : Str) : St (tl z) = z := rfl
theorem tl_st (l : Tx) : tl (St l) = l := rfl
theorem tl_len (z : Str) : (tl z).length = z.length := by simp [tl, Str.length]
theorem st_inj {a b : Tx} (h : St a = St b) : a = b := congrArg tl h
theorem tl_inj {a b : Str} (h : tl a = tl b) : a = b := by rw [← st_tl a, ← st_tl b, h]
theorem tl_app (a b : Str) : tl (a ++ b) = tl a ++ tl b := TL.tl_append a b
theorem st_app (a b : Tx) : St a ++ St b = St (a ++ b) := tl_inj (by rw [tl_app]; rfl)
/-- what is left of a text from a place on -/
def rem (z : Str) (i : Nat) : Tx := (tl z).drop i
theorem rem_len (z : Str) (i : Nat) : (rem z i).length = z.length - i := by rw [rem, List.length_drop, tl_len]
theorem fromIndex_nat {n i : Nat} (h : i ≤ n) : PySem.fromIndex n (i : Int) = i := by
  unfold PySem.fromIndex
  try split
  all_goals (try simp)
  all_goals omega
theorem subAt_eq (z y : Str) (i : Nat) : Builtin.Str.subAt z y i = ((rem z i).take y.length == tl y) := by
  unfold Builtin.Str.subAt
  rw [Bool.eq_iff_iff, beq_iff_eq, beq_iff_eq]
  have e : (z.cps.extract i (i + y.length)).toList = (rem z i).take y.length := by
    rw [Array.toList_extract]
    simp [rem, tl, List.take_drop, List.extract]
  constructor
  · intro h
    rw [← e, h]
    rfl
  · intro h
    apply Array.toList_inj.mp
    rw [e, h]
    rfl
theorem sw3 {z y : Str} {i : Nat} (h : i ≤ z.length) : Txt.startswith3 z y i = (tl y).isPrefixOf (rem z i) := by
  unfold Txt.startswith3
  rw [fromIndex_nat h, subAt_eq, Bool.eq_iff_iff, Bool.and_eq_true, decide_eq_true_eq, beq_iff_eq, List.isPrefixOf_iff_prefix, ← tl_len y]
  constructor
  · rintro ⟨_, h2⟩
    rw [← h2]
    exact List.take_prefix _ _
  · intro h2
    have h3 := h2.length_le
    rw [rem_len, tl_len] at h3
    refine ⟨by rw [tl_len]; omega, ?_⟩
    obtain ⟨t, ht⟩ := h2
    rw [← ht]
    simp
theorem cutS_mid {z : Str} {i j : Nat} (h1 : i ≤ j) (h2 : j ≤ z.length) : cutS z (some (i : Int)) (some (j : Int)) = St ((rem z i).take (j - i)) := by
  unfold cutS
  have e1 : HT.sIx z.length 0 (some (i : Int)) = i := by rw [HT.sIx_nat]; omega
  have e2 : HT.sIx z.length z.length (some (j : Int)) = j := by rw [HT.sIx_nat]; omega
  rw [e1, e2]
  rfl

/-! ### the mirror: how a text is read -/
def letters : Tx := tl "abcdefghijklmnopqrstuvwxyz"
def figures : Tx := tl "0123456789"
def signsL : Tx := tl " !\"#$&'()*+,-./0123456789:;<=>?@ABCDEFGHIJKLMNOPQRSTUVWXYZ[\\]^_`abcdefghijklmnopqrstuvwxyz{|}~"
def opsL : Tx := tl "+-*/#<>=_[]&!"
def isLet (c : Nat) : Bool := decide (c ∈ letters)
def isFig (c : Nat) : Bool := decide (c ∈ figures)
def isSign (c : Nat) : Bool := decide (c ∈ signsL)
def isOp (c : Nat) : Bool := decide (c ∈ opsL)
def isWorthT (w : Tx) : Bool := w.all isSign
def isNameT (w : Tx) : Bool := decide (1 ≤ w.length ∧ w.length ≤ 8) && w.all isLet
def figsOf (w : Tx) : Tx := if w.take 1 = [45] then w.drop 1 else w
def isNumT (w : Tx) : Bool := if figsOf w = [] ∨ ((figsOf w).takeWhile isFig).length < (figsOf w).length then false else decide (w = [48]) || decide ((figsOf w).take 1 ≠ [48])
def dblQ : Tx → Tx
  | [] => []
  | c :: r => if c = 34 then 34 :: 34 :: dblQ r else c :: dblQ r
def quotedW (w : Tx) : Tx := 34 :: (dblQ w ++ [34])
def shownW (w : Tx) : Tx := if isNumT w && decide (w.take 1 ≠ [45]) then w else quotedW w
def nameR (l : Tx) : Option (Tx × Tx) := if isNameT (l.takeWhile isLet) then some (l.takeWhile isLet, l.dropWhile isLet) else none
/-- behind the opening quote -/
def qBody : Tx → Option (Tx × Tx)
  | [] => none
  | c :: r => if c = 34 then (match r with
    | 34 :: r2 => (qBody r2).map fun p => (34 :: p.1, p.2)
    | r2 => some ([], r2)) else (qBody r).map fun p => (c :: p.1, p.2)
def quotedR (l : Tx) : Option (Tx × Tx) := match l with
  | [] => none
  | c :: r => if c = 34 then (match qBody r with
    | some p => if isWorthT p.1 then some p else none
    | none => none) else none
def worthR (l : Tx) : Option (Tx × Tx) := if l.take 1 = [34] then (match quotedR l with
    | some p => if shownW p.1 = p.1 then none else some p
    | none => none)
  else if isNumT (l.takeWhile isFig) then some (l.takeWhile isFig, l.dropWhile isFig) else none
/-- expressions -/
inductive Ex where
  | is (w : Tx) | var (n : Tx) (ps : List Ex) | at_ (n : Tx) (ps : List Ex) | short (ps : List Ex)
  | op (s : Nat) (a b : Ex) | not (a : Ex) | minus (a : Ex) | call (n : Tx) (ps : List Ex)
/-- .call n ps: length, piece, part, order, back, data, other with their parts -/
def Ex.isOpX : Ex → Bool
  | .op .. => true
  | _ => false
mutual
def Ex.dep : Ex → Nat
  | .is _ => 1
  | .var _ ps => depS ps + 1
  | .at_ _ ps => depS ps + 1
  | .short ps => depS ps + 1
  | .op _ a b => max a.dep b.dep + 1
  | .not a => a.dep + 1
  | .minus a => a.dep + 1
  | .call _ ps => depS ps + 1
def depS : List Ex → Nat
  | [] => 0
  | e :: r => max e.dep (depS r)
end
mutual
def Ex.toD : Ex → PyData
  | .is w => .tuple [.str "is", .str (St w)]
  | .var n ps => .tuple [.str "var", .str (St n), .list (toDs ps)]
  | .at_ n ps => .tuple [.str "at", .str (St n), .list (toDs ps)]
  | .short ps => .tuple [.str "short", .list (toDs ps)]
  | .op s a b => .tuple [.str "op", .str (St [s]), a.toD, b.toD]
  | .not a => .tuple [.str "not", a.toD]
  | .minus a => .tuple [.str "minus", a.toD]
  | .call n ps => .tuple (.str (St n) :: toDs ps)
def toDs : List Ex → List PyData
  | [] => []
  | e :: r => e.toD :: toDs r
end
abbrev Rd1 (α : Type) := Tx → Option (α × Tx)
/-- further parts: ,E -/
def partsTail (E : Rd1 Ex) : Nat → Rd1 (List Ex)
  | 0, _ => none
  | n + 1, l => if l.take 1 = [44] then (match E (l.drop 1) with
      | some (e, r1) => (match partsTail E n r1 with
        | some (es, r2) => some (e :: es, r2)
        | none => none)
      | none => none)
    else some ([], l)
def partsR (E : Rd1 Ex) : Rd1 (List Ex) := fun l => if l.take 1 = [40] then (match E (l.drop 1) with
    | some (e, r1) => (match partsTail E (r1.length + 1) r1 with
      | some (es, r2) => if r2.take 1 = [41] then some (e :: es, r2.drop 1) else none
      | none => none)
    | none => none) else none
def somePartsR (E : Rd1 Ex) : Rd1 (List Ex) := fun l => if l.take 1 = [40] then partsR E l else some ([], l)
/-- a place, its parts by Em -/
def placeR (Em : Rd1 Ex) : Rd1 Ex := fun l => if l.take 1 = [94] then
    (if (l.drop 1).take 1 = [40] then (match partsR Em (l.drop 1) with
      | some (ps, r) => some (.short ps, r)
      | none => none)
    else (match nameR (l.drop 1) with
      | some (n, r) => (match somePartsR Em r with
        | some (ps, r2) => some (.at_ n ps, r2)
        | none => none)
      | none => none))
  else (match nameR l with
    | some (n, r) => (match somePartsR Em r with
      | some (ps, r2) => some (.var n ps, r2)
      | none => none)
    | none => none)
def callsN (w : Tx) : Option Nat := if w = tl "length" then some 1 else if w = tl "piece" then some 3 else if w = tl "part" then some 3 else none
def isPlaceW (w : Tx) : Bool := decide (w = tl "order") || decide (w = tl "back") || decide (w = tl "data")
/-- behind $; E: of the parts; Em: of the parts of a place -/
def callR (E Em : Rd1 Ex) : Rd1 Ex := fun l => match callsN (l.takeWhile isLet) with
  | some k => (match partsR E (l.dropWhile isLet) with
    | some (ps, r) => if ps.length = k then some (.call (l.takeWhile isLet) ps, r) else none
    | none => none)
  | none => if isPlaceW (l.takeWhile isLet) || decide (l.takeWhile isLet = tl "other") then
      (if (l.dropWhile isLet).take 1 = [40] then (match placeR Em ((l.dropWhile isLet).drop 1) with
        | some (p, r) => if l.takeWhile isLet = tl "other" then
            (if r.take 1 = [44] then (match E (r.drop 1) with
              | some (e, r2) => if r2.take 1 = [41] then some (.call (l.takeWhile isLet) [p, e], r2.drop 1) else none
              | none => none) else none)
          else if r.take 1 = [41] then some (.call (l.takeWhile isLet) [p], r.drop 1) else none
        | none => none) else none)
      else none
def underR (S E : Rd1 Ex) : Rd1 Ex := fun l => if l.take 1 = [40] then (match E (l.drop 1) with
    | some (e, r) => if e.isOpX then (if r.take 1 = [41] then some (e, r.drop 1) else none) else none
    | none => none) else S l
/-- S, E: of one level less; Em: of two less -/
def singleR (S E Em : Rd1 Ex) : Rd1 Ex := fun l =>
  if l.take 1 = [34] ∨ (l.take 1).any isFig = true then (match worthR l with
    | some (w, r) => some (.is w, r)
    | none => none)
  else if l.take 1 = [39] then (match underR S E (l.drop 1) with
    | some (e, r) => some (.not e, r)
    | none => none)
  else if l.take 1 = [45] then (match underR S E (l.drop 1) with
    | some (e, r) => some (.minus e, r)
    | none => none)
  else if l.take 1 = [36] then callR E Em (l.drop 1)
  else placeR E l
/-- further signs: k may come -/
def opsTail (U : Rd1 Ex) : Nat → Ex → Rd1 Ex
  | 0, f, l => if (l.take 1).any isOp = true then none else some (f, l)
  | k + 1, f, l => if (l.take 1).any isOp = true then (match U (l.drop 1) with
      | some (e, r) => opsTail U k (.op (l.headD 0) f e) r
      | none => none) else some (f, l)
def exprR (n : Nat) (S U : Rd1 Ex) : Rd1 Ex := fun l => match S l with
  | some (s, r) => if (r.take 1).any isOp = true then (match opsTail U 39 s r with
      | some (f, r2) => if f.dep ≤ n then some (f, r2) else none
      | none => none) else some (s, r)
  | none => none
/-- (single, expression) of n, expression of n - 1 -/
def lvl : Nat → Rd1 Ex × Rd1 Ex × Rd1 Ex
  | 0 => (fun _ => none, fun _ => none, fun _ => none)
  | n + 1 => (singleR (lvl n).1 (lvl n).2.1 (lvl n).2.2, exprR (n + 1) (singleR (lvl n).1 (lvl n).2.1 (lvl n).2.2) (underR (lvl n).1 (lvl n).2.1), (lvl n).2.1)
def sgR (n : Nat) : Rd1 Ex := (lvl n).1
def exR (n : Nat) : Rd1 Ex := (lvl n).2.1
def unR (n : Nat) : Rd1 Ex := underR (sgR n) (exR n)
theorem lvl_m (n : Nat) : (lvl n).2.2 = exR (n - 1) := by cases n <;> rfl
theorem sgR_succ (n : Nat) : sgR (n + 1) = singleR (sgR n) (exR n) (exR (n - 1)) := by rw [← lvl_m]; rfl
theorem exR_succ (n : Nat) : exR (n + 1) = exprR (n + 1) (sgR (n + 1)) (unR n) := rfl
theorem exR_zero : exR 0 = fun _ => none := rfl
theorem sgR_zero : sgR 0 = fun _ => none := rfl
end Sk

/-! ## SkN -/
namespace Sk
open PySem PySem.Spec PyProof.Rows L2
/-! ### what was newly made -/
def dif (H H' : Hp) : Hp := fun b => match H b with
  | none => H' b
  | some _ => none
def difO (H : Hp) (a : Addr) (H' : Hp) : Hp := fun b => if b = a then none else dif H H' b
theorem dif_eq {H H' : Hp} {b : Addr} {o : HO} : dif H H' b = some o ↔ H b = none ∧ H' b = some o := by
  unfold dif
  cases h : H b <;> simp
theorem difO_eq {H H' : Hp} {a b : Addr} {o : HO} : difO H a H' b = some o ↔ b ≠ a ∧ H b = none ∧ H' b = some o := by
  unfold difO
  by_cases h : b = a
  · simp [h]
  · simp [h, dif_eq]
theorem dif_sub {H H' : Hp} : Same (dif H H') H' := fun b o h => (dif_eq.mp h).2
theorem difO_sub {H H' : Hp} {a : Addr} : Same (difO H a H') (dif H H') := fun b o h => dif_eq.mpr (difO_eq.mp h).2
def ButX (p : Addr) (H H' : Hp) : Prop := ∀ b o, H b = some o → b ≠ p → H' b = some o
/-- further on, but for p, which stands there -/
theorem dif_more {p : Addr} {H H1 H2 : Hp} {o : HO} (hp : H p = some o) (b : ButX p H1 H2) : Same (dif H H1) (dif H H2) := fun c u h => by
  obtain ⟨h1, h2⟩ := dif_eq.mp h
  exact dif_eq.mpr ⟨h1, b c u h2 fun e => by subst e; rw [h1] at hp; cases hp⟩
theorem difO_more {p a : Addr} {H H1 H2 : Hp} {o : HO} (hp : H p = some o) (b : ButX p H1 H2) : Same (difO H a H1) (difO H a H2) := fun c u h => by
  obtain ⟨h0, h1, h2⟩ := difO_eq.mp h
  exact difO_eq.mpr ⟨h0, h1, b c u h2 fun e => by subst e; rw [h1] at hp; cases hp⟩
/-- what was made since H1 was made since H -/
theorem dif_back {p : Addr} {H H1 H2 : Hp} {o : HO} (h1 : H1 p = some o) (b : ButX p H H1) : Same (dif H1 H2) (dif H H2) := fun c u h => by
  obtain ⟨h2, h3⟩ := dif_eq.mp h
  refine dif_eq.mpr ⟨?_, h3⟩
  cases e : H c with
  | none => rfl
  | some v =>
    have : c ≠ p := fun e => by subst e; rw [h1] at h2; cases h2
    rw [b c v e this] at h2
    cases h2
theorem difO_back {p a : Addr} {H H1 H2 : Hp} {o u : HO} (h1 : H1 p = some o) (ha : H1 a = some u) (b : ButX p H H1) : Same (dif H1 H2) (difO H a H2) := fun c v h => by
  obtain ⟨h2, h3⟩ := dif_eq.mp h
  obtain ⟨h4, h5⟩ := dif_eq.mp (dif_back h1 b c v h)
  exact difO_eq.mpr ⟨(fun e => by subst e; rw [ha] at h2; cases h2), h4, h5⟩
theorem difO_upd {a : Addr} {H H1 : Hp} {u : HO} : difO H a (upd H1 a u) = difO H a H1 := by
  funext b
  unfold difO
  by_cases h : b = a
  · simp [h]
  · simp only [h, if_false]
    unfold dif
    rw [upd_ne h]
theorem difO_new {a : Addr} {H H1 : Hp} (ha : H1 a = none) : Same (dif H H1) (difO H a H1) := fun c v h => by
  obtain ⟨h4, h5⟩ := dif_eq.mp h
  exact difO_eq.mpr ⟨(fun e => by subst e; rw [ha] at h5; cases h5), h4, h5⟩
theorem DpAll.snoc {K : PySem.W.Frag} {H : Hp} : ∀ {vs : List V} {ds : List PyData} {v : V} {d : PyData}, DpAll K H vs ds → Dp K H v d → DpAll K H (vs ++ [v]) (ds ++ [d])
  | _, _, _, _, .nil, h => .cons h .nil
  | _, _, _, _, .cons h r, h' => .cons h (DpAll.snoc r h')
theorem toDs_snoc : ∀ {es : List Ex} {e : Ex}, toDs (es ++ [e]) = toDs es ++ [e.toD]
  | [], e => by rw [List.nil_append, toDs, toDs]; rfl
  | x :: r, e => by rw [List.cons_append, toDs, toDs_snoc, toDs]; rfl

/-! ### a key of a table with text keys -/
theorem kk_find {P : Params} {z : Str} : ∀ {l : List DictEntry} {ks : List Str}, l.map He.keyOf = He.keysIn P ks →
    ∃ r : Option Value, (match l.find? (·.key.isStr z) with
      | some e => some (some e.val)
      | none => if l.any (·.refKey) then none else some none) = some r ∧ r.isSome = decide (z ∈ ks)
  | [], [], _ => ⟨none, rfl, by simp⟩
  | [], _ :: _, h => by cases h
  | _ :: _, [], h => by cases h
  | e :: l, k :: ks, h => by
    have h1 : He.keyOf e :: l.map He.keyOf = some (k, PyData.keyHash P k) :: He.keysIn P ks := h
    injection h1 with h2 h3
    obtain ⟨r, hr, hi⟩ := kk_find (z := z) h3
    unfold He.keyOf at h2
    split at h2
    · rename_i x t q
      obtain ⟨h5, _⟩ := Prod.mk.inj (Option.some.inj h2)
      subst h5
      rw [List.find?_cons]
      by_cases hx : x = z
      · have e1 : e.key.isStr z = true := by rw [q, hx]; simp [Value.isStr]
        rw [e1]
        exact ⟨some e.val, rfl, by simp [hx]⟩
      · have e1 : e.key.isStr z = false := by rw [q]; simpa [Value.isStr] using hx
        have e2 : e.refKey = false := by unfold DictEntry.refKey; rw [q]
        rw [e1, List.any_cons, e2]
        simp only [Bool.false_or]
        refine ⟨r, hr, ?_⟩
        rw [hi]
        have : ¬ z = x := fun e => hx e.symm
        simp [this]
    · cases h2
theorem kk_in {P : Params} {w : World} {K : PySem.W.Frag} {a : Addr} {ks : List Str} (h : He.dicW K a = some (He.keysIn w.params ks)) (z : Str) : ∃ r, PySem.W.nsIn K a z = some r ∧ r.isSome = decide (z ∈ ks) := by
  obtain ⟨es, n, D⟩ := He.dicW_ok h
  have hl : es.toList.map He.keyOf = He.keysIn w.params ks := by
    unfold He.dicW at h
    rw [D.at_] at h
    simp only at h
    split at h
    · exact Option.some.inj h
    · cases h
  obtain ⟨r, h1, h2⟩ := kk_find (z := z) hl
  refine ⟨r, ?_, h2⟩
  unfold PySem.W.nsIn
  rw [D.at_]
  exact h1
section
variable {X : Cx} {d : Addr} {ks : List Str}
def rInK (d : Addr) (ks : List Str) : R2 := fun x y H Q => ∃ z, x = .str z ∧ y = .ref d ∧ Q (.bl (decide (z ∈ ks))) H
def rNotInK (d : Addr) (ks : List Str) : R2 := fun x y H Q => ∃ z, x = .str z ∧ y = .ref d ∧ Q (.bl (!decide (z ∈ ks))) H
theorem op_in_kk (h : He.dicW X.K d = some (He.keysIn X.w.params ks)) : OpR X (compareOp .In) (rInK d ks) := by
  obtain ⟨es, n, D⟩ := He.dicW_ok h
  intro pins s σ H x y v u Q I rx ry q
  obtain ⟨z, rfl, rfl, q⟩ := q
  obtain ⟨r, h1, h2⟩ := kk_in (P := X.w.params) h z
  exact op_in_kd D pins s σ H _ _ v u Q I rx ry ⟨z, r, rfl, rfl, h1, by rw [h2]; exact q⟩
theorem op_notIn_kk (h : He.dicW X.K d = some (He.keysIn X.w.params ks)) : OpR X (compareOp .NotIn) (rNotInK d ks) := by
  obtain ⟨es, n, D⟩ := He.dicW_ok h
  intro pins s σ H x y v u Q I rx ry q
  obtain ⟨z, rfl, rfl, q⟩ := q
  obtain ⟨r, h1, h2⟩ := kk_in (P := X.w.params) h z
  exact op_notIn_kd D pins s σ H _ _ v u Q I rx ry ⟨z, r, rfl, rfl, h1, by rw [h2]; exact q⟩
end
end Sk

/-! ## SkO -/
namespace Sk
open PySem PySem.Spec PyProof.Rows L2
theorem toDs_len : ∀ es : List Ex, (toDs es).length = es.length
  | [] => by rw [toDs]; rfl
  | e :: r => by rw [toDs, List.length_cons, List.length_cons, toDs_len r]
theorem toDs_at : ∀ {es : List Ex} {i : Nat} {e : Ex}, es[i]? = some e → (toDs es)[i]? = some e.toD
  | [], i, e, h => by simp at h
  | x :: r, 0, e, h => by simp at h; subst h; rw [toDs]; rfl
  | x :: r, i + 1, e, h => by rw [toDs]; simpa using toDs_at (es := r) (i := i) (by simpa using h)
theorem depS_le {n : Nat} : ∀ {es : List Ex}, depS es ≤ n ↔ ∀ e ∈ es, e.dep ≤ n
  | [] => by rw [depS]; simp
  | e :: r => by
    rw [depS]
    have := depS_le (n := n) (es := r)
    simp only [List.mem_cons, forall_eq_or_imp, ← this]
    omega
mutual
def Ex.sz : Ex → Nat
  | .is _ => 1
  | .var _ ps => szS ps + 1
  | .at_ _ ps => szS ps + 1
  | .short ps => szS ps + 1
  | .op _ a b => a.sz + b.sz + 1
  | .not a => a.sz + 1
  | .minus a => a.sz + 1
  | .call _ ps => szS ps + 1
def szS : List Ex → Nat
  | [] => 0
  | e :: r => e.sz + szS r
end
theorem sz_pos (e : Ex) : 0 < e.sz := by cases e <;> rw [Ex.sz] <;> omega
theorem szS_len : ∀ es : List Ex, es.length ≤ szS es
  | [] => by rw [szS]; exact Nat.le_refl _
  | e :: r => by
    rw [szS, List.length_cons]
    have := szS_len r
    have := sz_pos e
    omega
theorem szS_mem {e : Ex} : ∀ {es : List Ex}, e ∈ es → e.sz ≤ szS es
  | [], h => by cases h
  | x :: r, h => by
    rw [szS]
    rcases List.mem_cons.mp h with h | h
    · subst h
      omega
    · have := szS_mem h
      omega

/-! ### how long what is read is -/
theorem tk1 {l : Tx} {c : Nat} (h : l.take 1 = [c]) : l.length = (l.drop 1).length + 1 := by
  cases l with
  | nil => cases h
  | cons a r => simp
theorem tkAny {l : Tx} {f : Nat → Bool} (h : (l.take 1).any f = true) : l.length = (l.drop 1).length + 1 := by
  cases l with
  | nil => cases h
  | cons a r => simp
def Sh (E : Rd1 Ex) : Prop := ∀ l e r, E l = some (e, r) → e.sz + r.length ≤ l.length
def ShS (E : Rd1 (List Ex)) : Prop := ∀ l es r, E l = some (es, r) → szS es + r.length ≤ l.length
theorem tw_len (f : Nat → Bool) (l : Tx) : (l.takeWhile f).length + (l.dropWhile f).length = l.length := by
  rw [← List.length_append, List.takeWhile_append_dropWhile]
theorem nameR_len {l n r : Tx} (h : nameR l = some (n, r)) : 1 ≤ n.length ∧ n.length + r.length = l.length := by
  unfold nameR at h
  split at h
  · rename_i c
    injection h with h
    injection h with h1 h2
    subst h1 h2
    refine ⟨?_, tw_len _ _⟩
    unfold isNameT at c
    rw [Bool.and_eq_true, decide_eq_true_eq] at c
    exact c.1.1
  · cases h
theorem partsTail_sh {E : Rd1 Ex} (hE : Sh E) : ∀ n, ShS (partsTail E n)
  | 0, l, es, r, h => by cases h
  | n + 1, l, es, r, h => by
    rw [partsTail] at h
    split at h
    · rename_i c
      have := tk1 c
      split at h
      · rename_i e r1 he
        have := hE _ _ _ he
        split at h
        · rename_i es' r2 hs
          have := partsTail_sh hE n _ _ _ hs
          injection h with h
          injection h with h1 h2
          subst h1 h2
          rw [szS]
          omega
        · cases h
      · cases h
    · injection h with h
      injection h with h1 h2
      subst h1 h2
      rw [szS]
      omega
theorem partsR_sh {E : Rd1 Ex} (hE : Sh E) {l : Tx} {es : List Ex} {r : Tx} (h : partsR E l = some (es, r)) : szS es + r.length + 2 ≤ l.length := by
  unfold partsR at h
  split at h
  · rename_i c
    have := tk1 c
    split at h
    · rename_i e r1 he
      have := hE _ _ _ he
      split at h
      · rename_i es' r2 hs
        have := partsTail_sh hE _ _ _ _ hs
        split at h
        · rename_i c2
          have := tk1 c2
          injection h with h
          injection h with h1 h2
          subst h1 h2
          rw [szS]
          omega
        · cases h
      · cases h
    · cases h
  · cases h
theorem somePartsR_sh {E : Rd1 Ex} (hE : Sh E) : ShS (somePartsR E) := by
  intro l es r h
  unfold somePartsR at h
  split at h
  · have := partsR_sh hE h
    omega
  · injection h with h
    injection h with h1 h2
    subst h1 h2
    rw [szS]
    omega
theorem placeR_sh {Em : Rd1 Ex} (hE : Sh Em) : Sh (placeR Em) := by
  intro l e r h
  unfold placeR at h
  split at h
  · rename_i c
    have := tk1 c
    split at h
    · split at h
      · rename_i ps r1 hp
        have := partsR_sh hE hp
        injection h with h
        injection h with h1 h2
        subst h1 h2
        rw [Ex.sz]
        omega
      · cases h
    · split at h
      · rename_i n r1 hn
        have := nameR_len hn
        split at h
        · rename_i ps r2 hp
          have := somePartsR_sh hE _ _ _ hp
          injection h with h
          injection h with h1 h2
          subst h1 h2
          rw [Ex.sz]
          omega
        · cases h
      · cases h
  · split at h
    · rename_i n r1 hn
      have := nameR_len hn
      split at h
      · rename_i ps r2 hp
        have := somePartsR_sh hE _ _ _ hp
        injection h with h
        injection h with h1 h2
        subst h1 h2
        rw [Ex.sz]
        omega
      · cases h
    · cases h
theorem callR_sh {E Em : Rd1 Ex} (hE : Sh E) (hm : Sh Em) : Sh (callR E Em) := by
  intro l e r h
  have hl := tw_len isLet l
  unfold callR at h
  split at h
  · split at h
    · rename_i ps r1 hp
      have := partsR_sh hE hp
      split at h
      · injection h with h
        injection h with h1 h2
        subst h1 h2
        rw [Ex.sz]
        omega
      · cases h
    · cases h
  · split at h
    · split at h
      · rename_i c
        have := tk1 c
        split at h
        · rename_i p r1 hp
          have := placeR_sh hm _ _ _ hp
          split at h
          · split at h
            · rename_i c2
              have := tk1 c2
              split at h
              · rename_i e2 r2 he
                have := hE _ _ _ he
                split at h
                · rename_i c3
                  have := tk1 c3
                  injection h with h
                  injection h with h1 h2
                  subst h1 h2
                  rw [Ex.sz, szS, szS, szS]
                  omega
                · cases h
              · cases h
            · cases h
          · split at h
            · rename_i c3
              have := tk1 c3
              injection h with h
              injection h with h1 h2
              subst h1 h2
              rw [Ex.sz, szS, szS]
              omega
            · cases h
        · cases h
      · cases h
    · cases h
theorem underR_sh {S E : Rd1 Ex} (hS : Sh S) (hE : Sh E) : Sh (underR S E) := by
  intro l e r h
  unfold underR at h
  split at h
  · rename_i c
    have := tk1 c
    split at h
    · rename_i e1 r1 he
      have := hE _ _ _ he
      split at h
      · split at h
        · rename_i c2
          have := tk1 c2
          injection h with h
          injection h with h1 h2
          subst h1 h2
          omega
        · cases h
      · cases h
    · cases h
  · exact hS _ _ _ h
theorem quotedR_ne {l : Tx} (h : quotedR l ≠ none) : l ≠ [] := by
  rintro rfl
  exact h rfl
theorem singleR_sh {S E Em : Rd1 Ex} (hS : Sh S) (hE : Sh E) (hm : Sh Em) (hw : ∀ l w r, worthR l = some (w, r) → r.length + 1 ≤ l.length) : Sh (singleR S E Em) := by
  intro l e r h
  unfold singleR at h
  split at h
  · split at h
    · rename_i w r1 hr
      have := hw _ _ _ hr
      injection h with h
      injection h with h1 h2
      subst h1 h2
      rw [Ex.sz]
      omega
    · cases h
  · split at h
    · rename_i c
      have := tk1 c
      split at h
      · rename_i e1 r1 he
        have := underR_sh hS hE _ _ _ he
        injection h with h
        injection h with h1 h2
        subst h1 h2
        rw [Ex.sz]
        omega
      · cases h
    · split at h
      · rename_i c
        have := tk1 c
        split at h
        · rename_i e1 r1 he
          have := underR_sh hS hE _ _ _ he
          injection h with h
          injection h with h1 h2
          subst h1 h2
          rw [Ex.sz]
          omega
        · cases h
      · split at h
        · rename_i c
          have := tk1 c
          have := callR_sh hE hm _ _ _ h
          omega
        · exact placeR_sh hE _ _ _ h
theorem opsTail_sh {U : Rd1 Ex} (hU : Sh U) : ∀ (k : Nat) (f : Ex) (l : Tx) (g : Ex) (r : Tx), opsTail U k f l = some (g, r) → g.sz + r.length ≤ f.sz + l.length
  | 0, f, l, g, r, h => by
    rw [opsTail] at h
    split at h
    · cases h
    · injection h with h
      injection h with h1 h2
      subst h1 h2
      omega
  | k + 1, f, l, g, r, h => by
    rw [opsTail] at h
    split at h
    · rename_i c
      have := tkAny c
      split at h
      · rename_i e r1 he
        have := hU _ _ _ he
        have := opsTail_sh hU k _ _ _ _ h
        rw [Ex.sz] at this
        omega
      · cases h
    · injection h with h
      injection h with h1 h2
      subst h1 h2
      omega
theorem exprR_sh {n : Nat} {S U : Rd1 Ex} (hS : Sh S) (hU : Sh U) : Sh (exprR n S U) := by
  intro l e r h
  unfold exprR at h
  split at h
  · rename_i s r1 hs
    have := hS _ _ _ hs
    split at h
    · split at h
      · rename_i f r2 hf
        have := opsTail_sh hU _ _ _ _ _ hf
        split at h
        · injection h with h
          injection h with h1 h2
          subst h1 h2
          omega
        · cases h
      · cases h
    · injection h with h
      injection h with h1 h2
      subst h1 h2
      omega
  · cases h
theorem qBody_le : ∀ (n : Nat) (l : Tx) (a r : Tx), l.length ≤ n → qBody l = some (a, r) → r.length ≤ l.length
  | 0, [], a, r, _, h => by rw [qBody] at h; cases h
  | n + 1, [], a, r, _, h => by rw [qBody] at h; cases h
  | 0, c :: l, a, r, hn, h => by simp at hn
  | n + 1, c :: l, a, r, hn, h => by
    have hn' : l.length ≤ n := by simpa using hn
    rw [qBody.eq_def] at h
    simp only at h
    split at h
    · split at h
      · rename_i r2
        cases hq : qBody r2 with
        | none => rw [hq] at h; cases h
        | some q =>
          rw [hq] at h
          injection h with h
          injection h with h1 h2
          subst h2
          have := qBody_le n r2 q.1 q.2 (by simp at hn'; omega) hq
          simp
          omega
      · injection h with h
        injection h with h1 h2
        subst h2
        simp
    · cases hq : qBody l with
      | none => rw [hq] at h; cases h
      | some q =>
        rw [hq] at h
        injection h with h
        injection h with h1 h2
        subst h2
        have := qBody_le n l q.1 q.2 hn' hq
        simp
        omega
theorem worthR_len : ∀ l w r, worthR l = some (w, r) → r.length + 1 ≤ l.length := by
  intro l w r h
  unfold worthR at h
  split at h
  · rename_i c
    have := tk1 c
    split at h
    · rename_i p hp
      split at h
      · cases h
      · injection h with h
        subst h
        unfold quotedR at hp
        cases l with
        | nil => cases hp
        | cons d l =>
          simp only at hp
          split at hp
          · cases hq : qBody l with
            | none => rw [hq] at hp; cases hp
            | some q =>
              rw [hq] at hp
              simp only at hp
              split at hp
              · injection hp with hp
                subst hp
                have := qBody_le l.length l _ _ (Nat.le_refl _) hq
                simp
                omega
              · cases hp
          · cases hp
    · cases h
  · split at h
    · rename_i c
      injection h with h
      injection h with h1 h2
      subst h1 h2
      have := tw_len isFig l
      have h2 : (l.takeWhile isFig).length ≠ 0 := by
        intro e
        have e2 := List.eq_nil_of_length_eq_zero e
        rw [e2] at c
        exact absurd c (by decide)
      omega
    · cases h
theorem lvl_sh : ∀ n, Sh (lvl n).1 ∧ Sh (lvl n).2.1 ∧ Sh (lvl n).2.2
  | 0 => ⟨fun _ _ _ h => (by cases h), fun _ _ _ h => (by cases h), fun _ _ _ h => (by cases h)⟩
  | n + 1 => by
    obtain ⟨h1, h2, h3⟩ := lvl_sh n
    have h4 := singleR_sh h1 h2 h3 worthR_len
    exact ⟨h4, exprR_sh h4 (underR_sh h1 h2), h2⟩
theorem sgR_sh (n : Nat) : Sh (sgR n) := (lvl_sh n).1
theorem exR_sh (n : Nat) : Sh (exR n) := (lvl_sh n).2.1
end Sk

/-! ## SkQ -/
namespace Sk
open PySem PySem.Spec PyProof.Rows L2
/-! ### the mirror: programs, arrays -/
def itemsTail (sep : Tx) (I : Rd1 PyData) : Nat → Rd1 (List PyData)
  | 0, _ => none
  | f + 1, l => if sep.isPrefixOf l = true then (match I (l.drop sep.length) with
      | some (d, r1) => (match itemsTail sep I f r1 with
        | some (ds, r2) => some (d :: ds, r2)
        | none => none)
      | none => none) else some ([], l)
def itemsR (sep : Tx) (I : Rd1 PyData) : Rd1 (List PyData) := fun l => match I l with
  | some (d, r1) => (match itemsTail sep I (r1.length + 1) r1 with
    | some (ds, r2) => some (d :: ds, r2)
    | none => none)
  | none => none
def nameD : Rd1 PyData := fun l => match nameR l with
  | some (n, r) => some (.str (St n), r)
  | none => none
def namesR : Rd1 (List PyData) := itemsR [44] nameD
def worthD : Rd1 PyData := fun l => match worthR l with
  | some (n, r) => some (.str (St n), r)
  | none => none
/-- what a reader reads, behind a sign that must come -/
def past {α : Type} (c : Nat) (R : Rd1 α) : Rd1 α := fun l => if l.take 1 = [c] then R (l.drop 1) else none
def forR : Rd1 PyData := fun l => match nameR l with
  | some (n, r) => (match past 61 (exR 40) r with
    | some (a, r) => (match past 58 (exR 40) r with
      | some (b, r) => (match past 58 (exR 40) r with
        | some (c, r) => some (.tuple [.str "for", .str (St n), a.toD, b.toD, c.toD], r)
        | none => none)
      | none => none)
    | none => none)
  | none => none
def aloneL : List Str := ["else", "quit", "start", "keep", "undo", "halt"]
def word1L : List Str := ["kill", "lock", "free"]
def word2L : List Str := ["write", "if"]
/-- behind the word w and the blank -/
def deedB (w : Tx) : Rd1 PyData := fun l =>
  if St w ∈ word1L then (match placeR (exR 39) l with
    | some (e, r) => some (.tuple [.str (St w), e.toD], r)
    | none => none)
  else if St w ∈ word2L then (match exR 40 l with
    | some (e, r) => some (.tuple [.str (St w), e.toD], r)
    | none => none)
  else if w = tl "set" then (match placeR (exR 39) l with
    | some (e, r) => (match past 61 (exR 40) r with
      | some (f, r) => some (.tuple [.str (St w), e.toD, f.toD], r)
      | none => none)
    | none => none)
  else if w = tl "for" then forR l
  else if w = tl "do" then (match nameR l with
    | some (n, r) => (match somePartsR (exR 40) r with
      | some (es, r) => some (.tuple [.str (St w), .str (St n), .list (toDs es)], r)
      | none => none)
    | none => none)
  else if w = tl "new" then (match namesR l with
    | some (ns, r) => some (.tuple [.str (St w), .list ns], r)
    | none => none)
  else none
def deedR : Rd1 PyData := fun l =>
  if St (l.takeWhile isLet) ∈ aloneL then some (.tuple [.str (St (l.takeWhile isLet))], l.dropWhile isLet)
  else if l.takeWhile isLet = tl "free" ∧ ¬ (l.dropWhile isLet).take 1 = [32] then some (.tuple [.str "free_all"], l.dropWhile isLet)
  else past 32 (deedB (l.takeWhile isLet)) (l.dropWhile isLet)
/-- the end of a thing -/
def thenC {α : Type} (R : Rd1 α) (c : Nat) : Rd1 α := fun l => match R l with
  | some (a, r) => if r.take 1 = [c] then some (a, r.drop 1) else none
  | none => none
def rowR : Rd1 (List PyData) := thenC (fun l => if l.take 1 = [124] then some ([], l) else itemsR [59, 32] deedR l) 124
def rowD : Rd1 PyData := fun l => match rowR l with
  | some (ds, r) => some (.list ds, r)
  | none => none
def paramsR : Rd1 (List PyData) := fun l => if l.take 1 = [40] then thenC namesR 41 (l.drop 1) else some ([], l)
def labelR : Rd1 PyData := fun l => match nameR l with
  | some (n, r) => (match paramsR r with
    | some (ps, r) => (match past 124 (fun l => itemsTail [32, 32] rowD (l.length + 1) l) r with
      | some (rows, r) => some (.tuple [.str (St n), .list ps, .list rows], r)
      | none => none)
    | none => none)
  | none => none
def progT : Nat → Tx → Option (List PyData)
  | 0, _ => none
  | f + 1, l => if l = [] then some [] else (match labelR l with
    | some (d, r) => (match progT f r with
      | some ds => some (d :: ds)
      | none => none)
    | none => none)
def progR (l : Tx) : Option (List PyData) := progT (l.length + 1) l
def keysR : Rd1 (List PyData) := fun l => if l.take 1 = [40] then thenC (itemsR [44] worthD) 41 (l.drop 1) else some ([], l)
/-- name, keys, worth -/
def nodeR : Rd1 (Tx × List PyData × Tx) := past 94 fun l => match nameR l with
  | some (n, r) => (match keysR r with
    | some (ks, r) => (match past 61 quotedR r with
      | some (w, r) => some ((n, ks, w), r)
      | none => none)
    | none => none)
  | none => none
/-- what is left of reading items -/
def itR (sep : Tx) (I : Rd1 PyData) (f : Nat) (l : Tx) (ds : List PyData) : Option (List PyData × Tx) := match itemsTail sep I f l with
  | some (ds', r2) => some (ds ++ ds', r2)
  | none => none
theorem itR_end {sep : Tx} {I : Rd1 PyData} {f : Nat} {l : Tx} {ds : List PyData} (h : sep.isPrefixOf l = false) : itR sep I (f + 1) l ds = some (ds, l) := by
  unfold itR
  rw [itemsTail, if_neg (by rw [h]; decide)]
  simp
theorem itR_more {sep : Tx} {I : Rd1 PyData} {f : Nat} {l : Tx} {ds : List PyData} (h : sep.isPrefixOf l = true) : itR sep I (f + 1) l ds = match I (l.drop sep.length) with
    | some (d, r) => itR sep I f r (ds ++ [d])
    | none => none := by
  unfold itR
  rw [itemsTail, if_pos h]
  cases I (l.drop sep.length) with
  | none => rfl
  | some q =>
    obtain ⟨e, r⟩ := q
    simp only
    cases itemsTail sep I f r with
    | none => rfl
    | some q =>
      obtain ⟨es', r2⟩ := q
      simp
theorem itemsR_eq {sep : Tx} {I : Rd1 PyData} {l : Tx} : itemsR sep I l = match I l with
    | some (d, r) => itR sep I (r.length + 1) r [d]
    | none => none := by
  unfold itemsR itR
  rfl
theorem itemsT_eq {sep : Tx} {I : Rd1 PyData} {f : Nat} {l : Tx} : itemsTail sep I f l = itR sep I f l [] := by
  unfold itR
  cases itemsTail sep I f l with
  | none => rfl
  | some q => rfl
def prT (f : Nat) (l : Tx) (ds : List PyData) : Option (List PyData) := match progT f l with
  | some ds' => some (ds ++ ds')
  | none => none
theorem prT_end {f : Nat} {ds : List PyData} : prT (f + 1) [] ds = some ds := by
  unfold prT
  rw [progT, if_pos rfl]
  simp
theorem prT_more {f : Nat} {l : Tx} {ds : List PyData} (h : ¬ l = []) : prT (f + 1) l ds = match labelR l with
    | some (d, r) => prT f r (ds ++ [d])
    | none => none := by
  unfold prT
  rw [progT, if_neg h]
  cases labelR l with
  | none => rfl
  | some q =>
    obtain ⟨e, r⟩ := q
    simp only
    cases progT f r with
    | none => rfl
    | some ds' => simp
theorem progR_eq {l : Tx} : progR l = prT (l.length + 1) l [] := by
  unfold prT progR
  cases progT (l.length + 1) l <;> rfl
end Sk

/-! ## SkR -/
namespace Sk
open PySem PySem.Spec PyProof.Rows L2
/-! ### what the last sign that is read can be -/
def good (x : Nat) : Bool := isLet x || isFig x || decide (x = 34) || decide (x = 41)
def Sfx (l r : Tx) : Prop := ∃ c, l = c ++ r
def EndG (l r : Tx) : Prop := ∃ c x, l = c ++ x :: r ∧ good x = true
theorem Sfx.refl (l : Tx) : Sfx l l := ⟨[], rfl⟩
theorem Sfx.trans {l m r : Tx} (h : Sfx l m) (h' : Sfx m r) : Sfx l r := by
  obtain ⟨c, rfl⟩ := h
  obtain ⟨d, rfl⟩ := h'
  exact ⟨c ++ d, by simp⟩
theorem EndG.sfx {l r : Tx} (h : EndG l r) : Sfx l r := by
  obtain ⟨c, x, rfl, _⟩ := h
  exact ⟨c ++ [x], by simp⟩
theorem Sfx.ends {l m r : Tx} (h : Sfx l m) (h' : EndG m r) : EndG l r := by
  obtain ⟨c, rfl⟩ := h
  obtain ⟨d, x, rfl, hx⟩ := h'
  exact ⟨c ++ d, x, by simp, hx⟩
theorem EndG.or {l m r : Tx} (h : EndG l m) (h' : m = r ∨ EndG m r) : EndG l r := by
  rcases h' with rfl | h'
  · exact h
  · exact h.sfx.ends h'
theorem sfx_or {l r : Tx} (h : l = r ∨ EndG l r) : Sfx l r := by
  rcases h with rfl | h
  · exact .refl _
  · exact h.sfx
theorem Sfx.len {l r : Tx} (h : Sfx l r) : r.length ≤ l.length := by
  obtain ⟨c, rfl⟩ := h
  simp
theorem EndG.len {l r : Tx} (h : EndG l r) : r.length < l.length := by
  obtain ⟨c, x, rfl, _⟩ := h
  simp
  omega
theorem tk_eq {l : Tx} {c : Nat} (h : l.take 1 = [c]) : l = c :: l.drop 1 := by
  cases l with
  | nil => cases h
  | cons a r =>
    have : a = c := by simpa using h
    rw [this]
    rfl
theorem tk_sfx {l : Tx} {c : Nat} (h : l.take 1 = [c]) : Sfx l (l.drop 1) := ⟨[c], tk_eq h⟩
theorem tk_ends {l : Tx} {c : Nat} (h : l.take 1 = [c]) (g : good c = true) : EndG l (l.drop 1) := ⟨[], c, tk_eq h, g⟩
theorem any_sfx (l : Tx) : Sfx l (l.drop 1) := ⟨l.take 1, (List.take_append_drop 1 l).symm⟩
theorem pre_sfx {s l : Tx} (h : s.isPrefixOf l = true) : Sfx l (l.drop s.length) := ⟨l.take s.length, (List.take_append_drop _ l).symm⟩
theorem tw_ends {f : Nat → Bool} (hf : ∀ x, f x = true → good x = true) (l : Tx) (h : l.takeWhile f ≠ []) : EndG l (l.dropWhile f) := by
  have e := List.dropLast_concat_getLast h
  refine ⟨(l.takeWhile f).dropLast, (l.takeWhile f).getLast h, ?_, hf _ ?_⟩
  · have e2 : l = l.takeWhile f ++ l.dropWhile f := List.takeWhile_append_dropWhile.symm
    rw [← e] at e2
    simpa using e2
  · have := List.all_takeWhile (p := f) (l := l)
    rw [List.all_eq_true] at this
    exact this _ (List.getLast_mem h)
theorem good_let (x : Nat) (h : isLet x = true) : good x = true := by unfold good; rw [h]; rfl
theorem good_fig (x : Nat) (h : isFig x = true) : good x = true := by unfold good; rw [h]; simp
theorem tw_sfx {f : Nat → Bool} (l : Tx) : Sfx l (l.dropWhile f) := ⟨l.takeWhile f, List.takeWhile_append_dropWhile.symm⟩
def En {α : Type} (R : Rd1 α) : Prop := ∀ l a r, R l = some (a, r) → EndG l r
def En0 {α : Type} (R : Rd1 α) : Prop := ∀ l a r, R l = some (a, r) → l = r ∨ EndG l r
theorem nameR_en : En nameR := by
  intro l n r h
  have hl := nameR_len h
  unfold nameR at h
  split at h
  · cases h
    exact tw_ends good_let l fun e => by rw [e] at hl; simp at hl
  · cases h
theorem qBody_en : ∀ (n : Nat) (l : Tx) (a r : Tx), l.length ≤ n → qBody l = some (a, r) → EndG l r
  | 0, [], a, r, _, h => by rw [qBody] at h; cases h
  | n + 1, [], a, r, _, h => by rw [qBody] at h; cases h
  | 0, c :: l, a, r, hn, h => by simp at hn
  | n + 1, c :: l, a, r, hn, h => by
    have hn' : l.length ≤ n := by simpa using hn
    rw [qBody.eq_def] at h
    simp only at h
    split at h
    · rename_i hc
      split at h
      · rename_i r2
        cases hq : qBody r2 with
        | none => rw [hq] at h; cases h
        | some q =>
          rw [hq] at h
          cases h
          have := qBody_en n r2 q.1 q.2 (by simp at hn'; omega) hq
          exact Sfx.ends ⟨[c, 34], rfl⟩ this
      · cases h
        exact ⟨[], c, rfl, by rw [hc]; decide⟩
    · cases hq : qBody l with
      | none => rw [hq] at h; cases h
      | some q =>
        rw [hq] at h
        cases h
        have := qBody_en n l q.1 q.2 hn' hq
        exact Sfx.ends ⟨[c], rfl⟩ this
theorem qBody_34 : ∀ (n : Nat) (l : Tx) (a r : Tx), l.length ≤ n → qBody l = some (a, r) → ∃ c, l = c ++ 34 :: r
  | 0, [], a, r, _, h => by rw [qBody] at h; cases h
  | n + 1, [], a, r, _, h => by rw [qBody] at h; cases h
  | 0, c :: l, a, r, hn, h => by simp at hn
  | n + 1, c :: l, a, r, hn, h => by
    have hn' : l.length ≤ n := by simpa using hn
    rw [qBody.eq_def] at h
    simp only at h
    split at h
    · rename_i hc
      split at h
      · rename_i r2
        cases hq : qBody r2 with
        | none => rw [hq] at h; cases h
        | some q =>
          rw [hq] at h
          cases h
          obtain ⟨d, hd⟩ := qBody_34 n r2 q.1 q.2 (by simp at hn'; omega) hq
          exact ⟨c :: 34 :: d, by rw [hd]; rfl⟩
      · cases h
        exact ⟨[], by rw [hc]; rfl⟩
    · cases hq : qBody l with
      | none => rw [hq] at h; cases h
      | some q =>
        rw [hq] at h
        cases h
        obtain ⟨d, hd⟩ := qBody_34 n l q.1 q.2 hn' hq
        exact ⟨c :: d, by rw [hd]; rfl⟩
theorem quotedR_34 {l a r : Tx} (h : quotedR l = some (a, r)) : ∃ c, l = c ++ 34 :: r := by
  unfold quotedR at h
  cases l with
  | nil => cases h
  | cons d l =>
    simp only at h
    split at h
    · cases hq : qBody l with
      | none => rw [hq] at h; cases h
      | some q =>
        rw [hq] at h
        simp only at h
        split at h
        · cases h
          obtain ⟨c, hc⟩ := qBody_34 l.length l _ _ (Nat.le_refl _) hq
          exact ⟨d :: c, by rw [hc]; rfl⟩
        · cases h
    · cases h
theorem quotedR_en : En quotedR := by
  intro l a r h
  obtain ⟨c, hc⟩ := quotedR_34 h
  exact ⟨c, 34, hc, by decide⟩
theorem worthR_en : En worthR := by
  intro l w r h
  have hl := worthR_len _ _ _ h
  unfold worthR at h
  split at h
  · split at h
    · rename_i p hp
      split at h
      · cases h
      · cases h
        exact quotedR_en _ _ _ hp
    · cases h
  · split at h
    · cases h
      refine tw_ends good_fig l fun e => ?_
      have := tw_len isFig l
      rw [e] at this
      simp at this
      omega
    · cases h
theorem partsTail_en {E : Rd1 Ex} (hE : En E) : ∀ n, En0 (partsTail E n)
  | 0, l, es, r, h => by cases h
  | n + 1, l, es, r, h => by
    rw [partsTail] at h
    split at h
    · rename_i c
      split at h
      · rename_i e r1 he
        have h1 := (tk_sfx c).ends (hE _ _ _ he)
        split at h
        · rename_i es' r2 hs
          cases h
          exact .inr (h1.or (partsTail_en hE n _ _ _ hs))
        · cases h
      · cases h
    · cases h
      exact .inl rfl
theorem partsR_en {E : Rd1 Ex} (hE : En E) : En (partsR E) := by
  intro l es r h
  unfold partsR at h
  split at h
  · rename_i c
    split at h
    · rename_i e r1 he
      have h1 := (tk_sfx c).ends (hE _ _ _ he)
      split at h
      · rename_i es' r2 hs
        have h2 := h1.or (partsTail_en hE _ _ _ _ hs)
        split at h
        · rename_i c2
          cases h
          exact h2.sfx.ends (tk_ends c2 (by decide))
        · cases h
      · cases h
    · cases h
  · cases h
theorem somePartsR_en {E : Rd1 Ex} (hE : En E) : En0 (somePartsR E) := by
  intro l es r h
  unfold somePartsR at h
  split at h
  · exact .inr (partsR_en hE _ _ _ h)
  · cases h
    exact .inl rfl
theorem placeR_en {Em : Rd1 Ex} (hE : En Em) : En (placeR Em) := by
  intro l e r h
  unfold placeR at h
  split at h
  · rename_i c
    split at h
    · split at h
      · rename_i ps r1 hp
        cases h
        exact (tk_sfx c).ends (partsR_en hE _ _ _ hp)
      · cases h
    · split at h
      · rename_i n r1 hn
        have h1 := (tk_sfx c).ends (nameR_en _ _ _ hn)
        split at h
        · rename_i ps r2 hp
          cases h
          exact h1.or (somePartsR_en hE _ _ _ hp)
        · cases h
      · cases h
  · split at h
    · rename_i n r1 hn
      have h1 := nameR_en _ _ _ hn
      split at h
      · rename_i ps r2 hp
        cases h
        exact h1.or (somePartsR_en hE _ _ _ hp)
      · cases h
    · cases h
theorem callR_en {E Em : Rd1 Ex} (hE : En E) (hm : En Em) : En (callR E Em) := by
  intro l e r h
  have hl : Sfx l (l.dropWhile isLet) := tw_sfx l
  unfold callR at h
  split at h
  · split at h
    · rename_i ps r1 hp
      have h1 := hl.ends (partsR_en hE _ _ _ hp)
      split at h
      · cases h
        exact h1
      · cases h
    · cases h
  · split at h
    · split at h
      · rename_i c
        split at h
        · rename_i p r1 hp
          have h1 := (hl.trans (tk_sfx c)).ends (placeR_en hm _ _ _ hp)
          split at h
          · split at h
            · rename_i c2
              split at h
              · rename_i e2 r2 he
                have h2 := (h1.sfx.trans (tk_sfx c2)).ends (hE _ _ _ he)
                split at h
                · rename_i c3
                  cases h
                  exact h2.sfx.ends (tk_ends c3 (by decide))
                · cases h
              · cases h
            · cases h
          · split at h
            · rename_i c3
              cases h
              exact h1.sfx.ends (tk_ends c3 (by decide))
            · cases h
        · cases h
      · cases h
    · cases h
theorem underR_en {S E : Rd1 Ex} (hS : En S) (hE : En E) : En (underR S E) := by
  intro l e r h
  unfold underR at h
  split at h
  · rename_i c
    split at h
    · rename_i e1 r1 he
      have h1 := (tk_sfx c).ends (hE _ _ _ he)
      split at h
      · split at h
        · rename_i c2
          cases h
          exact h1.sfx.ends (tk_ends c2 (by decide))
        · cases h
      · cases h
    · cases h
  · exact hS _ _ _ h
theorem singleR_en {S E Em : Rd1 Ex} (hS : En S) (hE : En E) (hm : En Em) : En (singleR S E Em) := by
  intro l e r h
  unfold singleR at h
  split at h
  · split at h
    · rename_i w r1 hr
      cases h
      exact worthR_en _ _ _ hr
    · cases h
  · split at h
    · rename_i c
      split at h
      · rename_i e1 r1 he
        cases h
        exact (tk_sfx c).ends (underR_en hS hE _ _ _ he)
      · cases h
    · split at h
      · rename_i c
        split at h
        · rename_i e1 r1 he
          cases h
          exact (tk_sfx c).ends (underR_en hS hE _ _ _ he)
        · cases h
      · split at h
        · rename_i c
          exact (tk_sfx c).ends (callR_en hE hm _ _ _ h)
        · exact placeR_en hE _ _ _ h
theorem opsTail_en {U : Rd1 Ex} (hU : En U) : ∀ (k : Nat) (f : Ex) (l : Tx) (g : Ex) (r : Tx), opsTail U k f l = some (g, r) → l = r ∨ EndG l r
  | 0, f, l, g, r, h => by
    rw [opsTail] at h
    split at h
    · cases h
    · cases h
      exact .inl rfl
  | k + 1, f, l, g, r, h => by
    rw [opsTail] at h
    split at h
    · split at h
      · rename_i e r1 he
        have h1 := (any_sfx l).ends (hU _ _ _ he)
        exact .inr (h1.or (opsTail_en hU k _ _ _ _ h))
      · cases h
    · cases h
      exact .inl rfl
theorem exprR_en {n : Nat} {S U : Rd1 Ex} (hS : En S) (hU : En U) : En (exprR n S U) := by
  intro l e r h
  unfold exprR at h
  split at h
  · rename_i s r1 hs
    have h1 := hS _ _ _ hs
    split at h
    · split at h
      · rename_i f r2 hf
        have h2 := h1.or (opsTail_en hU _ _ _ _ _ hf)
        split at h
        · cases h
          exact h2
        · cases h
      · cases h
    · cases h
      exact h1
  · cases h
theorem lvl_en : ∀ n, En (lvl n).1 ∧ En (lvl n).2.1 ∧ En (lvl n).2.2
  | 0 => ⟨fun _ _ _ h => (by cases h), fun _ _ _ h => (by cases h), fun _ _ _ h => (by cases h)⟩
  | n + 1 => by
    obtain ⟨h1, h2, h3⟩ := lvl_en n
    have h4 := singleR_en h1 h2 h3
    exact ⟨h4, exprR_en h4 (underR_en h1 h2), h2⟩
theorem exR_en (n : Nat) : En (exR n) := (lvl_en n).2.1
/-! ### deeds, rows, labels -/
theorem past_en {α : Type} {c : Nat} {R : Rd1 α} (hR : En R) : En (past c R) := by
  intro l a r h
  unfold past at h
  split at h
  · rename_i hc
    exact (tk_sfx hc).ends (hR _ _ _ h)
  · cases h
theorem itemsTail_en {sep : Tx} {I : Rd1 PyData} (hI : En I) : ∀ n, En0 (itemsTail sep I n)
  | 0, l, es, r, h => by cases h
  | n + 1, l, es, r, h => by
    rw [itemsTail] at h
    split at h
    · rename_i c
      split at h
      · rename_i e r1 he
        have h1 := (pre_sfx c).ends (hI _ _ _ he)
        split at h
        · rename_i es' r2 hs
          cases h
          exact .inr (h1.or (itemsTail_en hI n _ _ _ hs))
        · cases h
      · cases h
    · cases h
      exact .inl rfl
theorem itemsR_en {sep : Tx} {I : Rd1 PyData} (hI : En I) : En (itemsR sep I) := by
  intro l ds r h
  unfold itemsR at h
  split at h
  · rename_i d r1 hd
    have h1 := hI _ _ _ hd
    split at h
    · rename_i ds' r2 hs
      cases h
      exact h1.or (itemsTail_en hI _ _ _ _ hs)
    · cases h
  · cases h
theorem nameD_en : En nameD := by
  intro l d r h
  unfold nameD at h
  split at h
  · rename_i n r1 hn
    cases h
    exact nameR_en _ _ _ hn
  · cases h
theorem namesR_en : En namesR := itemsR_en nameD_en
theorem forR_en : En forR := by
  intro l d r h
  unfold forR at h
  split at h
  · rename_i n r1 hn
    have h1 := nameR_en _ _ _ hn
    split at h
    · rename_i a r2 ha
      have h2 := h1.sfx.ends (past_en (exR_en 40) _ _ _ ha)
      split at h
      · rename_i b r3 hb
        have h3 := h2.sfx.ends (past_en (exR_en 40) _ _ _ hb)
        split at h
        · rename_i c r4 hc
          cases h
          exact h3.sfx.ends (past_en (exR_en 40) _ _ _ hc)
        · cases h
      · cases h
    · cases h
  · cases h
theorem deedB_en (w : Tx) : En (deedB w) := by
  intro l d r h
  unfold deedB at h
  split at h
  · split at h
    · rename_i he
      cases h
      exact placeR_en (exR_en 39) _ _ _ he
    · cases h
  · split at h
    · split at h
      · rename_i he
        cases h
        exact exR_en 40 _ _ _ he
      · cases h
    · split at h
      · split at h
        · rename_i he
          have h1 := placeR_en (exR_en 39) _ _ _ he
          split at h
          · rename_i hf
            cases h
            exact h1.sfx.ends (past_en (exR_en 40) _ _ _ hf)
          · cases h
        · cases h
      · split at h
        · exact forR_en _ _ _ h
        · split at h
          · split at h
            · rename_i hn
              have h1 := nameR_en _ _ _ hn
              split at h
              · rename_i hp
                cases h
                exact h1.or (somePartsR_en (exR_en 40) _ _ _ hp)
              · cases h
            · cases h
          · split at h
            · split at h
              · rename_i hn
                cases h
                exact namesR_en _ _ _ hn
              · cases h
            · cases h
theorem deedR_en : En deedR := by
  intro l d r h
  unfold deedR at h
  split at h
  · rename_i hc
    cases h
    refine tw_ends good_let l fun e => ?_
    rw [e] at hc
    exact absurd hc (by decide +kernel)
  · split at h
    · rename_i hc
      cases h
      refine tw_ends good_let l fun e => ?_
      rw [e] at hc
      exact absurd hc.1 (by decide +kernel)
    · exact (tw_sfx l).ends (past_en (deedB_en _) _ _ _ h)
/-- ends with x| -/
def Ends2 (l r : Tx) : Prop := ∃ c x, l = c ++ x :: 124 :: r ∧ (good x = true ∨ x = 32)
theorem Sfx.ends2 {l m r : Tx} (h : Sfx l m) (h' : Ends2 m r) : Ends2 l r := by
  obtain ⟨c, rfl⟩ := h
  obtain ⟨d, x, rfl, hx⟩ := h'
  exact ⟨c ++ d, x, by simp, hx⟩
theorem Ends2.sfx {l r : Tx} (h : Ends2 l r) : Sfx l r := by
  obtain ⟨c, x, rfl, _⟩ := h
  exact ⟨c ++ [x, 124], by simp⟩
theorem Ends2.len {l r : Tx} (h : Ends2 l r) : r.length < l.length := by
  obtain ⟨c, x, rfl, _⟩ := h
  simp
  omega
theorem EndG.bar {l m : Tx} (h : EndG l m) (hc : m.take 1 = [124]) : Ends2 l (m.drop 1) := by
  obtain ⟨c, x, rfl, hx⟩ := h
  refine ⟨c, x, ?_, .inl hx⟩
  conv => lhs; rw [tk_eq hc]
/-- a row, behind its blank -/
theorem rowR_en {l r : Tx} {ds : List PyData} (h : rowR l = some (ds, r)) : Ends2 (32 :: l) r := by
  unfold rowR thenC at h
  split at h
  · rename_i a r1 ha
    split at h
    · rename_i hc
      cases h
      simp only at ha
      split at ha
      · cases ha
        exact ⟨[], 32, (congrArg (List.cons 32) (tk_eq hc)), .inr rfl⟩
      · exact Sfx.ends2 ⟨[32], rfl⟩ ((itemsR_en deedR_en _ _ _ ha).bar hc)
    · cases h
  · cases h
theorem rowsT_en : ∀ n l ds r, itemsTail [32, 32] rowD n l = some (ds, r) → l = r ∨ Ends2 l r
  | 0, l, es, r, h => by cases h
  | n + 1, l, es, r, h => by
    rw [itemsTail] at h
    split at h
    · rename_i c
      split at h
      · rename_i e r1 he
        have h0 : ∃ ds, rowR (l.drop 2) = some (ds, r1) := by
          unfold rowD at he
          split at he
          · rename_i hr
            cases he
            exact ⟨_, hr⟩
          · cases he
        obtain ⟨ds0, h0⟩ := h0
        have hl : l = 32 :: 32 :: l.drop 2 := by
          rw [List.isPrefixOf_iff_prefix] at c
          obtain ⟨t, rfl⟩ := c
          rfl
        have h1 : Ends2 l r1 := by
          conv => arg 1; rw [hl]
          exact Sfx.ends2 ⟨[32], rfl⟩ (rowR_en h0)
        split at h
        · rename_i es' r2 hs
          cases h
          rcases rowsT_en n _ _ _ hs with rfl | h2
          · exact .inr h1
          · exact .inr (h1.sfx.ends2 h2)
        · cases h
      · cases h
    · cases h
      exact .inl rfl
theorem paramsR_en : En0 paramsR := by
  intro l ds r h
  unfold paramsR at h
  split at h
  · rename_i c
    unfold thenC at h
    split at h
    · rename_i a r1 ha
      have h1 := (tk_sfx c).ends (namesR_en _ _ _ ha)
      split at h
      · rename_i c2
        cases h
        exact .inr (h1.sfx.ends (tk_ends c2 (by decide)))
      · cases h
    · cases h
  · cases h
    exact .inl rfl
theorem labelR_en {l r : Tx} {d : PyData} (h : labelR l = some (d, r)) : Ends2 l r := by
  unfold labelR at h
  split at h
  · rename_i n r1 hn
    have h1 := nameR_en _ _ _ hn
    split at h
    · rename_i ps r2 hp
      have h2 := h1.or (paramsR_en _ _ _ hp)
      split at h
      · rename_i rows r3 hr
        cases h
        unfold past at hr
        split at hr
        · rename_i c
          have h3 := h2.bar c
          rcases rowsT_en _ _ _ _ hr with h4 | h4
          · rw [← h4]
            exact h3
          · exact h3.sfx.ends2 h4
        · cases hr
      · cases h
    · cases h
  · cases h
theorem progT_en : ∀ n l ds, progT n l = some ds → l = [] ∨ Ends2 l []
  | 0, l, ds, h => by cases h
  | n + 1, l, ds, h => by
    rw [progT] at h
    split at h
    · rename_i e
      exact .inl e
    · split at h
      · rename_i d r hd
        have h1 := labelR_en hd
        split at h
        · rename_i ds' hs
          rcases progT_en n _ _ hs with rfl | h2
          · exact .inr h1
          · exact .inr (h1.sfx.ends2 h2)
        · cases h
      · cases h
theorem nodeR_34 {l : Tx} {q : Tx × List PyData × Tx} {r : Tx} (h : nodeR l = some (q, r)) : ∃ c, l = c ++ 34 :: r := by
  unfold nodeR past at h
  split at h
  · rename_i c0
    simp only at h
    split at h
    · rename_i n r1 hn
      have h1 := (tk_sfx c0).trans (nameR_en _ _ _ hn).sfx
      split at h
      · rename_i ks r2 hk
        have h2 : Sfx r1 r2 := by
          unfold keysR at hk
          split at hk
          · rename_i c1
            unfold thenC at hk
            split at hk
            · rename_i a r3 ha
              have hw : En worthD := by
                intro l d r h
                unfold worthD at h
                split at h
                · rename_i hn
                  cases h
                  exact worthR_en _ _ _ hn
                · cases h
              have h3 := (tk_sfx c1).trans (itemsR_en hw _ _ _ ha).sfx
              split at hk
              · rename_i c2
                cases hk
                exact h3.trans (tk_sfx c2)
              · cases hk
            · cases hk
          · cases hk
            exact .refl _
        split at h
        · rename_i w r3 hw
          cases h
          split at hw
          · rename_i c2
            obtain ⟨c, hc⟩ := quotedR_34 hw
            obtain ⟨d, hd⟩ := (h1.trans h2).trans (tk_sfx c2)
            exact ⟨d ++ c, by rw [hd, hc]; simp⟩
          · cases hw
        · cases h
      · cases h
    · cases h
  · cases h
end Sk

/-! ## C1 -/
namespace Sk
open PySem PySem.Spec PyProof.Rows L2
def sflds (z : Str) (i : Nat) : List (Str × V) := [("signs", .str z), ("spot", .int i)]
def SrcAt (K : PySem.W.Frag) (H : Hp) (p : Addr) (z : Str) (i : Nat) : Prop := (∃ dx, H p = some (.ins (He.ga K "Source") dx (sflds z i))) ∧ i ≤ z.length ∧ z.length ≤ 5000000
def But (p : Addr) (H H' : Hp) : Prop := ∀ b o, H b = some o → b ≠ p → H' b = some o
theorem sf_signs (z : Str) (i : Nat) : (sflds z i).lookup ("signs" : Str) = some (.str z) := by rfl
theorem sf_spot (z : Str) (i : Nat) : (sflds z i).lookup ("spot" : Str) = some (.int i) := by rfl
theorem sf_put (z : Str) (i : Nat) (j : Int) (h : 0 ≤ j) : putF "spot" (.int j) (sflds z i) = sflds z j.toNat := by
  have e : j = (j.toNat : Int) := by omega
  rw [e]
  rfl
theorem sf_no {z : Str} {i : Nat} {m : Str} (h1 : ¬ ("signs" : Str) = m) (h2 : ¬ ("spot" : Str) = m) : (sflds z i).lookup m = none := by
  unfold sflds
  have e1 : (m == ("signs" : Str)) = false := by simpa using fun e => h1 e.symm
  have e2 : (m == ("spot" : Str)) = false := by simpa using fun e => h2 e.symm
  simp [List.lookup, e1, e2]
theorem But.upd1 {p : Addr} {H : Hp} {o : HO} : But p H (upd H p o) := fun b u e h => by rw [upd_ne h]; exact e
theorem But.refl {p : Addr} {H : Hp} : But p H H := fun _ _ e _ => e
theorem But.trans {p : Addr} {H H1 H2 : Hp} (a : But p H H1) (b : But p H1 H2) : But p H H2 := fun c o e h => b c o (a c o e h) h
theorem But.of {p : Addr} {H H' : Hp} (s : Same H H') : But p H H' := fun b o e _ => s b o e
theorem big1 : (5000000 : Nat) ≤ sizeLine := by rw [sizeLine_eq]; omega
def exNT (K : PySem.W.Frag) : Value := .ref (He.ga K "NoText")

theorem rem_cons {z : Str} {j : Nat} (h : j < z.length) : ∃ c, rem z j = c :: rem z (j + 1) := by
  have h' : j < (tl z).length := by rw [tl_len]; exact h
  exact ⟨(tl z)[j], List.drop_eq_getElem_cons h'⟩
theorem rem_nil {z : Str} {j : Nat} (h : z.length ≤ j) : rem z j = [] := List.drop_eq_nil_of_le (by rw [tl_len]; exact h)
theorem rem_at {z : Str} {j : Nat} {c : Nat} {r : Tx} (h : rem z j = c :: r) : (tl z)[j]? = some c := by
  have e : (rem z j)[0]? = some c := by rw [h]; rfl
  rw [rem, List.getElem?_drop] at e
  simpa using e
theorem take_more {z : Str} {i j c : Nat} {r : Tx} (h1 : i ≤ j) (h : rem z j = c :: r) : (rem z i).take (j - i) ++ [c] = (rem z i).take (j + 1 - i) := by
  have e : (rem z i)[j - i]? = some c := by
    rw [rem, List.getElem?_drop, show i + (j - i) = j by omega]
    exact rem_at h
  rw [show j + 1 - i = (j - i) + 1 by omega, List.take_add_one, e]
  rfl
theorem cutS_one {z : Str} {i : Nat} (hi : i ≤ z.length) : cutS z (some (i : Int)) (some ((i : Int) + 1)) = St ((rem z i).take 1) := by
  unfold cutS
  have e1 : HT.sIx z.length 0 (some (i : Int)) = i := by rw [HT.sIx_nat]; omega
  have e2 : HT.sIx z.length z.length (some ((i : Int) + 1)) = min (i + 1) z.length := HT.sIx_nat _ _ (i + 1)
  rw [e1, e2]
  show St _ = _
  congr 1
  by_cases h : i < z.length
  · rw [show min (i + 1) z.length - i = 1 by omega]
    rfl
  · rw [show min (i + 1) z.length - i = 0 by omega, rem_nil (by omega)]
    rfl
theorem sg_inj {x c : Nat} : ((⟨#[x]⟩ : Str) = ⟨#[c]⟩) = (x = c) := by
  rw [eq_iff_iff]
  exact ⟨fun h => by injection h with h; simpa using h, fun h => by rw [h]⟩
set_option hygiene false in
local macro_rules | `(tactic| walk_at "rd") => `(tactic| simp only [tVar, tC, tB, tAnd, tOr, tNot, tAndV, tOrV, tNotV, tIf, tNext, tSeq, tBreak, tCont, tDrop, tRet, tRetN, tIfS, tAsg, tAug, tOp, tUn, tTest, tChain, tFld, sFldAug, sFld, rAdd, tNil, tCons, tTup, tLst, tCB, tNoPart, tPart, tSl, tBM0, tBM, tYes, tM0, tM1, CwR.tReplC, tCallS, tMethS, tMakeS, gName, wipe, tyV, gTup, gCons, gNil,
  rI, rI0, rEq, rNe, scal, rPlus, rPlusI, rPlusS, rCat, rCatA, rIx, rIxL, rIxT, rIxS, rSl, rSlS, rSlL, rSlA, iPlus, iPlusI, iPlusS, ipI, rAll, rAny, LenV, WE, E0, rAppend,
  L2.start, List.map_cons, List.map_nil, List.length_cons, List.length_nil, Nat.zero_add, Nat.add_zero, Nat.reduceAdd, Nat.reduceSub, Nat.sub_self, List.replicate_zero, List.replicate_succ, List.append_nil, List.nil_append, List.cons_append, List.getElem?_cons_zero, List.getElem?_cons_succ, List.set_cons_zero, List.set_cons_succ, Option.some.injEq,
  V.int.injEq, V.str.injEq, V.bl.injEq, V.ref.injEq, V.ty.injEq, HO.ins.injEq, HO.lst.injEq, HO.tup.injEq, List.cons.injEq, reduceCtorEq, false_and, and_false, true_and, and_true, and_assoc, exists_const, exists_false, false_or, or_false, exists_eq_left', exists_eq_left, exists_eq_right, exists_eq_right', exists_and_left, ↓reduceIte, decide_eq_true_eq, Bool.not_eq_true', decide_eq_false_iff_not, if_true, if_false, cxOf, and_self, Bool.not_true, Bool.not_false, Bool.false_eq_true,
  sf_signs, sf_spot, sf_put, T.cl_Source, T.na_Source_signs, T.na_Source_spot, sg_inj, upd_same, rIsS, tyN, kb1, kb2, kb3, kb4, kb5, kb6, kb7, kb8, kb9, kb10, kb11, kb12, kb13, kb14, kb15, kb16, kb17, kb18, kb19, kb20, kb21, tDNewK, rPowW])
section
variable {P : Program} {w : World} {K : PySem.W.Frag} {mg : Str → Option Value} {base : Heap}
def spCN (K : PySem.W.Frag) : Sp := fun vs H Q _ => ∃ p z i y, vs = [.ref p, .str y] ∧ SrcAt K H p z i ∧ Q (.bl ((tl y).isPrefixOf (rem z i))) H
theorem sc_Source_comes_next : FnScope ["self", "sign"] ["self", "sign"] (defScope s_Source_comes_next) := ⟨rfl, rfl, rfl, by decide +kernel, rfl, by decide +kernel, by decide +kernel⟩
theorem ok_Source_comes_next (T : Hd w K mg)  : Mt P w K mg base 1 (He.ga K "Source") "comes_next" (spCN K) := by
  obtain ⟨fd, F⟩ := T.fn_Source_comes_next
  refine mt_mk T.cl_Source T.me_Source_comes_next F (F.binds (ps := ["self", "sign"]) fun _ _ _ _ _ _ us hl => match us, hl with | [_, _], _ => rfl) sc_Source_comes_next (fun vs H Q E h => ?_) (fun cdv A outer s H vs Q E hr tk h => ?_)
  · obtain ⟨p, z, i, y, rfl, ⟨⟨dx, hp⟩, hi, hz⟩, q⟩ := h
    rfl
  obtain ⟨p, z, i, y, rfl, ⟨⟨dx, hp⟩, hi, hz⟩, q⟩ := h
  refine ⟨_, (pss_one (ps_ret (pe_bm PySem.F.plainAttrs_str PySem.F.slot_str_startswith PySem.F.type_str_startswith mt_startswith3 (pe_fld (pv 0) rfl) (pa_cons (pv 1) (pa_cons (pe_fld (pv 0) rfl) pa_nil))))), ?_⟩
  walk_at "rd"
  simp only [hp]
  walk_at "rd"
  rw [sw3 hi]
  exact q
def spSk (K : PySem.W.Frag) : Sp := fun vs H Q _ => ∃ p z i y, vs = [.ref p, .str y] ∧ SrcAt K H p z i ∧ ((tl y).isPrefixOf (rem z i) = false → Q (.bl false) H) ∧
  ((tl y).isPrefixOf (rem z i) = true → ∀ H', But p H H' → SrcAt K H' p z (i + y.length) → Q (.bl true) H')
theorem pre_len {z y : Str} {i : Nat} (h : (tl y).isPrefixOf (rem z i) = true) (hi : i ≤ z.length) : i + y.length ≤ z.length := by
  have := (List.isPrefixOf_iff_prefix.mp h).length_le
  rw [rem_len, tl_len] at this
  omega
theorem sc_Source_skips : FnScope ["self", "sign"] ["self", "sign"] (defScope s_Source_skips) := ⟨rfl, rfl, rfl, by decide +kernel, rfl, by decide +kernel, by decide +kernel⟩
theorem ok_Source_skips (T : Hd w K mg) (M_Source_comes_next : Mt P w K mg base 1 (He.ga K "Source") "comes_next" (spCN K)) : Mt P w K mg base 2 (He.ga K "Source") "skips" (spSk K) := by
  obtain ⟨fd, F⟩ := T.fn_Source_skips
  refine mt_mk T.cl_Source T.me_Source_skips F (F.binds (ps := ["self", "sign"]) fun _ _ _ _ _ _ us hl => match us, hl with | [_, _], _ => rfl) sc_Source_skips (fun vs H Q E h => ?_) (fun cdv A outer s H vs Q E hr tk h => ?_)
  · obtain ⟨p, z, i, y, rfl, hS, q0, q1⟩ := h
    rfl
  obtain ⟨p, z, i, y, rfl, hS, q0, q1⟩ := h
  refine ⟨_, (pss_cons (ps_if (pt_not (pt_val (pe_m (pv 0) M_Source_comes_next hr (by first | decide | omega) (fun σ => L2N.passAt tk σ) (pa_cons (pv 1) pa_nil)))) (pss_one (ps_ret pe_bl)) pss_nil) (pss_cons (ps_fldaug (pv 0) (pe_callB call_len (by rfl) T.f_len (by decide +kernel) (pa_cons (pv 1) pa_nil)) in_add) (pss_one (ps_ret pe_bl)))), ?_⟩
  obtain ⟨⟨dx, hp⟩, hi, hz⟩ := id hS
  walk_at "rd"
  simp only [hp]
  walk_at "rd"
  refine ⟨sf_no (by decide +kernel) (by decide +kernel), p, z, i, y, rfl, hS, ?_⟩
  walk_at "rd"
  cases c : (tl y).isPrefixOf (rem z i) with
  | false =>
    rw [if_pos rfl]
    exact q0 c
  | true =>
    have hl := pre_len c hi
    simp only [hp]
    walk_at "rd"
    have e : (0 : Int) ≤ (i : Int) + (y.length : Int) := by omega
    refine ⟨Nat.le_trans (by omega) big1, (by show 2 < 1000; decide), ?_⟩
    rw [sf_put _ _ _ e]
    refine q1 c _ But.upd1 ⟨⟨dx, ?_⟩, hl, hz⟩
    rw [upd_same]
    congr
def spGo (K : PySem.W.Frag) : Sp := fun vs H Q E => ∃ p z i y, vs = [.ref p, .str y] ∧ SrcAt K H p z i ∧ ((tl y).isPrefixOf (rem z i) = false → E (exNT K) none H) ∧
  ((tl y).isPrefixOf (rem z i) = true → ∀ H', But p H H' → SrcAt K H' p z (i + y.length) → Q .non H')
theorem sc_Source_goes_past : FnScope ["self", "sign"] ["self", "sign"] (defScope s_Source_goes_past) := ⟨rfl, rfl, rfl, by decide +kernel, rfl, by decide +kernel, by decide +kernel⟩
theorem ok_Source_goes_past (T : Hd w K mg) (M_Source_skips : Mt P w K mg base 2 (He.ga K "Source") "skips" (spSk K)) : Mt P w K mg base 3 (He.ga K "Source") "goes_past" (spGo K) := by
  obtain ⟨fd, F⟩ := T.fn_Source_goes_past
  refine mt_mk T.cl_Source T.me_Source_goes_past F (F.binds (ps := ["self", "sign"]) fun _ _ _ _ _ _ us hl => match us, hl with | [_, _], _ => rfl) sc_Source_goes_past (fun vs H Q E h => ?_) (fun cdv A outer s H vs Q E hr tk h => ?_)
  · obtain ⟨p, z, i, y, rfl, hS, q0, q1⟩ := h
    rfl
  obtain ⟨p, z, i, y, rfl, hS, q0, q1⟩ := h
  refine ⟨_, (pss_one (ps_if (pt_not (pt_val (pe_m (pv 0) M_Source_skips hr (by first | decide | omega) (fun σ => L2N.passAt tk σ) (pa_cons (pv 1) pa_nil)))) (pss_one (L2N.ps_raise rfl tk (L2N.pmk_own PySem.F.excBase_ValueError T.x_NoText T.g_NoText T.k_NoText (raises_own T.b_NoText T.t_NoText) rfl))) pss_nil)), ?_⟩
  obtain ⟨⟨dx, hp⟩, hi, hz⟩ := id hS
  walk_at "rd"
  simp only [hp]
  walk_at "rd"
  refine ⟨sf_no (by decide +kernel) (by decide +kernel), p, z, i, y, rfl, hS, fun c => ?_, fun c H' hb hS' => ?_⟩
  · walk_at "rd"
    exact q0 c
  · walk_at "rd"
    exact q1 c H' hb hS'
def spRun (K : PySem.W.Frag) : Sp := fun vs H Q _ => ∃ p z i y, vs = [.ref p, .str y] ∧ SrcAt K H p z i ∧
  ∀ H', But p H H' → SrcAt K H' p z (i + ((rem z i).takeWhile fun c => decide (c ∈ tl y)).length) → Q (.str (St ((rem z i).takeWhile fun c => decide (c ∈ tl y)))) H'
theorem sc_Source_run_of : FnScope ["self", "some", "first"] ["self", "some"] (defScope s_Source_run_of) := ⟨rfl, rfl, rfl, by decide +kernel, rfl, by decide +kernel, by decide +kernel⟩
theorem ok_Source_run_of (T : Hd w K mg)  : Mt P w K mg base 1 (He.ga K "Source") "run_of" (spRun K) := by
  obtain ⟨fd, F⟩ := T.fn_Source_run_of
  refine mt_mk T.cl_Source T.me_Source_run_of F (F.binds (ps := ["self", "some"]) fun _ _ _ _ _ _ us hl => match us, hl with | [_, _], _ => rfl) sc_Source_run_of (fun vs H Q E h => ?_) (fun cdv A outer s H vs Q E hr tk h => ?_)
  · obtain ⟨p, z, i, y, rfl, hS, q⟩ := h
    rfl
  obtain ⟨p, z, i, y, rfl, hS, q⟩ := h
  refine ⟨_, (pss_cons (ps_set (i := 2) sc_Source_run_of.nd rfl (by first | exact Or.inl rfl | exact Or.inr rfl) (pe_fld (pv 0) rfl)) (pss_cons (ps_while (passes_of rfl) (PW.pt (pw_and (pt_cmpR op_lt (pe_fld (pv 0) rfl) (pe_callB call_len (by rfl) T.f_len (by decide +kernel) (pa_cons (pe_fld (pv 0) rfl) pa_nil)) (nomark _)) (pw_and1 (pt_cmpR op_in_sign (pe_ix ix_str (pe_fld (pv 0) rfl) (pe_fld (pv 0) rfl) (fun _ _ => rfl)) (pv 1) rfl)))) (pss_one (ps_fldaug (pv 0) pe_int in_add))) (pss_one (ps_ret (pe_slice sl_str (pe_fld (pv 0) rfl) (po_some (pv 2)) (po_some (pe_fld (pv 0) rfl))))))), ?_⟩
  obtain ⟨⟨dx, hp⟩, hi, hz⟩ := id hS
  walk_at "rd"
  simp only [hp]
  walk_at "rd"
  refine ⟨fun m σ H' => ∃ j, i ≤ j ∧ j ≤ z.length ∧ σ = [some (.ref p), some (.str y), some (.int (i : Int))] ∧ SrcAt K H' p z j ∧ But p H H' ∧ (rem z i).takeWhile (fun c => decide (c ∈ tl y)) = (rem z i).take (j - i) ++ (rem z j).takeWhile (fun c => decide (c ∈ tl y)) ∧ m = z.length - j, ⟨_, i, Nat.le_refl _, hi, rfl, hS, But.refl, by simp, rfl⟩, ?_⟩
  rintro m σ H1 ⟨j, h1, h2, rfl, hS1, hb, e, rfl⟩
  obtain ⟨⟨dy, hp1⟩, _, _⟩ := id hS1
  walk_at "rd"
  simp only [hp1]
  walk_at "rd"
  refine ⟨Nat.le_trans hz big1, ?_⟩
  have done : ¬ (∃ c, (rem z j).head? = some c ∧ c ∈ tl y) → z.length ≤ sizeLine ∧ Q (V.str (cutS z (some (i : Int)) (some (j : Int)))) H1 := fun hn => by
    have e2 : (rem z j).takeWhile (fun c => decide (c ∈ tl y)) = [] := by
      cases hr : rem z j with
      | nil => rfl
      | cons c r =>
        rw [List.takeWhile_cons, if_neg]
        intro hc
        exact hn ⟨c, by rw [hr]; rfl, of_decide_eq_true hc⟩
    rw [e2, List.append_nil] at e
    refine ⟨Nat.le_trans hz big1, ?_⟩
    rw [cutS_mid h1 h2, ← e]
    have e3 : ((rem z i).takeWhile fun c => decide (c ∈ tl y)).length = j - i := by
      rw [e, List.length_take, rem_len]
      omega
    refine q H1 hb ?_
    rw [e3, show i + (j - i) = j by omega]
    exact hS1
  by_cases hj : j < z.length
  · rw [if_pos (by omega)]
    obtain ⟨c, hc⟩ := rem_cons hj
    refine ⟨Nat.le_trans hz big1, c, atI_nat (rem_at hc), ?_⟩
    by_cases hm : c ∈ y.cps.toList
    · rw [if_pos hm]
      refine ⟨fun σ' H' => σ' = [some (V.ref p), some (V.str y), some (V.int (i : Int))] ∧ SrcAt K H' p z (j + 1) ∧ But p H H', fun σ' H' h => ?_, (by show 2 < 1000; decide), rfl, ⟨⟨dy, ?_⟩, by omega, hz⟩, hb.trans But.upd1⟩
      · obtain ⟨rfl, hS2, hb2⟩ := h
        refine ⟨z.length - (j + 1), by omega, j + 1, by omega, by omega, rfl, hS2, hb2, ?_, rfl⟩
        rw [e, hc, List.takeWhile_cons, if_pos (show decide (c ∈ tl y) = true from decide_eq_true hm), ← take_more h1 hc, List.append_assoc]
        rfl
      · rw [upd_same, sf_put _ _ _ (by omega)]
        congr
    · rw [if_neg hm]
      exact done fun ⟨d, hd, hd2⟩ => hm (by rw [hc] at hd; cases hd; exact hd2)
  · rw [if_neg (by omega)]
    exact done fun ⟨d, hd, hd2⟩ => by
      rw [rem_nil (by omega)] at hd
      cases hd
def spNx (K : PySem.W.Frag) : Sp := fun vs H Q _ => ∃ p z i, vs = [.ref p] ∧ SrcAt K H p z i ∧ Q (.str (St ((rem z i).take 1))) H
theorem sc_Source_next_sign : FnScope ["self"] ["self"] (defScope s_Source_next_sign) := ⟨rfl, rfl, rfl, by decide +kernel, rfl, by decide +kernel, by decide +kernel⟩
theorem ok_Source_next_sign (T : Hd w K mg)  : Mt P w K mg base 1 (He.ga K "Source") "next_sign" (spNx K) := by
  obtain ⟨fd, F⟩ := T.fn_Source_next_sign
  refine mt_mk T.cl_Source T.me_Source_next_sign F (F.binds (ps := ["self"]) fun _ _ _ _ _ _ us hl => match us, hl with | [_], _ => rfl) sc_Source_next_sign (fun vs H Q E h => ?_) (fun cdv A outer s H vs Q E hr tk h => ?_)
  · obtain ⟨p, z, i, rfl, hS, q⟩ := h
    rfl
  obtain ⟨p, z, i, rfl, hS, q⟩ := h
  refine ⟨_, (pss_one (ps_ret (pe_slice sl_str (pe_fld (pv 0) rfl) (po_some (pe_fld (pv 0) rfl)) (po_some (pe_op op_add (pe_fld (pv 0) rfl) pe_int))))), ?_⟩
  obtain ⟨⟨dx, hp⟩, hi, hz⟩ := id hS
  walk_at "rd"
  simp only [hp]
  walk_at "rd"
  refine ⟨Nat.le_trans hz big1, ?_⟩
  rw [cutS_one hi]
  exact q
def spEnd (K : PySem.W.Frag) : Sp := fun vs H Q _ => ∃ p z i, vs = [.ref p] ∧ SrcAt K H p z i ∧ Q (.bl (decide (rem z i = []))) H
theorem sc_Source_at_end : FnScope ["self"] ["self"] (defScope s_Source_at_end) := ⟨rfl, rfl, rfl, by decide +kernel, rfl, by decide +kernel, by decide +kernel⟩
theorem ok_Source_at_end (T : Hd w K mg)  : Mt P w K mg base 1 (He.ga K "Source") "at_end" (spEnd K) := by
  obtain ⟨fd, F⟩ := T.fn_Source_at_end
  refine mt_mk T.cl_Source T.me_Source_at_end F (F.binds (ps := ["self"]) fun _ _ _ _ _ _ us hl => match us, hl with | [_], _ => rfl) sc_Source_at_end (fun vs H Q E h => ?_) (fun cdv A outer s H vs Q E hr tk h => ?_)
  · obtain ⟨p, z, i, rfl, hS, q⟩ := h
    rfl
  obtain ⟨p, z, i, rfl, hS, q⟩ := h
  refine ⟨_, (pss_one (ps_ret (pe_cmpR op_eq (pe_fld (pv 0) rfl) (pe_callB call_len (by rfl) T.f_len (by decide +kernel) (pa_cons (pe_fld (pv 0) rfl) pa_nil)) (nomark _)))), ?_⟩
  obtain ⟨⟨dx, hp⟩, hi, hz⟩ := id hS
  walk_at "rd"
  simp only [hp]
  walk_at "rd"
  refine ⟨Nat.le_trans hz big1, ?_⟩
  have e : decide ((i : Int) = (z.length : Int)) = decide (rem z i = []) := by
    rw [decide_eq_decide]
    have h := rem_len z i
    constructor
    · intro h2
      exact List.eq_nil_of_length_eq_zero (by omega)
    · intro h2
      rw [h2] at h
      simp at h
      omega
  rw [e]
  exact q
def spIsName : Sp := fun vs H Q _ => ∃ z, vs = [.str z] ∧ z.length ≤ 5000000 ∧ ∀ H', Same H H' → Q (.bl (isNameT (tl z))) H'
theorem sc_is_name : FnScope ["thing", "sign"] ["thing"] (defScope s_is_name) := ⟨rfl, rfl, rfl, by decide +kernel, rfl, by decide +kernel, by decide +kernel⟩
theorem ok_is_name (T : Hd w K mg)  : Dn P w K mg base 1 "is_name" (spIsName) := by
  obtain ⟨fd, F⟩ := T.fn_is_name
  refine dn_mk F T.g_is_name (F.binds (ps := ["thing"]) fun _ _ _ _ _ _ us hl => match us, hl with | [_], _ => rfl) sc_is_name (fun vs H Q E h => ?_) (fun cdv A outer s H vs Q E hr tk h => ?_)
  · obtain ⟨z, rfl, hz, q⟩ := h
    rfl
  obtain ⟨z, rfl, hz, q⟩ := h
  refine ⟨_, (pss_cons (ps_if (PW.pt (pw_or (pt_not (pt_val (pe_callB call_isS (by rfl) T.f_isinstance (by decide +kernel) (pa_cons (pv 0) (pa_cons (pe_bltn (v := .ty "str") (u := .type "str") (by rfl) T.f_str (by decide +kernel) rfl) pa_nil))))) (pw_or1 (pt_not (pt_chain op_le op_le pe_int (pe_callB call_len (by rfl) T.f_len (by decide +kernel) (pa_cons (pv 0) pa_nil)) (C8.pe_gc (by rfl) T.c_MOST_LETTERS)))))) (pss_one (ps_ret pe_bl)) pss_nil) (pss_one (ps_ret (pe_callB (cr_all rfl) (by rfl) T.f_all (by decide +kernel) (pa_cons (pe_lc (own := [("sign", 1)]) (by rfl) sc_is_name.nd (pi_seq (pv 0)) (blkOk_by (own := [("sign", 1)]) (N := ["thing", "sign"]) (sc := defScope s_is_name) (by decide +kernel)) (fun _ _ _ _ _ => (pg_name (i := 1) sc_is_name.nd rfl (Or.inl rfl))) (fun _ _ _ _ _ => pts_nil) (fun _ _ _ _ _ => (pe_cmpR op_in_sign (pv 1) (C8.pe_gc (by rfl) T.c_LETTERS) rfl))) pa_nil))))), ?_⟩
  walk_at "rd"
  refine ⟨Nat.le_trans hz big1, ?_⟩
  by_cases c1 : 1 ≤ (z.length : Int)
  · rw [if_pos c1]
    by_cases c2 : (z.length : Int) ≤ 8
    · rw [if_neg (by omega)]
      refine tLc_str z (fun c => .bl (isLet c)) (fun R h => ⟨_, rfl, h⟩) (Nat.le_trans hz big1) (fun j c H' Q' hc s h => ⟨rfl, ?_⟩) (fun D H' nD s h => ⟨_, rfl, _, SqL.of (by rw [← bl_map]; exact h), ?_⟩)
      · walk_at "rd"
        exact h H' (Same.refl _)
      · rw [all_id]
        have e : isNameT (tl z) = (tl z).all isLet := by
          unfold isNameT
          rw [decide_eq_true (by rw [tl_len]; omega), Bool.true_and]
        have q2 := q H' s
        rw [e] at q2
        exact q2
    · rw [if_pos (by omega)]
      have e : isNameT (tl z) = false := by
        unfold isNameT
        rw [decide_eq_false (by rw [tl_len]; omega), Bool.false_and]
      have q2 := q H (Same.refl _)
      rw [e] at q2
      exact q2
  · rw [if_neg c1]
    have e : isNameT (tl z) = false := by
      unfold isNameT
      rw [decide_eq_false (by rw [tl_len]; omega), Bool.false_and]
    have q2 := q H (Same.refl _)
    rw [e] at q2
    exact q2
def spIsWorth : Sp := fun vs H Q _ => ∃ z, vs = [.str z] ∧ z.length ≤ 5000000 ∧ ∀ H', Same H H' → Q (.bl (isWorthT (tl z))) H'
theorem sc_is_worth : FnScope ["thing", "sign"] ["thing"] (defScope s_is_worth) := ⟨rfl, rfl, rfl, by decide +kernel, rfl, by decide +kernel, by decide +kernel⟩
theorem ok_is_worth (T : Hd w K mg)  : Dn P w K mg base 1 "is_worth" (spIsWorth) := by
  obtain ⟨fd, F⟩ := T.fn_is_worth
  refine dn_mk F T.g_is_worth (F.binds (ps := ["thing"]) fun _ _ _ _ _ _ us hl => match us, hl with | [_], _ => rfl) sc_is_worth (fun vs H Q E h => ?_) (fun cdv A outer s H vs Q E hr tk h => ?_)
  · obtain ⟨z, rfl, hz, q⟩ := h
    rfl
  obtain ⟨z, rfl, hz, q⟩ := h
  refine ⟨_, (pss_one (ps_ret (pe_and (pe_callB call_isS (by rfl) T.f_isinstance (by decide +kernel) (pa_cons (pv 0) (pa_cons (pe_bltn (v := .ty "str") (u := .type "str") (by rfl) T.f_str (by decide +kernel) rfl) pa_nil))) (pe_one (pe_callB (cr_all rfl) (by rfl) T.f_all (by decide +kernel) (pa_cons (pe_lc (own := [("sign", 1)]) (by rfl) sc_is_worth.nd (pi_seq (pv 0)) (blkOk_by (own := [("sign", 1)]) (N := ["thing", "sign"]) (sc := defScope s_is_worth) (by decide +kernel)) (fun _ _ _ _ _ => (pg_name (i := 1) sc_is_worth.nd rfl (Or.inl rfl))) (fun _ _ _ _ _ => pts_nil) (fun _ _ _ _ _ => (pe_cmpR op_in_sign (pv 1) (C8.pe_gc (by rfl) T.c_SIGNS) rfl))) pa_nil)))))), ?_⟩
  walk_at "rd"
  refine tLc_str z (fun c => .bl (isSign c)) (fun R h => ⟨_, rfl, h⟩) (Nat.le_trans hz big1) (fun j c H' Q' hc s h => ⟨rfl, ?_⟩) (fun D H' nD s h => ⟨_, rfl, _, SqL.of (by rw [← bl_map]; exact h), ?_⟩)
  · walk_at "rd"
    exact h H' (Same.refl _)
  · rw [all_id]
    exact q H' s
end
end Sk

/-! ## C2 -/
namespace Sk
open PySem PySem.Spec PyProof.Rows L2
set_option hygiene false in
local macro_rules | `(tactic| walk_at "rd") => `(tactic| simp only [tVar, tC, tB, tAnd, tOr, tNot, tAndV, tOrV, tNotV, tIf, tNext, tSeq, tBreak, tCont, tDrop, tRet, tRetN, tIfS, tAsg, tAug, tOp, tUn, tTest, tChain, tFld, sFldAug, sFld, rAdd, tNil, tCons, tTup, tLst, tCB, tNoPart, tPart, tSl, tBM0, tBM, tYes, tM0, tM1, CwR.tReplC, tCallS, tMethS, tMakeS, gName, wipe, tyV, gTup, gCons, gNil,
  rI, rI0, rEq, rNe, scal, rPlus, rPlusI, rPlusS, rCat, rCatA, rIx, rIxL, rIxT, rIxS, rSl, rSlS, rSlL, rSlA, iPlus, iPlusI, iPlusS, ipI, rAll, rAny, LenV, WE, E0, rAppend,
  L2.start, List.map_cons, List.map_nil, List.length_cons, List.length_nil, Nat.zero_add, Nat.add_zero, Nat.reduceAdd, Nat.reduceSub, Nat.sub_self, List.replicate_zero, List.replicate_succ, List.append_nil, List.nil_append, List.cons_append, List.getElem?_cons_zero, List.getElem?_cons_succ, List.set_cons_zero, List.set_cons_succ, Option.some.injEq,
  V.int.injEq, V.str.injEq, V.bl.injEq, V.ref.injEq, V.ty.injEq, HO.ins.injEq, HO.lst.injEq, HO.tup.injEq, List.cons.injEq, reduceCtorEq, false_and, and_false, true_and, and_true, and_assoc, exists_const, exists_false, false_or, or_false, exists_eq_left', exists_eq_left, exists_eq_right, exists_eq_right', exists_and_left, ↓reduceIte, decide_eq_true_eq, Bool.not_eq_true', decide_eq_false_iff_not, if_true, if_false, cxOf, and_self, Bool.not_true, Bool.not_false, Bool.false_eq_true,
  sf_signs, sf_spot, sf_put, T.cl_Source, T.na_Source_signs, T.na_Source_spot, sg_inj, upd_same, rIsS, tyN, kb1, kb2, kb3, kb4, kb5, kb6, kb7, kb8, kb9, kb10, kb11, kb12, kb13, kb14, kb15, kb16, kb17, kb18, kb19, kb20, kb21, tDNewK, rPowW])
theorem replL_dbl : ∀ l : Tx, PySem.StrLaws.replL [34] [34, 34] l = dblQ l
  | [] => by rw [PySem.StrLaws.replL_nil]; rfl
  | c :: r => by
    by_cases h : c = 34
    · subst h
      rw [PySem.StrLaws.replL_hit (by simp) (by simp)]
      show 34 :: 34 :: PySem.StrLaws.replL [34] [34, 34] r = _
      rw [replL_dbl r]
      simp [dblQ]
    · rw [PySem.StrLaws.replL_miss (by simpa using h), replL_dbl r]
      simp [dblQ, h]
theorem st_eq {a b : Tx} : (St a = St b) = (a = b) := by rw [eq_iff_iff]; exact ⟨st_inj, fun h => by rw [h]⟩
theorem z_eq {z : Str} {b : Tx} : (z = St b) = (tl z = b) := by rw [eq_iff_iff]; exact ⟨fun h => by subst h; rfl, fun h => by rw [← st_tl z, h]⟩
theorem cutS_hd {z : Str} : cutS z none (some 1) = St ((tl z).take 1) := by
  have e := cutS_one (z := z) (i := 0) (Nat.zero_le _)
  have e2 : cutS z (some ((0 : Nat) : Int)) (some (((0 : Nat) : Int) + 1)) = cutS z none (some 1) := rfl
  rw [← e2, e]
  rfl
theorem cutS_tl {z : Str} : cutS z (some 1) none = St ((tl z).drop 1) := by
  unfold cutS
  have e1 : HT.sIx z.length 0 (some (1 : Int)) = min 1 z.length := HT.sIx_nat _ _ 1
  have e2 : HT.sIx z.length z.length none = z.length := rfl
  rw [e1, e2]
  show St _ = _
  congr 1
  cases h : tl z with
  | nil =>
    have : z.cps.toList = [] := h
    rw [this]
    simp
  | cons c r =>
    have h1 : z.length = r.length + 1 := by rw [← tl_len, h]; rfl
    have : z.cps.toList = c :: r := h
    rw [this, h1, show min 1 (r.length + 1) = 1 by omega]
    simp
theorem sc_dash : Str.ofString "-" = St [45] := by decide +kernel
theorem sc_zero : Str.ofString "0" = St [48] := by decide +kernel
theorem sc_emp : Str.ofString "" = St [] := by decide +kernel
theorem sc_q : Str.ofString "\"" = St [34] := by decide +kernel
theorem sc_qq : Str.ofString "\"\"" = St [34, 34] := by decide +kernel
theorem sg_st {c : Nat} : (⟨#[c]⟩ : Str) = St [c] := rfl
theorem dblQ_len : ∀ l : Tx, (dblQ l).length ≤ 2 * l.length
  | [] => Nat.le_refl _
  | c :: r => by
    have := dblQ_len r
    unfold dblQ
    split <;> simp <;> omega
theorem repl_q (z : Str) : Txt.replace z (St [34]) (St [34, 34]) = St (dblQ (tl z)) := by
  apply tl_inj
  show (Txt.replace z (St [34]) (St [34, 34])).cps.toList = _
  rw [PySem.StrLaws.replace_list (by decide)]
  exact replL_dbl (tl z)
section
variable {P : Program} {w : World} {K : PySem.W.Frag} {mg : Str → Option Value} {base : Heap}
/-- a while loop by a word -/
theorem while_w {c : TT} {tb : TS} {D : Ends} {σ : SS} {H : Hp} (W : Nat → SS → Hp → Prop) (m0 : Nat) (h0 : W m0 σ H) (hs : ∀ m σ H, W m σ H → c σ H fun b H1 => if b = true then ∃ N : SS → Hp → Prop, (∀ σ' H', N σ' H' → ∃ m', m' < m ∧ W m' σ' H') ∧ tb { D with nx := N, ct := N, bk := D.nx } σ H1 else D.nx σ H1) : tWhile c tb D σ H := ⟨W, ⟨m0, h0⟩, hs⟩
def spAhead : Sp := fun vs H Q _ => ∃ z y, vs = [.str z, .str y] ∧ z.length ≤ 5000000 ∧ Q (.int ((tl z).takeWhile fun c => decide (c ∈ tl y)).length) H
theorem sc_signs_ahead : FnScope ["worth", "some", "many"] ["worth", "some"] (defScope s_signs_ahead) := ⟨rfl, rfl, rfl, by decide +kernel, rfl, by decide +kernel, by decide +kernel⟩
theorem ok_signs_ahead (T : Hd w K mg)  : Dn P w K mg base 1 "signs_ahead" (spAhead) := by
  obtain ⟨fd, F⟩ := T.fn_signs_ahead
  refine dn_mk F T.g_signs_ahead (F.binds (ps := ["worth", "some"]) fun _ _ _ _ _ _ us hl => match us, hl with | [_, _], _ => rfl) sc_signs_ahead (fun vs H Q E h => ?_) (fun cdv A outer s H vs Q E hr tk h => ?_)
  · obtain ⟨z, y, rfl, hz, q⟩ := h
    rfl
  obtain ⟨z, y, rfl, hz, q⟩ := h
  refine ⟨_, (pss_cons (ps_set (i := 2) sc_signs_ahead.nd rfl (by first | exact Or.inl rfl | exact Or.inr rfl) pe_int) (pss_cons (ps_while (passes_of rfl) (PW.pt (pw_and (pt_cmpR op_lt (pv 2) (pe_callB call_len (by rfl) T.f_len (by decide +kernel) (pa_cons (pv 0) pa_nil)) (nomark _)) (pw_and1 (pt_cmpR op_in_sign (pe_ix ix_str (pv 0) (pv 2) (fun _ _ => rfl)) (pv 1) rfl)))) (pss_one (ps_aug (i := 2) sc_signs_ahead.nd rfl (by first | exact Or.inl rfl | exact Or.inr rfl) pe_int ip_plus))) (pss_one (ps_ret (pv 2))))), ?_⟩
  walk_at "rd"
  refine while_w (fun m σ H' => ∃ j, j ≤ z.length ∧ σ = [some (.str z), some (.str y), some (.int (j : Int))] ∧ H' = H ∧ (tl z).takeWhile (fun c => decide (c ∈ tl y)) = (tl z).take j ++ (rem z j).takeWhile (fun c => decide (c ∈ tl y)) ∧ m = z.length - j) z.length ⟨0, Nat.zero_le _, rfl, rfl, rfl, rfl⟩ ?_
  rintro m σ H1 ⟨j, h1, rfl, rfl, e, rfl⟩
  walk_at "rd"
  refine ⟨Nat.le_trans hz big1, ?_⟩
  have done : (rem z j).takeWhile (fun c => decide (c ∈ tl y)) = [] → Q (V.int (j : Int)) H1 := fun e2 => by
    rw [e, e2, List.append_nil, List.length_take, tl_len, Nat.min_eq_left h1] at q
    exact q
  by_cases hj : j < z.length
  · rw [if_pos (by omega)]
    obtain ⟨c, hc⟩ := rem_cons hj
    refine ⟨Nat.le_trans hz big1, c, atI_nat (rem_at hc), ?_⟩
    by_cases hm : c ∈ y.cps.toList
    · rw [if_pos hm]
      refine ⟨fun σ' H' => σ' = [some (.str z), some (.str y), some (.int ((j + 1 : Nat) : Int))] ∧ H' = H1, fun σ' H' h => ?_, rfl, rfl⟩
      obtain ⟨rfl, rfl⟩ := h
      refine ⟨z.length - (j + 1), by omega, j + 1, hj, rfl, rfl, ?_, rfl⟩
      have tm := take_more (z := z) (i := 0) (Nat.zero_le j) hc
      rw [e, hc, List.takeWhile_cons, if_pos (show decide (c ∈ tl y) = true from decide_eq_true hm)]
      rw [show j - 0 = j by omega, show j + 1 - 0 = j + 1 by omega] at tm
      have e0 : rem z 0 = tl z := rfl
      rw [e0] at tm
      rw [← tm, List.append_assoc]
      rfl
    · rw [if_neg hm]
      refine done ?_
      rw [hc, List.takeWhile_cons, if_neg]
      exact fun h => hm (of_decide_eq_true h)
  · rw [if_neg (by omega)]
    refine done ?_
    rw [rem_nil (by omega)]
    rfl
def spNumT : Sp := fun vs H Q _ => ∃ z, vs = [.str z] ∧ z.length ≤ 5000000 ∧ Q (.bl (isNumT (tl z))) H
/-- behind the sign ahead -/
theorem numT_of {z f : Str} (hf : tl f = figsOf (tl z)) (hz : f.length ≤ 5000000) {H : Hp} {Q : VK} {E : XK} (q : Q (V.bl (isNumT (tl z))) H) (R : VK)
    (hR : ∀ n : Int, R (.int n) H ↔ (f.length ≤ sizeLine ∧ if n < (f.length : Int) then Q (V.bl false) H else if z = Str.ofString "0" then Q (V.bl true) H else f.length ≤ sizeLine ∧ ∃ x, atI f.cps.toList 0 = some x ∧ Q (V.bl !decide ((⟨#[x]⟩ : Str) = Str.ofString "0")) H)) :
    if f = Str.ofString "" then Q (V.bl false) H else spAhead [V.str f, V.str (Str.ofString "0123456789")] H R E := by
  have hb := Nat.le_trans hz big1
  have es : (f = Str.ofString "") = (tl f = []) := by rw [sc_emp, z_eq]
  have ez : (z = Str.ofString "0") = (tl z = [48]) := by rw [sc_zero, z_eq]
  simp only [es]
  unfold isNumT at q
  rw [← hf] at q
  by_cases h0 : tl f = []
  · rw [if_pos h0]
    rw [if_pos (.inl h0)] at q
    exact q
  rw [if_neg h0]
  refine ⟨f, _, rfl, hz, ?_⟩
  rw [hR]
  refine ⟨hb, ?_⟩
  have ef : (fun c => decide (c ∈ tl (Str.ofString "0123456789"))) = isFig := rfl
  rw [ef, ← tl_len f]
  by_cases h1 : ((tl f).takeWhile isFig).length < (tl f).length
  · rw [if_pos (by omega)]
    rw [if_pos (.inr h1)] at q
    exact q
  rw [if_neg (by omega)]
  rw [if_neg (by rintro (h | h) <;> contradiction)] at q
  simp only [ez]
  by_cases h2 : tl z = [48]
  · rw [if_pos h2]
    rw [decide_eq_true h2, Bool.true_or] at q
    exact q
  rw [if_neg h2]
  rw [decide_eq_false h2, Bool.false_or] at q
  refine ⟨by rw [tl_len]; exact hb, ?_⟩
  cases hc : tl f with
  | nil => exact absurd hc h0
  | cons c r =>
    have ea : atI f.cps.toList 0 = some c := atI_nat (j := 0) (by show (tl f)[0]? = some c; rw [hc]; rfl)
    refine ⟨c, ea, ?_⟩
    rw [hc] at q
    have e : (!decide ((⟨#[c]⟩ : Str) = Str.ofString "0")) = decide (List.take 1 (c :: r) ≠ [48]) := by
      rw [sc_zero, sg_st, ← decide_not, decide_eq_decide, st_eq]
      rfl
    rw [e]
    exact q
theorem sc_is_number_text : FnScope ["worth", "figures"] ["worth"] (defScope s_is_number_text) := ⟨rfl, rfl, rfl, by decide +kernel, rfl, by decide +kernel, by decide +kernel⟩
theorem ok_is_number_text (T : Hd w K mg) (D_signs_ahead : Dn P w K mg base 1 "signs_ahead" spAhead) : Dn P w K mg base 2 "is_number_text" (spNumT) := by
  obtain ⟨fd, F⟩ := T.fn_is_number_text
  refine dn_mk F T.g_is_number_text (F.binds (ps := ["worth"]) fun _ _ _ _ _ _ us hl => match us, hl with | [_], _ => rfl) sc_is_number_text (fun vs H Q E h => ?_) (fun cdv A outer s H vs Q E hr tk h => ?_)
  · obtain ⟨z, rfl, hz, q⟩ := h
    rfl
  obtain ⟨z, rfl, hz, q⟩ := h
  refine ⟨_, (pss_cons (ps_set (i := 1) sc_is_number_text.nd rfl (by first | exact Or.inl rfl | exact Or.inr rfl) (pe_ifExp (pt_cmpR op_eq (pe_slice sl_str (pv 0) po_none (po_some pe_int)) pe_str (nomark _)) (pe_slice sl_str (pv 0) (po_some pe_int) po_none) (pv 0))) (pss_cons (ps_if (PW.pt (pw_or (pt_cmpR op_eq (pv 1) pe_str (nomark _)) (pw_or1 (pt_cmpR op_lt (pe_d D_signs_ahead hr (by first | decide | omega) (fun σ => L2N.passAt tk σ) (by rfl) (pa_cons (pv 1) (pa_cons (C8.pe_gc (by rfl) T.c_FIGURES) pa_nil))) (pe_callB call_len (by rfl) T.f_len (by decide +kernel) (pa_cons (pv 1) pa_nil)) (nomark _))))) (pss_one (ps_ret pe_bl)) pss_nil) (pss_one (ps_ret (pe_or (pe_cmpR op_eq (pv 0) pe_str (nomark _)) (pe_one (pe_cmpR op_ne (pe_ix ix_str (pv 1) pe_int (fun _ _ => rfl)) pe_str (nomark _)))))))), ?_⟩
  walk_at "rd"
  refine ⟨Nat.le_trans hz big1, ?_⟩
  simp only [cutS_hd, sc_dash, st_eq]
  by_cases h : (tl z).take 1 = [45]
  · rw [if_pos h]
    refine ⟨Nat.le_trans hz big1, ?_⟩
    have hl : (cutS z (some 1) none).length ≤ z.length := cutS_length _ _ _
    refine numT_of (z := z) ?_ (Nat.le_trans hl hz) q _ (fun n => ?_)
    · rw [cutS_tl]
      show (tl z).drop 1 = figsOf (tl z)
      unfold figsOf
      rw [if_pos h]
    · walk_at "rd"
  · rw [if_neg h]
    refine numT_of (z := z) ?_ hz q _ (fun n => ?_)
    · unfold figsOf
      rw [if_neg h]
    · walk_at "rd"
def spQuoted : Sp := fun vs H Q _ => ∃ z, vs = [.str z] ∧ z.length ≤ 5000000 ∧ Q (.str (St (quotedW (tl z)))) H
theorem sc_quoted : FnScope ["worth"] ["worth"] (defScope s_quoted) := ⟨rfl, rfl, rfl, by decide +kernel, rfl, by decide +kernel, by decide +kernel⟩
theorem ok_quoted (T : Hd w K mg)  : Dn P w K mg base 1 "quoted" (spQuoted) := by
  obtain ⟨fd, F⟩ := T.fn_quoted
  refine dn_mk F T.g_quoted (F.binds (ps := ["worth"]) fun _ _ _ _ _ _ us hl => match us, hl with | [_], _ => rfl) sc_quoted (fun vs H Q E h => ?_) (fun cdv A outer s H vs Q E hr tk h => ?_)
  · obtain ⟨z, rfl, hz, q⟩ := h
    rfl
  obtain ⟨z, rfl, hz, q⟩ := h
  refine ⟨_, (pss_one (ps_ret (pe_op op_plus (pe_strT op_plus (CwR.pet_replC (pv 0))) pe_str))), ?_⟩
  walk_at "rd"
  rw [sc_q, sc_qq, repl_q, st_app, st_app]
  have h1 := dblQ_len (tl z)
  rw [tl_len] at h1
  have hs := sizeLine_eq
  have e1 : (St [34, 34]).length = 2 := rfl
  have e2 : (St [34]).length = 1 := rfl
  refine ⟨by rw [e1]; omega, by rw [e2, ← tl_len, tl_st]; omega, ?_, ?_⟩
  · rw [e2, ← tl_len, tl_st, List.length_append]
    simp
    omega
  · exact q
def spShownW : Sp := fun vs H Q _ => ∃ z, vs = [.str z] ∧ z.length ≤ 5000000 ∧ Q (.str (St (shownW (tl z)))) H
theorem sc_shown_worth : FnScope ["worth"] ["worth"] (defScope s_shown_worth) := ⟨rfl, rfl, rfl, by decide +kernel, rfl, by decide +kernel, by decide +kernel⟩
theorem ok_shown_worth (T : Hd w K mg) (D_is_number_text : Dn P w K mg base 2 "is_number_text" spNumT) (D_quoted : Dn P w K mg base 1 "quoted" spQuoted) : Dn P w K mg base 3 "shown_worth" (spShownW) := by
  obtain ⟨fd, F⟩ := T.fn_shown_worth
  refine dn_mk F T.g_shown_worth (F.binds (ps := ["worth"]) fun _ _ _ _ _ _ us hl => match us, hl with | [_], _ => rfl) sc_shown_worth (fun vs H Q E h => ?_) (fun cdv A outer s H vs Q E hr tk h => ?_)
  · obtain ⟨z, rfl, hz, q⟩ := h
    rfl
  obtain ⟨z, rfl, hz, q⟩ := h
  refine ⟨_, (pss_cons (ps_if (PW.pt (pw_and (pt_val (pe_d D_is_number_text hr (by first | decide | omega) (fun σ => L2N.passAt tk σ) (by rfl) (pa_cons (pv 0) pa_nil))) (pw_and1 (pt_cmpR op_ne (pe_ix ix_seq (pv 0) pe_int (fun _ _ => rfl)) pe_str (nomark _))))) (pss_one (ps_ret (pv 0))) pss_nil) (pss_one (ps_ret (pe_d D_quoted hr (by first | decide | omega) (fun σ => L2N.passAt tk σ) (by rfl) (pa_cons (pv 0) pa_nil))))), ?_⟩
  walk_at "rd"
  refine ⟨z, rfl, hz, _, rfl, ?_⟩
  unfold shownW at q
  cases h : isNumT (tl z) with
  | false =>
    rw [h, Bool.false_and] at q
    exact iteF ⟨z, rfl, hz, q⟩
  | true =>
    rw [h, Bool.true_and] at q
    refine iteT ⟨Nat.le_trans hz big1, ?_⟩
    cases hc : tl z with
    | nil =>
      exfalso
      rw [hc] at h
      revert h
      decide +kernel
    | cons c r =>
      refine ⟨c, atI_nat (j := 0) (by show (tl z)[0]? = some c; rw [hc]; rfl), ?_⟩
      simp only [sc_dash, sg_st, st_eq]
      by_cases h2 : c = 45
      · subst h2
        rw [if_neg (by simp)]
        rw [hc, if_neg (by simp), ← hc] at q
        exact ⟨z, rfl, hz, q⟩
      · rw [if_pos (by simpa using h2)]
        rw [hc, if_pos (by simpa using h2), ← hc] at q
        exact q
end
end Sk

/-! ## C3 -/
namespace Sk
open PySem PySem.Spec PyProof.Rows L2
set_option hygiene false in
local macro_rules | `(tactic| walk_at "rd") => `(tactic| simp only [tVar, tC, tB, tAnd, tOr, tNot, tAndV, tOrV, tNotV, tIf, tNext, tSeq, tBreak, tCont, tDrop, tRet, tRetN, tIfS, tAsg, tAug, tOp, tUn, tTest, tChain, tFld, sFldAug, sFld, rAdd, tNil, tCons, tTup, tLst, tCB, tNoPart, tPart, tSl, tBM0, tBM, tYes, tM0, tM1, CwR.tReplC, tCallS, tMethS, tMakeS, gName, wipe, tyV, gTup, gCons, gNil,
  rI, rI0, rEq, rNe, scal, rPlus, rPlusI, rPlusS, rCat, rCatA, rIx, rIxL, rIxT, rIxS, rSl, rSlS, rSlL, rSlA, iPlus, iPlusI, iPlusS, ipI, rAll, rAny, LenV, WE, E0, rAppend,
  L2.start, List.map_cons, List.map_nil, List.length_cons, List.length_nil, Nat.zero_add, Nat.add_zero, Nat.reduceAdd, Nat.reduceSub, Nat.sub_self, List.replicate_zero, List.replicate_succ, List.append_nil, List.nil_append, List.cons_append, List.getElem?_cons_zero, List.getElem?_cons_succ, List.set_cons_zero, List.set_cons_succ, Option.some.injEq,
  V.int.injEq, V.str.injEq, V.bl.injEq, V.ref.injEq, V.ty.injEq, HO.ins.injEq, HO.lst.injEq, HO.tup.injEq, List.cons.injEq, reduceCtorEq, false_and, and_false, true_and, and_true, and_assoc, exists_const, exists_false, false_or, or_false, exists_eq_left', exists_eq_left, exists_eq_right, exists_eq_right', exists_and_left, ↓reduceIte, decide_eq_true_eq, Bool.not_eq_true', decide_eq_false_iff_not, if_true, if_false, cxOf, and_self, Bool.not_true, Bool.not_false, Bool.false_eq_true,
  sf_signs, sf_spot, sf_put, T.cl_Source, T.na_Source_signs, T.na_Source_spot, sg_inj, upd_same, rIsS, tyN, kb1, kb2, kb3, kb4, kb5, kb6, kb7, kb8, kb9, kb10, kb11, kb12, kb13, kb14, kb15, kb16, kb17, kb18, kb19, kb20, kb21, tDNewK, rPowW])
theorem getD_rem {z : Str} {v : Nat} (h : v < z.length) : rem z v = z.cps.getD v 0 :: rem z (v + 1) := by
  obtain ⟨c, hc⟩ := rem_cons h
  have e := PySem.StrLaws.getD_of_getElem? (x := z) (rem_at hc)
  rw [e, hc]
theorem find3q {z : Str} {j : Nat} (hj : j ≤ z.length) : (Txt.find3 z (St [34]) (j : Int) = -1 ∧ 34 ∉ rem z j) ∨
    ∃ k : Nat, Txt.find3 z (St [34]) (j : Int) = (k : Int) ∧ j ≤ k ∧ k < z.length ∧ rem z j = (rem z j).take (k - j) ++ 34 :: rem z (k + 1) ∧ 34 ∉ (rem z j).take (k - j) := by
  rcases PySem.StrLaws.find3_spec z 34 (j : Int) with ⟨h1, h2⟩ | ⟨k, h1, h2, h3, h4, h5⟩
  · refine .inl ⟨h1, fun hm => ?_⟩
    obtain ⟨n, hn, e⟩ := List.mem_iff_getElem.mp hm
    rw [rem_len] at hn
    rw [fromIndex_nat hj] at h2
    refine h2 (j + n) (by omega) (by omega) ?_
    have e2 : (rem z j)[n]? = some 34 := by rw [List.getElem?_eq_getElem (by rw [rem_len]; exact hn), e]
    rw [rem, List.getElem?_drop] at e2
    exact PySem.StrLaws.getD_of_getElem? e2
  · rw [fromIndex_nat hj] at h2 h5
    refine .inr ⟨k, h1, h2, h3, ?_, fun hm => ?_⟩
    · have e1 : (rem z j).drop (k - j) = rem z k := by rw [rem, rem, List.drop_drop]; congr 1; omega
      have e2 := List.take_append_drop (k - j) (rem z j)
      rw [e1, getD_rem h3, h4] at e2
      exact e2.symm
    · obtain ⟨n, hn, e⟩ := List.mem_iff_getElem.mp hm
      rw [List.length_take, rem_len] at hn
      refine h5 (j + n) (by omega) (by omega) ?_
      rw [List.getElem_take] at e
      have e2 : (rem z j)[n]? = some 34 := by rw [List.getElem?_eq_getElem (by rw [rem_len]; omega), e]
      rw [rem, List.getElem?_drop] at e2
      exact PySem.StrLaws.getD_of_getElem? e2
theorem qBody_none : ∀ {l : Tx}, 34 ∉ l → qBody l = none
  | [], _ => by rw [qBody]
  | c :: r, h => by
    have h1 : c ≠ 34 := fun e => h (by rw [e]; exact List.mem_cons_self)
    rw [qBody.eq_def]
    simp only
    rw [if_neg h1, qBody_none fun m => h (List.mem_cons_of_mem _ m)]
    rfl
theorem qBody_app : ∀ {a : Tx} (l : Tx), 34 ∉ a → qBody (a ++ l) = (qBody l).map fun p => (a ++ p.1, p.2)
  | [], l, _ => by simp
  | c :: r, l, h => by
    have h1 : c ≠ 34 := fun e => h (by rw [e]; exact List.mem_cons_self)
    rw [List.cons_append, qBody.eq_def]
    simp only
    rw [if_neg h1, qBody_app l fun m => h (List.mem_cons_of_mem _ m), Option.map_map]
    rfl
theorem qBody_q (l : Tx) : qBody (34 :: l) = if l.take 1 = [34] then (qBody (l.drop 1)).map fun p => (34 :: p.1, p.2) else some ([], l) := by
  rw [qBody.eq_def]
  simp only [if_true]
  cases l with
  | nil => rfl
  | cons c r =>
    by_cases h : c = 34
    · subst h
      simp
    · simp [h]
theorem pre_q (l : Tx) : (tl (St [34])).isPrefixOf l = decide (l.take 1 = [34]) := by
  rw [tl_st]
  cases l with
  | nil => rfl
  | cons c r =>
    simp [List.isPrefixOf]
    by_cases h : c = 34
    · subst h
      rfl
    · have : (34 == c) = false := by simpa using fun e => h e.symm
      simp [this, h]
section
variable {P : Program} {w : World} {K : PySem.W.Frag} {mg : Str → Option Value} {base : Heap}
def PQ (K : PySem.W.Frag) {α : Type} (R : Rd1 α) (rep : Hp → V → α → Prop) (p : Addr) (z : Str) (i : Nat) (H : Hp) (Q : VK) (E : XK) : Prop :=
  (∀ a r, R (rem z i) = some (a, r) → ∀ H' v j, But p H H' → SrcAt K H' p z j → i ≤ j → rem z j = r → rep H' v a → Q v H') ∧ (R (rem z i) = none → ∀ H', But p H H' → E (exNT K) none H')
def repT : Hp → V → Tx → Prop := fun _ v a => v = .str (St a)
def spName (K : PySem.W.Frag) : Sp := fun vs H Q E => ∃ p z i, vs = [.ref p] ∧ SrcAt K H p z i ∧ PQ K nameR repT p z i H Q E
theorem rem_drop {z : Str} {i n : Nat} : rem z (i + n) = (rem z i).drop n := by rw [rem, rem, List.drop_drop]
theorem drop_takeW (f : Nat → Bool) : ∀ l : Tx, l.drop (l.takeWhile f).length = l.dropWhile f
  | [] => rfl
  | c :: r => by
    rw [List.takeWhile_cons, List.dropWhile_cons]
    split
    · simp [drop_takeW f r]
    · rfl
theorem sc_name_read : FnScope ["source", "name"] ["source"] (defScope s_name_read) := ⟨rfl, rfl, rfl, by decide +kernel, rfl, by decide +kernel, by decide +kernel⟩
theorem ok_name_read (T : Hd w K mg) (M_Source_run_of : Mt P w K mg base 1 (He.ga K "Source") "run_of" (spRun K)) (D_is_name : Dn P w K mg base 1 "is_name" spIsName) : Dn P w K mg base 3 "name_read" (spName K) := by
  obtain ⟨fd, F⟩ := T.fn_name_read
  refine dn_mk F T.g_name_read (F.binds (ps := ["source"]) fun _ _ _ _ _ _ us hl => match us, hl with | [_], _ => rfl) sc_name_read (fun vs H Q E h => ?_) (fun cdv A outer s H vs Q E hr tk h => ?_)
  · obtain ⟨p, z, i, rfl, hS, q1, q2⟩ := h
    rfl
  obtain ⟨p, z, i, rfl, hS, q1, q2⟩ := h
  refine ⟨_, (pss_cons (ps_set (i := 1) sc_name_read.nd rfl (by first | exact Or.inl rfl | exact Or.inr rfl) (pe_m (pv 0) M_Source_run_of hr (by first | decide | omega) (fun σ => L2N.passAt tk σ) (pa_cons (C8.pe_gc (by rfl) T.c_LETTERS) pa_nil))) (pss_cons (ps_if (pt_not (pt_val (pe_d D_is_name hr (by first | decide | omega) (fun σ => L2N.passAt tk σ) (by rfl) (pa_cons (pv 1) pa_nil)))) (pss_one (L2N.ps_raise rfl tk (L2N.pmk_own PySem.F.excBase_ValueError T.x_NoText T.g_NoText T.k_NoText (raises_own T.b_NoText T.t_NoText) rfl))) pss_nil) (pss_one (ps_ret (pv 1))))), ?_⟩
  obtain ⟨⟨dx, hp⟩, hi, hz⟩ := id hS
  walk_at "rd"
  simp only [hp]
  walk_at "rd"
  have hl : ((rem z i).takeWhile isLet).length ≤ z.length := Nat.le_trans ((List.takeWhile_sublist _).length_le) (by rw [rem_len]; omega)
  refine ⟨sf_no (by decide +kernel) (by decide +kernel), p, z, i, _, rfl, hS, fun H1 hb hS1 => ?_⟩
  have e1 : (fun c => decide (c ∈ tl (Str.ofString "abcdefghijklmnopqrstuvwxyz"))) = isLet := rfl
  rw [e1] at hS1 ⊢
  walk_at "rd"
  refine ⟨_, rfl, ?_, fun H2 s2 => ?_⟩
  · rw [← tl_len, tl_st]
    omega
  rw [tl_st]
  unfold nameR at q1 q2
  walk_at "rd"
  have hb2 := hb.trans (But.of s2)
  cases h : isNameT ((rem z i).takeWhile isLet) with
  | true =>
    rw [if_neg (by decide)]
    rw [if_pos h] at q1
    refine q1 _ _ rfl H2 _ _ hb2 ?_ (Nat.le_add_right _ ((rem z i).takeWhile isLet).length) ?_ rfl
    · obtain ⟨⟨dy, hp2⟩, h3, h4⟩ := hS1
      exact ⟨⟨dy, s2 _ _ hp2⟩, h3, h4⟩
    · rw [rem_drop, drop_takeW]
  | false =>
    rw [if_pos rfl]
    rw [if_neg (by rw [h]; decide)] at q2
    exact q2 rfl H2 hb2
/-- the word of the loop that reads a worth: how far, what is found, whether more comes -/
def QI (K : PySem.W.Frag) (p : Addr) (z : Str) (i : Nat) (H : Hp) (j : Nat) (acc : Tx) (b : Bool) (σ' : SS) (H' : Hp) : Prop :=
  (∃ v, σ' = [some (.ref p), some (.str (St acc)), some (.bl b), v]) ∧ SrcAt K H' p z j ∧ i ≤ j ∧ But p H H' ∧ acc.length + i ≤ j ∧
    (b = true → qBody (rem z (i + 1)) = (qBody (rem z j)).map fun q => (acc ++ q.1, q.2)) ∧ (b = false → qBody (rem z (i + 1)) = some (acc, rem z j))
def QN (K : PySem.W.Frag) (p : Addr) (z : Str) (i : Nat) (H : Hp) (lo : Nat) (σ' : SS) (H' : Hp) : Prop := ∃ (j : Nat) (acc : Tx) (b : Bool), lo < j ∧ QI K p z i H j acc b σ' H'
def QW (K : PySem.W.Frag) (p : Addr) (z : Str) (i : Nat) (H : Hp) (m : Nat) (σ' : SS) (H' : Hp) : Prop := ∃ (j : Nat) (acc : Tx) (b : Bool), QI K p z i H j acc b σ' H' ∧ m = (z.length - j) + (if b = true then 1 else 0)
def spQuR (K : PySem.W.Frag) : Sp := fun vs H Q E => ∃ p z i, vs = [.ref p] ∧ SrcAt K H p z i ∧ PQ K quotedR repT p z i H Q E
theorem sc_quoted_read : FnScope ["source", "found", "more", "end"] ["source"] (defScope s_quoted_read) := ⟨rfl, rfl, rfl, by decide +kernel, rfl, by decide +kernel, by decide +kernel⟩
theorem ok_quoted_read (T : Hd w K mg) (M_Source_goes_past : Mt P w K mg base 3 (He.ga K "Source") "goes_past" (spGo K)) (M_Source_skips : Mt P w K mg base 2 (He.ga K "Source") "skips" (spSk K)) (D_is_worth : Dn P w K mg base 1 "is_worth" spIsWorth) : Dn P w K mg base 4 "quoted_read" (spQuR K) := by
  obtain ⟨fd, F⟩ := T.fn_quoted_read
  refine dn_mk F T.g_quoted_read (F.binds (ps := ["source"]) fun _ _ _ _ _ _ us hl => match us, hl with | [_], _ => rfl) sc_quoted_read (fun vs H Q E h => ?_) (fun cdv A outer s H vs Q E hr tk h => ?_)
  · obtain ⟨p, z, i, rfl, hS, q1, q2⟩ := h
    rfl
  obtain ⟨p, z, i, rfl, hS, q1, q2⟩ := h
  refine ⟨_, (pss_cons (ps_expr (pe_m (pv 0) M_Source_goes_past hr (by first | decide | omega) (fun σ => L2N.passAt tk σ) (pa_cons pe_str pa_nil))) (pss_cons (ps_set (i := 1) sc_quoted_read.nd rfl (by first | exact Or.inl rfl | exact Or.inr rfl) pe_str) (pss_cons (ps_set (i := 2) sc_quoted_read.nd rfl (by first | exact Or.inl rfl | exact Or.inr rfl) pe_bl) (pss_cons (ps_while (passes_of rfl) (pt_val (pv 2)) (pss_cons (ps_set (i := 3) sc_quoted_read.nd rfl (by first | exact Or.inl rfl | exact Or.inr rfl) (pe_bm PySem.F.plainAttrs_str PySem.F.slot_str_find PySem.F.type_str_find mt_find3 (pe_fld (pv 0) rfl) (pa_cons pe_str (pa_cons (pe_fld (pv 0) rfl) pa_nil)))) (pss_cons (ps_if (pt_cmpR op_lt (pv 3) pe_int (nomark _)) (pss_one (L2N.ps_raise rfl tk (L2N.pmk_own PySem.F.excBase_ValueError T.x_NoText T.g_NoText T.k_NoText (raises_own T.b_NoText T.t_NoText) rfl))) pss_nil) (pss_cons (ps_aug (i := 1) sc_quoted_read.nd rfl (by first | exact Or.inl rfl | exact Or.inr rfl) (pe_slice sl_str (pe_fld (pv 0) rfl) (po_some (pe_fld (pv 0) rfl)) (po_some (pv 3))) ip_plusS1) (pss_cons (ps_fld (pv 0) (pe_op op_add (pv 3) pe_int) rfl) (pss_cons (ps_set (i := 2) sc_quoted_read.nd rfl (by first | exact Or.inl rfl | exact Or.inr rfl) (pe_m (pv 0) M_Source_skips hr (by first | decide | omega) (fun σ => L2N.passAt tk σ) (pa_cons pe_str pa_nil))) (pss_one (ps_aug (i := 1) sc_quoted_read.nd rfl (by first | exact Or.inl rfl | exact Or.inr rfl) (pe_ifExp (pt_val (pv 2)) pe_str pe_str) ip_plusS1)))))))) (pss_cons (ps_if (pt_not (pt_val (pe_d D_is_worth hr (by first | decide | omega) (fun σ => L2N.passAt tk σ) (by rfl) (pa_cons (pv 1) pa_nil)))) (pss_one (L2N.ps_raise rfl tk (L2N.pmk_own PySem.F.excBase_ValueError T.x_NoText T.g_NoText T.k_NoText (raises_own T.b_NoText T.t_NoText) rfl))) pss_nil) (pss_one (ps_ret (pv 1)))))))), ?_⟩
  obtain ⟨⟨dx, hp⟩, hi, hz⟩ := id hS
  walk_at "rd"
  simp only [hp]
  walk_at "rd"
  refine ⟨sf_no (by decide +kernel) (by decide +kernel), p, z, i, _, rfl, hS, fun c => ?_, fun c H1 hb hS1 => ?_⟩
  · rw [sc_q, pre_q] at c
    have c := of_decide_eq_false c
    walk_at "rd"
    refine q2 ?_ H But.refl
    unfold quotedR
    cases hr : rem z i with
    | nil => rfl
    | cons d r =>
      rw [hr] at c
      simp only
      rw [if_neg (by simpa using c)]
  rw [sc_q, pre_q] at c
  have c := of_decide_eq_true c
  have e0 : (Str.ofString "\"").length = 1 := by decide +kernel
  rw [e0] at hS1
  have hr : rem z i = 34 :: rem z (i + 1) := by
    cases hr : rem z i with
    | nil => rw [hr] at c; cases c
    | cons d r =>
      rw [hr] at c
      have h3 : d = 34 := by simpa using c
      have h4 : rem z (i + 1) = r := by rw [rem_drop, hr]; rfl
      rw [h3, h4]
  have hq : quotedR (rem z i) = (match qBody (rem z (i + 1)) with
    | some p => if isWorthT p.1 then some p else none
    | none => none) := by rw [hr]; rfl
  refine while_w (QW K p z i H) _ ⟨i + 1, [], true, ⟨⟨none, rfl⟩, hS1, by omega, hb, by simp, fun _ => by simp, fun h => (by cases h)⟩, rfl⟩ ?_
  rintro m σ H2 ⟨j, acc, b, ⟨⟨v, rfl⟩, hS2, hij, hb2, hl, k1, k2⟩, rfl⟩
  walk_at "rd"
  cases b with
  | false =>
    rw [if_neg (by decide)]
    have k3 := k2 rfl
    rw [k3] at hq
    have hj := hS2.2.1
    refine ⟨_, rfl, by rw [← tl_len, tl_st]; omega, fun H3 s3 => ?_⟩
    rw [tl_st]
    walk_at "rd"
    have hb3 := hb2.trans (But.of s3)
    cases h : isWorthT acc with
    | true =>
      rw [if_neg (by decide)]
      simp only [h, if_true] at hq
      refine q1 _ _ hq H3 _ j hb3 ?_ hij rfl rfl
      obtain ⟨⟨dy, hp2⟩, h3, h4⟩ := hS2
      exact ⟨⟨dy, s3 _ _ hp2⟩, h3, h4⟩
    | false =>
      rw [if_pos rfl]
      simp only [h] at hq
      exact q2 hq H3 hb3
  | true =>
    rw [if_pos rfl]
    have k3 := k1 rfl
    obtain ⟨⟨dy, hp2⟩, hj, _⟩ := id hS2
    simp only [hp2]
    walk_at "rd"
    refine ⟨QN K p z i H j, fun σ' H' h => ?_, ?_⟩
    · obtain ⟨j', acc', b', hjj, hq'⟩ := h
      have := hq'.2.1.2.1
      exact ⟨_, by split <;> omega, j', acc', b', hq', rfl⟩
    rw [sc_q]
    rcases find3q hj with ⟨f1, f2⟩ | ⟨k, f1, f2, f3, f4, f5⟩
    · rw [f1, if_pos (by decide)]
      rw [qBody_none f2] at k3
      rw [k3] at hq
      exact q2 hq H2 hb2
    · rw [f1, if_neg (by omega)]
      have ek : qBody (rem z j) = _ := congrArg qBody f4
      rw [qBody_app _ f5, qBody_q] at ek
      have hlk : ((rem z j).take (k - j)).length = k - j := by rw [List.length_take, rem_len]; omega
      refine ⟨Nat.le_trans hz big1, ?_, by show 2 < 1000; decide, ?_⟩
      · rw [cutS_mid f2 (by omega), ← tl_len, ← tl_len, tl_st, tl_st, hlk, sizeLine_eq]
        omega
      rw [sf_put _ _ _ (by omega), cutS_mid f2 (by omega), st_app]
      have hS3 : SrcAt K (upd H2 p (.ins (He.ga K "Source") dy (sflds z (k + 1)))) p z (k + 1) := ⟨⟨dy, upd_same⟩, by omega, hz⟩
      have ekk : ((k : Int) + 1).toNat = k + 1 := by omega
      rw [ekk]
      have hb3 := hb2.trans (But.upd1 (o := .ins (He.ga K "Source") dy (sflds z (k + 1))))
      refine ⟨sf_no (by decide +kernel) (by decide +kernel), p, z, k + 1, _, rfl, hS3, fun c => ?_, fun c H3 hb4 hS4 => ?_⟩
      · rw [pre_q] at c
        have c := of_decide_eq_false c
        rw [if_neg c] at ek
        walk_at "rd"
        refine ⟨?_, k + 1, acc ++ (rem z j).take (k - j), false, by omega, ⟨some (.int (k : Int)), ?_⟩, hS3, by omega, hb3, ?_, fun h => (by cases h), fun _ => ?_⟩
        · rw [← tl_len, tl_st, List.length_append, hlk, sc_emp, ← tl_len, tl_st, sizeLine_eq]
          simp
          omega
        · rw [sc_emp, st_app, List.append_nil]
        · simp [hlk]
          omega
        · rw [k3, ek]
          simp
      · rw [pre_q] at c
        have c := of_decide_eq_true c
        rw [if_pos c] at ek
        have ed : (rem z (k + 1)).drop 1 = rem z (k + 2) := by rw [← rem_drop]
        rw [ed] at ek
        have hS4' : SrcAt K H3 p z (k + 2) := hS4
        walk_at "rd"
        refine ⟨?_, k + 2, (acc ++ (rem z j).take (k - j)) ++ [34], true, by omega, ⟨some (.int (k : Int)), ?_⟩, hS4', by omega, hb3.trans hb4, ?_, fun _ => ?_, fun h => (by cases h)⟩
        · rw [← tl_len, tl_st, List.length_append, hlk, ← tl_len, tl_st, sizeLine_eq]
          simp
          omega
        · rw [st_app]
        · simp [hlk]
          omega
        · rw [k3, ek]
          cases qBody (rem z (k + 2)) with
          | none => rfl
          | some q => simp
def spWoR (K : PySem.W.Frag) : Sp := fun vs H Q E => ∃ p z i, vs = [.ref p] ∧ SrcAt K H p z i ∧ PQ K worthR repT p z i H Q E
theorem takeW_le {z : Str} {i : Nat} (f : Nat → Bool) : ((rem z i).takeWhile f).length ≤ z.length := Nat.le_trans (List.takeWhile_sublist _).length_le (by rw [rem_len]; omega)
theorem qBody_len : ∀ (n : Nat) (l : Tx) (a r : Tx), l.length ≤ n → qBody l = some (a, r) → a.length + r.length ≤ l.length
  | 0, [], a, r, _, h => by rw [qBody] at h; cases h
  | n + 1, [], a, r, _, h => by rw [qBody] at h; cases h
  | 0, c :: l, a, r, hn, h => by simp at hn
  | n + 1, c :: l, a, r, hn, h => by
    have hn' : l.length ≤ n := by simpa using hn
    by_cases hc : c = 34
    · subst hc
      rw [qBody_q] at h
      split at h
      · cases hq : qBody (l.drop 1) with
        | none => rw [hq] at h; cases h
        | some q =>
          rw [hq] at h
          injection h with h
          injection h with h1 h2
          subst h1 h2
          have := qBody_len n (l.drop 1) q.1 q.2 (by simp; omega) hq
          simp at this ⊢
          rename_i hl
          cases l with
          | nil => cases hl
          | cons d l => simp at this ⊢; omega
      · injection h with h
        injection h with h1 h2
        subst h1 h2
        simp
    · rw [qBody.eq_def] at h
      simp only at h
      rw [if_neg hc] at h
      cases hq : qBody l with
      | none => rw [hq] at h; cases h
      | some q =>
        rw [hq] at h
        injection h with h
        injection h with h1 h2
        subst h1 h2
        have := qBody_len n l q.1 q.2 hn' hq
        simp at this ⊢
        omega
theorem quotedR_len {l a r : Tx} (h : quotedR l = some (a, r)) : a.length + r.length + 1 ≤ l.length := by
  unfold quotedR at h
  cases l with
  | nil => cases h
  | cons c l =>
    simp only at h
    split at h
    · cases hq : qBody l with
      | none => rw [hq] at h; cases h
      | some q =>
        rw [hq] at h
        simp only at h
        split at h
        · injection h with h
          subst h
          have := qBody_len l.length l _ _ (Nat.le_refl _) hq
          simp
          omega
        · cases h
    · cases h
theorem sc_worth_read : FnScope ["source", "worth"] ["source"] (defScope s_worth_read) := ⟨rfl, rfl, rfl, by decide +kernel, rfl, by decide +kernel, by decide +kernel⟩
theorem ok_worth_read (T : Hd w K mg) (M_Source_comes_next : Mt P w K mg base 1 (He.ga K "Source") "comes_next" (spCN K)) (M_Source_run_of : Mt P w K mg base 1 (He.ga K "Source") "run_of" (spRun K)) (D_quoted_read : Dn P w K mg base 4 "quoted_read" (spQuR K)) (D_shown_worth : Dn P w K mg base 3 "shown_worth" spShownW) (D_is_number_text : Dn P w K mg base 2 "is_number_text" spNumT) : Dn P w K mg base 5 "worth_read" (spWoR K) := by
  obtain ⟨fd, F⟩ := T.fn_worth_read
  refine dn_mk F T.g_worth_read (F.binds (ps := ["source"]) fun _ _ _ _ _ _ us hl => match us, hl with | [_], _ => rfl) sc_worth_read (fun vs H Q E h => ?_) (fun cdv A outer s H vs Q E hr tk h => ?_)
  · obtain ⟨p, z, i, rfl, hS, q1, q2⟩ := h
    rfl
  obtain ⟨p, z, i, rfl, hS, q1, q2⟩ := h
  refine ⟨_, (pss_cons (ps_if (pt_val (pe_m (pv 0) M_Source_comes_next hr (by first | decide | omega) (fun σ => L2N.passAt tk σ) (pa_cons pe_str pa_nil))) (pss_cons (ps_set (i := 1) sc_worth_read.nd rfl (by first | exact Or.inl rfl | exact Or.inr rfl) (pe_d D_quoted_read hr (by first | decide | omega) (fun σ => L2N.passAt tk σ) (by rfl) (pa_cons (pv 0) pa_nil))) (pss_cons (ps_if (pt_cmpR op_eq (pe_d D_shown_worth hr (by first | decide | omega) (fun σ => L2N.passAt tk σ) (by rfl) (pa_cons (pv 1) pa_nil)) (pv 1) (nomark _)) (pss_one (L2N.ps_raise rfl tk (L2N.pmk_own PySem.F.excBase_ValueError T.x_NoText T.g_NoText T.k_NoText (raises_own T.b_NoText T.t_NoText) rfl))) pss_nil) (pss_one (ps_ret (pv 1))))) pss_nil) (pss_cons (ps_set (i := 1) sc_worth_read.nd rfl (by first | exact Or.inl rfl | exact Or.inr rfl) (pe_m (pv 0) M_Source_run_of hr (by first | decide | omega) (fun σ => L2N.passAt tk σ) (pa_cons (C8.pe_gc (by rfl) T.c_FIGURES) pa_nil))) (pss_cons (ps_if (pt_not (pt_val (pe_d D_is_number_text hr (by first | decide | omega) (fun σ => L2N.passAt tk σ) (by rfl) (pa_cons (pv 1) pa_nil)))) (pss_one (L2N.ps_raise rfl tk (L2N.pmk_own PySem.F.excBase_ValueError T.x_NoText T.g_NoText T.k_NoText (raises_own T.b_NoText T.t_NoText) rfl))) pss_nil) (pss_one (ps_ret (pv 1)))))), ?_⟩
  obtain ⟨⟨dx, hp⟩, hi, hz⟩ := id hS
  walk_at "rd"
  simp only [hp]
  walk_at "rd"
  unfold worthR at q1 q2
  refine ⟨sf_no (by decide +kernel) (by decide +kernel), p, z, i, _, rfl, hS, ?_⟩
  rw [sc_q, pre_q]
  walk_at "rd"
  by_cases c : (rem z i).take 1 = [34]
  · rw [if_pos c] at q1 q2 ⊢
    refine ⟨p, z, i, rfl, hS, fun a r hq H1 v j hb hS1 hij hr hv => ?_, fun hq H1 hb => ?_⟩
    · have hl := quotedR_len hq
      have hll := rem_len z i
      rw [hll] at hl
      rw [hq] at q1 q2
      simp only at q1 q2
      obtain rfl : v = _ := hv
      walk_at "rd"
      refine ⟨St a, rfl, by rw [← tl_len, tl_st]; omega, ?_⟩
      rw [tl_st]
      walk_at "rd"
      simp only [st_eq]
      by_cases c2 : shownW a = a
      · rw [if_pos c2] at q1 q2 ⊢
        exact q2 rfl H1 hb
      · rw [if_neg c2] at q1 q2 ⊢
        exact q1 _ _ rfl H1 _ j hb hS1 hij hr rfl
    · rw [hq] at q1 q2
      exact q2 rfl H1 hb
  · rw [if_neg c] at q1 q2 ⊢
    simp only [hp]
    walk_at "rd"
    refine ⟨sf_no (by decide +kernel) (by decide +kernel), p, z, i, _, rfl, hS, fun H1 hb hS1 => ?_⟩
    have e1 : (fun c => decide (c ∈ tl (Str.ofString "0123456789"))) = isFig := rfl
    rw [e1] at hS1 ⊢
    walk_at "rd"
    have hl := takeW_le (z := z) (i := i) isFig
    refine ⟨_, rfl, by rw [← tl_len, tl_st]; omega, ?_⟩
    rw [tl_st]
    walk_at "rd"
    cases h : isNumT ((rem z i).takeWhile isFig) with
    | true =>
      rw [if_neg (by decide)]
      rw [if_pos h] at q1
      exact q1 _ _ rfl H1 _ _ hb hS1 (Nat.le_add_right _ _) (by rw [rem_drop, drop_takeW]) rfl
    | false =>
      rw [if_pos rfl]
      rw [if_neg (by rw [h]; decide)] at q2
      exact q2 rfl H1 hb
end
end Sk

/-! ## C4 -/
namespace Sk
open PySem PySem.Spec PyProof.Rows L2
set_option hygiene false in
local macro_rules | `(tactic| walk_at "rd") => `(tactic| simp only [tVar, tC, tB, tAnd, tOr, tNot, tAndV, tOrV, tNotV, tIf, tNext, tSeq, tBreak, tCont, tDrop, tRet, tRetN, tIfS, tAsg, tAug, tOp, tUn, tTest, tChain, tFld, sFldAug, sFld, rAdd, tNil, tCons, tTup, tLst, tCB, tNoPart, tPart, tSl, tBM0, tBM, tYes, tM0, tM1, CwR.tReplC, tCallS, tMethS, tMakeS, gName, wipe, tyV, gTup, gCons, gNil,
  rI, rI0, rEq, rNe, scal, rPlus, rPlusI, rPlusS, rCat, rCatA, rIx, rIxL, rIxT, rIxS, rSl, rSlS, rSlL, rSlA, iPlus, iPlusI, iPlusS, ipI, rAll, rAny, LenV, WE, E0, rAppend,
  L2.start, List.map_cons, List.map_nil, List.length_cons, List.length_nil, Nat.zero_add, Nat.add_zero, Nat.reduceAdd, Nat.reduceSub, Nat.sub_self, List.replicate_zero, List.replicate_succ, List.append_nil, List.nil_append, List.cons_append, List.getElem?_cons_zero, List.getElem?_cons_succ, List.set_cons_zero, List.set_cons_succ, Option.some.injEq,
  V.int.injEq, V.str.injEq, V.bl.injEq, V.ref.injEq, V.ty.injEq, HO.ins.injEq, HO.lst.injEq, HO.tup.injEq, List.cons.injEq, reduceCtorEq, false_and, and_false, true_and, and_true, and_assoc, exists_const, exists_false, false_or, or_false, exists_eq_left', exists_eq_left, exists_eq_right, exists_eq_right', exists_and_left, ↓reduceIte, decide_eq_true_eq, Bool.not_eq_true', decide_eq_false_iff_not, if_true, if_false, cxOf, and_self, Bool.not_true, Bool.not_false, Bool.false_eq_true,
  sf_signs, sf_spot, sf_put, T.cl_Source, T.na_Source_signs, T.na_Source_spot, sg_inj, upd_same, rIsS, tyN, kb1, kb2, kb3, kb4, kb5, kb6, kb7, kb8, kb9, kb10, kb11, kb12, kb13, kb14, kb15, kb16, kb17, kb18, kb19, kb20, kb21, tDNewK, rPowW])
inductive Kid where
  | s (w : Str) | e (x : Ex) | l (xs : List Ex)
def Kid.toD : Kid → PyData
  | .s w => .str w
  | .e x => x.toD
  | .l xs => .list (toDs xs)
def Kid.sz : Kid → Nat
  | .s _ => 0
  | .e x => x.sz
  | .l xs => szS xs
def Kid.dep : Kid → Nat
  | .s _ => 0
  | .e x => x.dep
  | .l xs => depS xs
def Ex.word : Ex → Str
  | .is _ => "is" | .var .. => "var" | .at_ .. => "at" | .short _ => "short" | .op .. => "op" | .not _ => "not" | .minus _ => "minus" | .call n _ => St n
def Ex.kids : Ex → List Kid
  | .is w => [.s (St w)] | .var n ps => [.s (St n), .l ps] | .at_ n ps => [.s (St n), .l ps] | .short ps => [.l ps] | .op s a b => [.s (St [s]), .e a, .e b] | .not a => [.e a] | .minus a => [.e a] | .call _ ps => ps.map Kid.e
theorem toDs_map : ∀ es : List Ex, toDs es = (es.map Kid.e).map Kid.toD
  | [] => by rw [toDs]; rfl
  | e :: r => by rw [toDs, toDs_map r]; rfl
theorem toD_kids (e : Ex) : e.toD = .tuple (.str e.word :: e.kids.map Kid.toD) := by
  cases e <;> rw [Ex.toD] <;> simp [Ex.word, Ex.kids, Kid.toD, toDs_map]
theorem dep_kids (e : Ex) {n : Nat} : e.dep ≤ n ↔ 0 < n ∧ ∀ k ∈ e.kids, k.dep ≤ n - 1 := by
  cases e with
  | call w ps =>
    rw [Ex.dep]
    have := depS_le (n := n - 1) (es := ps)
    simp only [Ex.kids, List.mem_map, forall_exists_index, and_imp, forall_apply_eq_imp_iff₂, Kid.dep]
    rw [← this]
    omega
  | _ => rw [Ex.dep]; simp [Ex.kids, Kid.dep]; omega
theorem tyx_tup {K : PySem.W.Frag} {H : Hp} {a : Addr} {xs : List V} (h : SqT K H a xs) : TyX K H (.ref a) (.type "tuple") := by
  rcases h with (h | ⟨o, h⟩) | ⟨o, its, n, h1, h2, _⟩
  · exact .base (.tup h)
  · exact .fTuple h
  · exact .kTuple h1 h2
theorem tyx_list {K : PySem.W.Frag} {H : Hp} {a : Addr} {xs : List V} (h : SqL K H a xs) : TyX K H (.ref a) (.type "list") := by
  rcases h with (h | ⟨o, h⟩) | ⟨o, its, n, h1, h2, _⟩
  · exact .base (.lst h)
  · exact .base (.frz h)
  · exact .kList h1 h2
theorem kids_len (e : Ex) : e.kids.length ≤ e.sz + 2 := by
  cases e with
  | call n ps =>
    rw [Ex.sz]
    simp only [Ex.kids, List.length_map]
    have := szS_len ps
    omega
  | _ => rw [Ex.sz]; simp [Ex.kids]
theorem kids_sz (e : Ex) {k : Kid} (h : k ∈ e.kids) : k.sz ≤ e.sz := by
  cases e with
  | call n ps =>
    rw [Ex.sz]
    simp only [Ex.kids, List.mem_map] at h
    obtain ⟨x, hx, rfl⟩ := h
    have := szS_mem hx
    simp only [Kid.sz]
    omega
  | _ =>
    rw [Ex.sz]
    simp only [Ex.kids, List.mem_cons, List.not_mem_nil, or_false] at h
    first
      | (rcases h with rfl | rfl | rfl <;> (simp only [Kid.sz]; omega))
      | (rcases h with rfl | rfl <;> (simp only [Kid.sz]; omega))
      | (subst h; simp only [Kid.sz]; omega)
theorem all_map {α : Type} (f : α → Bool) (l : List α) : (l.map fun c => V.bl (f c)) = (l.map f).map V.bl := by rw [List.map_map]; rfl
theorem cutV_tail {v : V} {vs : List V} : cutV (v :: vs) (some 1) none = vs := by
  unfold cutV
  have e1 : HT.sIx (v :: vs).length 0 (some (1 : Int)) = min 1 (v :: vs).length := HT.sIx_nat _ _ 1
  have e2 : HT.sIx (v :: vs).length (v :: vs).length none = (v :: vs).length := rfl
  rw [e1, e2]
  simp
theorem dp_tup {K : PySem.W.Frag} {H : Hp} {v : V} {ds : List PyData} (h : Dp K H v (.tuple ds)) : ∃ a xs, v = .ref a ∧ SqT K H a xs ∧ DpAll K H xs ds := by
  cases h with
  | tup h r => exact ⟨_, _, rfl, h, r⟩
theorem dp_list {K : PySem.W.Frag} {H : Hp} {v : V} {ds : List PyData} (h : Dp K H v (.list ds)) : ∃ a xs, v = .ref a ∧ SqL K H a xs ∧ DpAll K H xs ds := by
  cases h with
  | lst h r => exact ⟨_, _, rfl, h, r⟩
theorem dp_str {K : PySem.W.Frag} {H : Hp} {v : V} {x : Str} (h : Dp K H v (.str x)) : v = .str x := by
  cases h
  rfl
theorem dpa_cons {K : PySem.W.Frag} {H : Hp} {vs : List V} {d : PyData} {ds : List PyData} (h : DpAll K H vs (d :: ds)) : ∃ v r, vs = v :: r ∧ Dp K H v d ∧ DpAll K H r ds := by
  cases h with
  | cons h r => exact ⟨_, _, rfl, h, r⟩
section
variable {P : Program} {w : World} {K : PySem.W.Frag} {mg : Str → Option Value} {base : Heap}
theorem Dn.false (T : Hd w K mg) (k : Nat) : Dn P w K mg base k "is_within" (fun _ _ _ _ => False) := by
  obtain ⟨fd, F⟩ := T.fn_is_within
  exact ⟨_, fd, ["thing", "left"], ⟨fun _ _ _ _ h => h.elim, fun _ _ _ _ _ _ _ _ _ _ _ _ _ h => h.elim⟩, T.g_is_within, F.kp, F.binds (ps := ["thing", "left"]) fun _ _ _ _ _ _ us hl => match us, hl with | [_, _], _ => rfl⟩
/-- is_within: of a text; of an expression where left is at most b; of a list of them where left is below a -/
def spWi (K : PySem.W.Frag) (a b : Nat) : Sp := fun vs H Q _ => ∃ v left, vs = [v, .int left] ∧ ((∃ s, v = .str s ∧ ∀ H', Same H H' → Q (.bl true) H') ∨
  (∃ e : Ex, Dp K H v e.toD ∧ e.sz ≤ 5000000 ∧ left ≤ (b : Int) ∧ ∀ H', Same H H' → Q (.bl (decide (e.dep ≤ left.toNat))) H') ∨
  (∃ es : List Ex, Dp K H v (.list (toDs es)) ∧ 0 ≤ left ∧ left < (a : Int) ∧ szS es ≤ 5000000 ∧ ∀ H', Same H H' → Q (.bl (decide (depS es ≤ left.toNat))) H'))
theorem sc_is_within : FnScope ["thing", "left", "one"] ["thing", "left"] (defScope s_is_within) := ⟨rfl, rfl, rfl, by decide +kernel, rfl, by decide +kernel, by decide +kernel⟩
theorem ok_is_within (T : Hd w K mg) {m a b : Nat} {sp1 sp2 : Sp} (D_w1 : Dn P w K mg base m "is_within" sp1) (D_w2 : Dn P w K mg base m "is_within" sp2) (h1 : 0 < a → ∀ vs H Q E, spWi K 0 (a - 1) vs H Q E → sp1 vs H Q E) (h2 : 0 < b → ∀ vs H Q E, spWi K b (b - 1) vs H Q E → sp2 vs H Q E) : Dn P w K mg base (m + 1) "is_within" (spWi K a b) := by
  obtain ⟨fd, F⟩ := T.fn_is_within
  refine dn_mk F T.g_is_within (F.binds (ps := ["thing", "left"]) fun _ _ _ _ _ _ us hl => match us, hl with | [_, _], _ => rfl) sc_is_within (fun vs H Q E h => ?_) (fun cdv A outer s H vs Q E hr tk h => ?_)
  · obtain ⟨v, left, rfl, h⟩ := h
    rfl
  obtain ⟨v, left, rfl, h⟩ := h
  refine ⟨_, (pss_cons (ps_if (pt_val (pe_callB call_isS (by rfl) T.f_isinstance (by decide +kernel) (pa_cons (pv 0) (pa_cons (pe_bltn (v := .ty "str") (u := .type "str") (by rfl) T.f_str (by decide +kernel) rfl) pa_nil)))) (pss_one (ps_ret pe_bl)) pss_nil) (pss_cons (ps_if (pt_val (pe_callB call_isS (by rfl) T.f_isinstance (by decide +kernel) (pa_cons (pv 0) (pa_cons (pe_bltn (v := .ty "list") (u := .type "list") (by rfl) T.f_list (by decide +kernel) rfl) pa_nil)))) (pss_one (ps_ret (pe_callB (cr_all rfl) (by rfl) T.f_all (by decide +kernel) (pa_cons (pe_lc (own := [("one", 2)]) (by rfl) sc_is_within.nd (pi_seq (pv 0)) (blkOk_by (own := [("one", 2)]) (N := ["thing", "left", "one"]) (sc := defScope s_is_within) (by decide +kernel)) (fun _ _ _ _ _ => (pg_name (i := 2) sc_is_within.nd rfl (Or.inl rfl))) (fun _ _ _ _ _ => pts_nil) (fun _ _ _ _ _ => (pe_d D_w1 hr (by first | decide | omega) (fun σ => passN σ) (by rfl) (pa_cons (pv 2) (pa_cons (pv 1) pa_nil))))) pa_nil)))) pss_nil) (pss_one (ps_ret (pe_and (pe_cmpR op_gt (pv 1) pe_int (nomark _)) (pe_one (pe_callB (cr_all rfl) (by rfl) T.f_all (by decide +kernel) (pa_cons (pe_lc (own := [("one", 2)]) (by rfl) sc_is_within.nd (pi_seq (pe_slice sl_any (pv 0) (po_some pe_int) po_none)) (blkOk_by (own := [("one", 2)]) (N := ["thing", "left", "one"]) (sc := defScope s_is_within) (by decide +kernel)) (fun _ _ _ _ _ => (pg_name (i := 2) sc_is_within.nd rfl (Or.inl rfl))) (fun _ _ _ _ _ => pts_nil) (fun _ _ _ _ _ => (pe_d D_w2 hr (by first | decide | omega) (fun σ => passN σ) (by rfl) (pa_cons (pv 2) (pa_cons (pe_op op_sub (pv 1) pe_int) pa_nil))))) pa_nil)))))))), ?_⟩
  rcases h with ⟨s, rfl, q⟩ | ⟨e, hd, hg, hb, q⟩ | ⟨es, hd, h0, hb, hz, q⟩
  · walk_at "rd"
    exact q H (Same.refl _)
  · rw [toD_kids] at hd
    obtain ⟨ad, xs, rfl, hT, hA⟩ := dp_tup hd
    obtain ⟨v0, r, rfl, _, hA⟩ := dpa_cons hA
    walk_at "rd"
    refine ⟨"tuple", tyx_tup hT, _, kb8, ?_⟩
    walk_at "rd"
    refine ⟨"tuple", tyx_tup hT, _, kb9, ?_⟩
    walk_at "rd"
    by_cases hl : 0 < left
    · rw [if_pos hl]
      have hlen : r.length = e.kids.length := by rw [DpAll.len hA, List.length_map]
      refine tLc_tup r (e.kids.map fun k => .bl (decide (k.dep ≤ (left - 1).toNat))) (fun R h => ?_) (by rw [hlen, sizeLine_eq]; have := kids_len e; omega) (by rw [List.length_map, hlen]) (fun j c d H' Q' hc hd' s h => ⟨rfl, ?_⟩) (fun D H' nD s h => ⟨_, rfl, _, SqL.of (by rw [← all_map]; exact h), ?_⟩)
      · walk_at "rd"
        refine .inr ⟨_, hT, fun g => absurd g.1 ?_, fun _ p np => ?_⟩
        · rw [show HT.sIx (v0 :: r).length 0 (some (1 : Int)) = min 1 (v0 :: r).length from HT.sIx_nat _ _ 1, List.length_cons]
          omega
        · rw [cutV_tail]
          exact h p _ (fun a o g => by rw [upd_ne (ne_of_none g np)]; exact g) (.of (upd_same ..))
      · walk_at "rd"
        have hb0 : 0 < b := by omega
        rw [List.getElem?_map] at hd'
        cases hk : e.kids[j]? with
        | none => rw [hk] at hd'; cases hd'
        | some k =>
          rw [hk] at hd'
          injection hd' with hd'
          subst hd'
          have hz := kids_sz e (List.mem_of_getElem? hk)
          have hD := Dp.same s (DpAll.at_ hA hc (by rw [List.getElem?_map, hk]; rfl : (e.kids.map Kid.toD)[j]? = some k.toD))
          refine h2 hb0 _ _ _ _ ⟨c, left - 1, rfl, ?_⟩
          cases k with
          | s w =>
            have := dp_str hD
            exact .inl ⟨w, this, fun H'' s' => by have := h H'' s'; rwa [show (fun k : Kid => V.bl (decide (k.dep ≤ (left - 1).toNat))) (Kid.s w) = V.bl true from congrArg V.bl (decide_eq_true (Nat.zero_le _))] at this⟩
          | e x => exact .inr (.inl ⟨x, hD, by simp only [Kid.sz] at hz; omega, by omega, h⟩)
          | l xs => exact .inr (.inr ⟨xs, hD, by omega, by omega, by simp only [Kid.sz] at hz; omega, h⟩)
      · rw [all_id]
        have := q H' s
        have e2 : e.kids.all (fun k => decide (k.dep ≤ (left - 1).toNat)) = decide (e.dep ≤ left.toNat) := by
          rw [Bool.eq_iff_iff, List.all_eq_true, decide_eq_true_eq, dep_kids]
          simp only [decide_eq_true_eq]
          have : (left - 1).toNat = left.toNat - 1 := by omega
          rw [this]
          exact ⟨fun h => ⟨by omega, h⟩, fun h => h.2⟩
        rw [e2]
        exact this
    · rw [if_neg hl]
      have := q H (Same.refl _)
      rw [decide_eq_false (by have := (dep_kids e (n := left.toNat)); omega)] at this
      exact this
  · obtain ⟨ad, xs, rfl, hL, hA⟩ := dp_list hd
    walk_at "rd"
    refine ⟨"list", tyx_list hL, _, kb5, ?_⟩
    walk_at "rd"
    refine ⟨"list", tyx_list hL, _, kb4, ?_⟩
    walk_at "rd"
    have hlen : xs.length = es.length := by rw [DpAll.len hA, toDs_len]
    refine tLc_list xs (es.map fun e => .bl (decide (e.dep ≤ left.toNat))) (fun R h => ⟨_, rfl, h _ _ (Same.refl _) hL⟩) (by rw [hlen, sizeLine_eq]; have := szS_len es; omega) (by rw [List.length_map, hlen]) (fun j c d H' Q' hc hd' s h => ⟨rfl, ?_⟩) (fun D H' nD s h => ⟨_, rfl, _, SqL.of (by rw [← all_map]; exact h), ?_⟩)
    · walk_at "rd"
      refine h1 (by omega) _ _ _ _ ⟨c, left, rfl, .inr (.inl ?_)⟩
      rw [List.getElem?_map] at hd'
      cases he : es[j]? with
      | none => rw [he] at hd'; cases hd'
      | some e =>
        rw [he] at hd'
        injection hd' with hd'
        subst hd'
        have := szS_mem (List.mem_of_getElem? he)
        exact ⟨e, Dp.same s (DpAll.at_ hA hc (toDs_at he)), by omega, by omega, h⟩
    · rw [all_id]
      have := q H' s
      have e2 : es.all (fun e => decide (e.dep ≤ left.toNat)) = decide (depS es ≤ left.toNat) := by
        rw [Bool.eq_iff_iff, List.all_eq_true, decide_eq_true_eq, depS_le]
        simp
      rw [e2]
      exact this
/-- is_within up to a bound -/
theorem wi_chain (T : Hd w K mg) : ∀ n : Nat, (∀ m, 2 * n + 2 ≤ m → Dn P w K mg base m "is_within" (spWi K 0 n)) ∧ ∀ m, 2 * n + 3 ≤ m → Dn P w K mg base m "is_within" (spWi K (n + 1) n)
  | 0 => by
    have hz : ∀ m, 2 * 0 + 2 ≤ m → Dn P w K mg base m "is_within" (spWi K 0 0) := fun m hm => by
      obtain ⟨m', rfl⟩ : ∃ m', m = m' + 1 := ⟨m - 1, by omega⟩
      exact ok_is_within T (Dn.false T m') (Dn.false T m') (fun h => absurd h (by decide)) (fun h => absurd h (by decide))
    refine ⟨hz, fun m hm => ?_⟩
    obtain ⟨m', rfl⟩ : ∃ m', m = m' + 1 := ⟨m - 1, by omega⟩
    exact ok_is_within T (hz m' (by omega)) (Dn.false T m') (fun _ _ _ _ _ h => h) (fun h => absurd h (by decide))
  | n + 1 => by
    obtain ⟨_, hY⟩ := wi_chain T n
    have hz : ∀ m, 2 * (n + 1) + 2 ≤ m → Dn P w K mg base m "is_within" (spWi K 0 (n + 1)) := fun m hm => by
      obtain ⟨m', rfl⟩ : ∃ m', m = m' + 1 := ⟨m - 1, by omega⟩
      exact ok_is_within T (Dn.false T m') (hY m' (by omega)) (fun h => absurd h (by decide)) (fun _ _ _ _ _ h => by
        obtain ⟨v, left, rfl, h⟩ := h
        refine ⟨v, left, rfl, ?_⟩
        rcases h with h | h | h
        · exact .inl h
        · exact .inr (.inl h)
        · exact .inr (.inr h))
    refine ⟨hz, fun m hm => ?_⟩
    obtain ⟨m', rfl⟩ : ∃ m', m = m' + 1 := ⟨m - 1, by omega⟩
    exact ok_is_within T (hz m' (by omega)) (hY m' (by omega)) (fun _ _ _ _ _ h => h) (fun _ _ _ _ _ h => h)
end
end Sk

/-! ## C5 -/
namespace Sk
open PySem PySem.Spec PyProof.Rows L2
set_option hygiene false in
local macro_rules | `(tactic| walk_at "rd") => `(tactic| simp only [tVar, tC, tB, tAnd, tOr, tNot, tAndV, tOrV, tNotV, tIf, tNext, tSeq, tBreak, tCont, tDrop, tRet, tRetN, tIfS, tAsg, tAug, tOp, tUn, tTest, tChain, tFld, sFldAug, sFld, rAdd, tNil, tCons, tTup, tLst, tCB, tNoPart, tPart, tSl, tBM0, tBM, tYes, tM0, tM1, CwR.tReplC, tCallS, tMethS, tMakeS, gName, wipe, tyV, gTup, gCons, gNil,
  rI, rI0, rEq, rNe, scal, rPlus, rPlusI, rPlusS, rCat, rCatA, rIx, rIxL, rIxT, rIxS, rSl, rSlS, rSlL, rSlA, iPlus, iPlusI, iPlusS, ipI, rAll, rAny, LenV, WE, E0, rAppend,
  L2.start, List.map_cons, List.map_nil, List.length_cons, List.length_nil, Nat.zero_add, Nat.add_zero, Nat.reduceAdd, Nat.reduceSub, Nat.sub_self, List.replicate_zero, List.replicate_succ, List.append_nil, List.nil_append, List.cons_append, List.getElem?_cons_zero, List.getElem?_cons_succ, List.set_cons_zero, List.set_cons_succ, Option.some.injEq,
  V.int.injEq, V.str.injEq, V.bl.injEq, V.ref.injEq, V.ty.injEq, HO.ins.injEq, HO.lst.injEq, HO.tup.injEq, List.cons.injEq, reduceCtorEq, false_and, and_false, true_and, and_true, and_assoc, exists_const, exists_false, false_or, or_false, exists_eq_left', exists_eq_left, exists_eq_right, exists_eq_right', exists_and_left, ↓reduceIte, decide_eq_true_eq, Bool.not_eq_true', decide_eq_false_iff_not, if_true, if_false, cxOf, and_self, Bool.not_true, Bool.not_false, Bool.false_eq_true,
  sf_signs, sf_spot, sf_put, T.cl_Source, T.na_Source_signs, T.na_Source_spot, sg_inj, upd_same, rIsS, tyN, kb1, kb2, kb3, kb4, kb5, kb6, kb7, kb8, kb9, kb10, kb11, kb12, kb13, kb14, kb15, kb16, kb17, kb18, kb19, kb20, kb21, tDNewK, rPowW])
theorem pre_c (c : Nat) (l : Tx) : (tl (St [c])).isPrefixOf l = decide (l.take 1 = [c]) := by
  rw [tl_st]
  cases l with
  | nil => rfl
  | cons d r =>
    simp [List.isPrefixOf]
    by_cases h : d = c
    · subst h
      simp
    · have : (c == d) = false := by simpa using fun e => h e.symm
      simp [this, h]
theorem d1 {z : Str} {i : Nat} : (rem z i).drop 1 = rem z (i + 1) := rem_drop.symm
theorem sc_lp : Str.ofString "(" = St [40] := by decide +kernel
theorem sc_rp : Str.ofString ")" = St [41] := by decide +kernel
theorem sc_co : Str.ofString "," = St [44] := by decide +kernel
theorem sc_up : Str.ofString "^" = St [94] := by decide +kernel
theorem sc_ap : Str.ofString "'" = St [39] := by decide +kernel
theorem sc_mi : Str.ofString "-" = St [45] := by decide +kernel
theorem sc_do : Str.ofString "$" = St [36] := by decide +kernel
section
variable {P : Program} {w : World} {K : PySem.W.Frag} {mg : Str → Option Value} {base : Heap}
theorem go1 {H : Hp} {p : Addr} {z : Str} {i c : Nat} {y : Str} {Q : VK} {E : XK} (hy : y = St [c]) (hS : SrcAt K H p z i) (q0 : ¬ (rem z i).take 1 = [c] → E (exNT K) none H)
    (q1 : (rem z i).take 1 = [c] → ∀ H', But p H H' → SrcAt K H' p z (i + 1) → Q .non H') : spGo K [.ref p, .str y] H Q E := by
  subst hy
  refine ⟨p, z, i, St [c], rfl, hS, fun h => ?_, fun h H' b s => ?_⟩
  · rw [pre_c] at h
    exact q0 (of_decide_eq_false h)
  · rw [pre_c] at h
    exact q1 (of_decide_eq_true h) H' b s
theorem sk1 {H : Hp} {p : Addr} {z : Str} {i c : Nat} {y : Str} {Q : VK} {E : XK} (hy : y = St [c]) (hS : SrcAt K H p z i) (q0 : ¬ (rem z i).take 1 = [c] → Q (.bl false) H)
    (q1 : (rem z i).take 1 = [c] → ∀ H', But p H H' → SrcAt K H' p z (i + 1) → Q (.bl true) H') : spSk K [.ref p, .str y] H Q E := by
  subst hy
  refine ⟨p, z, i, St [c], rfl, hS, fun h => ?_, fun h H' b s => ?_⟩
  · rw [pre_c] at h
    exact q0 (of_decide_eq_false h)
  · rw [pre_c] at h
    exact q1 (of_decide_eq_true h) H' b s
theorem cn1 {H : Hp} {p : Addr} {z : Str} {i c : Nat} {y : Str} {Q : VK} {E : XK} (hy : y = St [c]) (hS : SrcAt K H p z i) (q : Q (.bl (decide ((rem z i).take 1 = [c]))) H) : spCN K [.ref p, .str y] H Q E := by
  subst hy
  refine ⟨p, z, i, St [c], rfl, hS, ?_⟩
  rw [pre_c]
  exact q
def repE (K : PySem.W.Frag) (H : Hp) : Hp → V → Ex → Prop := fun H' v e => Dp K (dif H H') v e.toD
def repL (K : PySem.W.Frag) (H : Hp) : Hp → V → List Ex → Prop := fun H' v es => Dp K (dif H H') v (.list (toDs es))
def spEx (K : PySem.W.Frag) (n : Nat) : Sp := fun vs H Q E => ∃ p z i left, vs = [.ref p, .int left] ∧ left ≤ (n : Int) ∧ SrcAt K H p z i ∧ PQ K (exR left.toNat) (repE K H) p z i H Q E
def spSg (K : PySem.W.Frag) (n : Nat) : Sp := fun vs H Q E => ∃ p z i left, vs = [.ref p, .int left] ∧ left ≤ (n : Int) ∧ SrcAt K H p z i ∧ PQ K (sgR left.toNat) (repE K H) p z i H Q E
def spUn (K : PySem.W.Frag) (n : Nat) : Sp := fun vs H Q E => ∃ p z i left, vs = [.ref p, .int left] ∧ left ≤ (n : Int) ∧ SrcAt K H p z i ∧ PQ K (unR left.toNat) (repE K H) p z i H Q E
def spPa (K : PySem.W.Frag) (n : Nat) : Sp := fun vs H Q E => ∃ p z i left, vs = [.ref p, .int left] ∧ left ≤ (n : Int) ∧ SrcAt K H p z i ∧ PQ K (partsR (exR left.toNat)) (repL K H) p z i H Q E
def spSP (K : PySem.W.Frag) (n : Nat) : Sp := fun vs H Q E => ∃ p z i left, vs = [.ref p, .int left] ∧ left ≤ (n : Int) ∧ SrcAt K H p z i ∧ PQ K (somePartsR (exR left.toNat)) (repL K H) p z i H Q E
def spPl (K : PySem.W.Frag) (n : Nat) : Sp := fun vs H Q E => ∃ p z i left, vs = [.ref p, .int left] ∧ left ≤ (n : Int) ∧ SrcAt K H p z i ∧ PQ K (placeR (exR (left - 1).toNat)) (repE K H) p z i H Q E
def spCa (K : PySem.W.Frag) (n : Nat) : Sp := fun vs H Q E => ∃ p z i left, vs = [.ref p, .int left] ∧ left ≤ (n : Int) ∧ SrcAt K H p z i ∧ PQ K (callR (exR (left - 1).toNat) (exR (left - 2).toNat)) (repE K H) p z i H Q E
/-- what is left of reading parts -/
def ptR (E : Rd1 Ex) (f : Nat) (l : Tx) (es : List Ex) : Option (List Ex × Tx) := match partsTail E f l with
  | some (es', r2) => if r2.take 1 = [41] then some (es ++ es', r2.drop 1) else none
  | none => none
theorem ptR_end {E : Rd1 Ex} {f : Nat} {l : Tx} {es : List Ex} (h : ¬ l.take 1 = [44]) : ptR E (f + 1) l es = if l.take 1 = [41] then some (es, l.drop 1) else none := by
  unfold ptR
  rw [partsTail, if_neg h]
  simp
theorem ptR_more {E : Rd1 Ex} {f : Nat} {l : Tx} {es : List Ex} (h : l.take 1 = [44]) : ptR E (f + 1) l es = match E (l.drop 1) with
    | some (e, r) => ptR E f r (es ++ [e])
    | none => none := by
  unfold ptR
  rw [partsTail, if_pos h]
  cases E (l.drop 1) with
  | none => rfl
  | some q =>
    obtain ⟨e, r⟩ := q
    simp only
    cases partsTail E f r with
    | none => rfl
    | some q =>
      obtain ⟨es', r2⟩ := q
      simp
theorem partsR_eq {E : Rd1 Ex} {l : Tx} (h : l.take 1 = [40]) : partsR E l = match E (l.drop 1) with
    | some (e, r) => ptR E (r.length + 1) r [e]
    | none => none := by
  unfold partsR ptR
  rw [if_pos h]
  rfl
def PaI (K : PySem.W.Frag) (p : Addr) (z : Str) (i : Nat) (left : Int) (H : Hp) (a : Addr) (j : Nat) (f : Nat) (es : List Ex) (acc : List V) (σ' : SS) (H' : Hp) : Prop :=
  σ' = [some (.ref p), some (.int left), some (.ref a)] ∧ SrcAt K H' p z j ∧ i ≤ j ∧ But p H H' ∧ H a = none ∧ H' a = some (.lst acc) ∧ DpAll K (difO H a H') acc (toDs es) ∧
    partsR (exR left.toNat) (rem z i) = ptR (exR left.toNat) (f + 1) (rem z j) es ∧ (rem z j).length ≤ f ∧ acc.length ≤ j
def PaN (K : PySem.W.Frag) (p : Addr) (z : Str) (i : Nat) (left : Int) (H : Hp) (a : Addr) (m : Nat) (σ' : SS) (H' : Hp) : Prop := ∃ j f es acc, (rem z j).length < m ∧ PaI K p z i left H a j f es acc σ' H'
def PaW (K : PySem.W.Frag) (p : Addr) (z : Str) (i : Nat) (left : Int) (H : Hp) (a : Addr) (m : Nat) (σ' : SS) (H' : Hp) : Prop := ∃ j f es acc, m = (rem z j).length ∧ PaI K p z i left H a j f es acc σ' H'
theorem sc_parts_read : FnScope ["source", "left", "found"] ["source", "left"] (defScope s_parts_read) := ⟨rfl, rfl, rfl, by decide +kernel, rfl, by decide +kernel, by decide +kernel⟩
theorem ok_parts_read (T : Hd w K mg) {k n : Nat} (hk : 3 ≤ k) (M_Source_goes_past : Mt P w K mg base 3 (He.ga K "Source") "goes_past" (spGo K)) (M_Source_skips : Mt P w K mg base 2 (He.ga K "Source") "skips" (spSk K)) (D_expression_from : Dn P w K mg base k "expression_from" (spEx K n)) : Dn P w K mg base (k + 1) "parts_read" (spPa K n) := by
  obtain ⟨fd, F⟩ := T.fn_parts_read
  refine dn_mk F T.g_parts_read (F.binds (ps := ["source", "left"]) fun _ _ _ _ _ _ us hl => match us, hl with | [_, _], _ => rfl) sc_parts_read (fun vs H Q E h => ?_) (fun cdv A outer s H vs Q E hr tk h => ?_)
  · obtain ⟨p, z, i, left, rfl, hn, hS, q1, q2⟩ := h
    rfl
  obtain ⟨p, z, i, left, rfl, hn, hS, q1, q2⟩ := h
  refine ⟨_, (pss_cons (ps_expr (pe_m (pv 0) M_Source_goes_past hr (by first | decide | omega) (fun σ => L2N.passAt tk σ) (pa_cons pe_str pa_nil))) (pss_cons (ps_set (i := 2) sc_parts_read.nd rfl (by first | exact Or.inl rfl | exact Or.inr rfl) (pe_lst (pa_cons (pe_d D_expression_from hr (by first | decide | omega) (fun σ => L2N.passAt tk σ) (by rfl) (pa_cons (pv 0) (pa_cons (pv 1) pa_nil))) pa_nil))) (pss_cons (ps_while (passes_of rfl) (pt_val (pe_m (pv 0) M_Source_skips hr (by first | decide | omega) (fun σ => L2N.passAt tk σ) (pa_cons pe_str pa_nil))) (pss_one (ps_expr (pe_bm PySem.F.plainAttrs_list PySem.F.slot_list_append PySem.F.type_list_append mt_append (pv 2) (pa_cons (pe_d D_expression_from hr (by first | decide | omega) (fun σ => L2N.passAt tk σ) (by rfl) (pa_cons (pv 0) (pa_cons (pv 1) pa_nil))) pa_nil))))) (pss_cons (ps_expr (pe_m (pv 0) M_Source_goes_past hr (by first | decide | omega) (fun σ => L2N.passAt tk σ) (pa_cons pe_str pa_nil))) (pss_one (ps_ret (pv 2))))))), ?_⟩
  obtain ⟨⟨dx, hp⟩, hi, hz⟩ := id hS
  walk_at "rd"
  simp only [hp]
  walk_at "rd"
  refine ⟨sf_no (by decide +kernel) (by decide +kernel), go1 sc_lp hS (fun c => ?_) fun c H1 b1 S1 => ?_⟩
  · exact q2 (by unfold partsR; rw [if_neg c]) H But.refl
  have e0 := partsR_eq (E := exR left.toNat) c
  rw [d1] at e0
  refine ⟨p, z, i + 1, left, rfl, hn, S1, fun e r he H2 v j b2 S2 hij hr hv => ?_, fun he H2 b2 => ?_⟩
  rotate_left
  · rw [he] at e0
    exact q2 e0 H2 (b1.trans b2)
  subst hr
  rw [he] at e0
  simp only at e0
  refine ⟨by rw [sizeLine_eq]; omega, fun a na => ?_⟩
  obtain ⟨⟨dx1, hp1⟩, _, _⟩ := id S1
  obtain ⟨⟨dx2, hp2⟩, hj, _⟩ := id S2
  have b12 := b1.trans b2
  have ha : H a = none := by
    cases h : H a with
    | none => rfl
    | some o =>
      by_cases e : a = p
      · subst e
        rw [na] at hp2
        cases hp2
      · rw [b12 a o h e] at na
        cases na
  have hap : p ≠ a := fun e => by
    subst e
    rw [na] at hp2
    cases hp2
  have S3 : SrcAt K (upd H2 a (.lst [v])) p z j := ⟨⟨dx2, by rw [upd_ne hap]; exact hp2⟩, hj, hz⟩
  have b3 : But p H (upd H2 a (.lst [v])) := fun b o h e => by
    rw [upd_ne (ne_of_none h ha)]
    exact b12 b o h e
  refine while_w (PaW K p z i left H a) _ ⟨j, (rem z j).length, [e], [v], rfl, rfl, S3, by omega, b3, ha, upd_same, ?_, e0, Nat.le_refl _, by simp; omega⟩ ?_
  · rw [difO_upd, toDs, toDs]
    exact .cons (Dp.same (difO_new na) (Dp.same (dif_back hp1 b1) hv)) .nil
  rintro m σ H4 ⟨j4, f, es, acc, rfl, rfl, S4, hij4, b4, _, ha4, hA, e4, hf, hl⟩
  obtain ⟨⟨dx4, hp4⟩, hj4, _⟩ := id S4
  walk_at "rd"
  simp only [hp4]
  walk_at "rd"
  refine ⟨sf_no (by decide +kernel) (by decide +kernel), sk1 sc_co S4 (fun c4 => ?_) fun c4 H5 b5 S5 => ?_⟩
  · refine ⟨false, rfl, ?_⟩
    rw [if_neg (by decide)]
    rw [ptR_end c4] at e4
    refine ⟨_, _, hp4, sf_no (by decide +kernel) (by decide +kernel), go1 sc_rp S4 (fun c5 => ?_) fun c5 H5 b5 S5 => ?_⟩
    · rw [if_neg c5] at e4
      exact q2 e4 H4 b4
    · rw [if_pos c5, d1] at e4
      refine q1 es _ e4 H5 _ (j4 + 1) (b4.trans b5) S5 (by omega) rfl (.lst (SqL.of (dif_eq.mpr ⟨ha, b5 a _ ha4 hap.symm⟩)) ?_)
      exact DpAll.same difO_sub (DpAll.same (difO_more hp b5) hA)
  · refine ⟨true, rfl, ?_⟩
    rw [if_pos rfl]
    obtain ⟨⟨dx5, hp5⟩, hj5, _⟩ := id S5
    have ha5 := b5 a _ ha4 hap.symm
    refine ⟨PaN K p z i left H a (rem z j4).length, fun σ' H' h => ?_, .inl ⟨acc, SqL.of ha5⟩, p, z, j4 + 1, left, rfl, hn, S5, fun e6 r6 he6 H6 v6 j6 b6 S6 hij6 hr6 hv6 => ?_, fun he6 H6 b6 => ?_⟩
    · obtain ⟨j', f', es', acc', hm, h⟩ := h
      exact ⟨_, hm, j', f', es', acc', rfl, h⟩
    · have ha6 := b6 a _ ha5 hap.symm
      subst hr6
      obtain ⟨⟨dx6, hp6⟩, hj6, _⟩ := id S6
      have hsh := exR_sh _ _ _ _ he6
      have hsz := sz_pos e6
      rw [rem_len, rem_len] at hsh
      refine ⟨acc, ha6, by rw [sizeLine_eq]; omega, j6, f - 1, es ++ [e6], acc ++ [v6], by rw [rem_len, rem_len]; omega, rfl, ⟨⟨dx6, by rw [upd_ne hap]; exact hp6⟩, hj6, hz⟩, by omega, fun b o h e => ?_, ha, upd_same, ?_, ?_, ?_, ?_⟩
      · rw [upd_ne (ne_of_none h ha)]
        exact ((b4.trans b5).trans b6) b o h e
      · rw [difO_upd, toDs_snoc]
        exact DpAll.snoc (DpAll.same (difO_more hp b6) (DpAll.same (difO_more hp b5) hA)) (Dp.same (difO_back hp5 ha5 (b4.trans b5)) hv6)
      · rw [rem_len] at hf
        rw [e4, ptR_more c4, d1, he6, show f - 1 + 1 = f by omega]
      · rw [rem_len] at hf ⊢
        omega
      · rw [List.length_append, List.length_singleton]
        omega
    · rw [ptR_more c4, d1, he6] at e4
      exact q2 e4 H6 ((b4.trans b5).trans b6)
theorem free_of {p a : Addr} {H H1 : Hp} {o : HO} (b : But p H H1) (hp1 : H1 p = some o) (na : H1 a = none) : H a = none := by
  cases h : H a with
  | none => rfl
  | some u =>
    by_cases e : a = p
    · subst e
      rw [na] at hp1
      cases hp1
    · rw [b a u h e] at na
      cases na
theorem But.new {p a : Addr} {H H1 : Hp} {o u : HO} (b : But p H H1) (hp1 : H1 p = some o) (na : H1 a = none) : But p H (upd H1 a u) := fun c v h e => by
  rw [upd_ne (ne_of_none h (free_of b hp1 na))]
  exact b c v h e
theorem SrcAt.new {p a : Addr} {H1 : Hp} {u : HO} {z : Str} {j : Nat} (S : SrcAt K H1 p z j) (na : H1 a = none) : SrcAt K (upd H1 a u) p z j := by
  obtain ⟨⟨dx, hp⟩, h⟩ := S
  exact ⟨⟨dx, by rw [upd_ne (ne_of_none hp na)]; exact hp⟩, h⟩
theorem dif_upd {H H1 : Hp} {a : Addr} {u : HO} (na : H1 a = none) : Same (dif H H1) (dif H (upd H1 a u)) := fun b o h => by
  obtain ⟨h1, h2⟩ := dif_eq.mp h
  exact dif_eq.mpr ⟨h1, by rw [upd_ne (ne_of_none h2 na)]; exact h2⟩
theorem tup_new {H H1 : Hp} {a : Addr} {vs : List V} {ds : List PyData} (na : H1 a = none) (ha : H a = none) (h : DpAll K (dif H H1) vs ds) : Dp K (dif H (upd H1 a (.tup vs))) (.ref a) (.tuple ds) :=
  .tup (SqT.of (dif_eq.mpr ⟨ha, upd_same⟩)) (DpAll.same (dif_upd na) h)
theorem lst_new {H H1 : Hp} {a : Addr} {vs : List V} {ds : List PyData} (na : H1 a = none) (ha : H a = none) (h : DpAll K (dif H H1) vs ds) : Dp K (dif H (upd H1 a (.lst vs))) (.ref a) (.list ds) :=
  .lst (SqL.of (dif_eq.mpr ⟨ha, upd_same⟩)) (DpAll.same (dif_upd na) h)
theorem sc_some_parts_read : FnScope ["source", "left"] ["source", "left"] (defScope s_some_parts_read) := ⟨rfl, rfl, rfl, by decide +kernel, rfl, by decide +kernel, by decide +kernel⟩
theorem ok_some_parts_read (T : Hd w K mg) {k n : Nat} (hk : 1 ≤ k) (M_Source_comes_next : Mt P w K mg base 1 (He.ga K "Source") "comes_next" (spCN K)) (D_parts_read : Dn P w K mg base k "parts_read" (spPa K n)) : Dn P w K mg base (k + 1) "some_parts_read" (spSP K n) := by
  obtain ⟨fd, F⟩ := T.fn_some_parts_read
  refine dn_mk F T.g_some_parts_read (F.binds (ps := ["source", "left"]) fun _ _ _ _ _ _ us hl => match us, hl with | [_, _], _ => rfl) sc_some_parts_read (fun vs H Q E h => ?_) (fun cdv A outer s H vs Q E hr tk h => ?_)
  · obtain ⟨p, z, i, left, rfl, hn, hS, q1, q2⟩ := h
    rfl
  obtain ⟨p, z, i, left, rfl, hn, hS, q1, q2⟩ := h
  refine ⟨_, (pss_one (ps_ret (pe_ifExp (pt_val (pe_m (pv 0) M_Source_comes_next hr (by first | decide | omega) (fun σ => L2N.passAt tk σ) (pa_cons pe_str pa_nil))) (pe_d D_parts_read hr (by first | decide | omega) (fun σ => L2N.passAt tk σ) (by rfl) (pa_cons (pv 0) (pa_cons (pv 1) pa_nil))) (pe_lst pa_nil)))), ?_⟩
  obtain ⟨⟨dx, hp⟩, hi, hz⟩ := id hS
  walk_at "rd"
  simp only [hp]
  walk_at "rd"
  refine ⟨sf_no (by decide +kernel) (by decide +kernel), cn1 sc_lp hS ?_⟩
  unfold somePartsR at q1 q2
  by_cases c : (rem z i).take 1 = [40]
  · simp only [if_pos c] at q1 q2
    refine ⟨_, rfl, ?_⟩
    rw [if_pos (decide_eq_true c)]
    exact ⟨p, z, i, left, rfl, hn, hS, q1, q2⟩
  · simp only [if_neg c] at q1 q2
    refine ⟨_, rfl, ?_⟩
    rw [if_neg (by simpa using c)]
    exact ⟨by rw [sizeLine_eq]; omega, fun a na => q1 [] _ rfl _ _ i (But.new But.refl hp na) (SrcAt.new hS na) (Nat.le_refl _) rfl (by show Dp K _ _ (.list (toDs [])); rw [toDs]; exact lst_new na na .nil)⟩
theorem sc_place_read : FnScope ["source", "left", "name"] ["source", "left"] (defScope s_place_read) := ⟨rfl, rfl, rfl, by decide +kernel, rfl, by decide +kernel, by decide +kernel⟩
theorem ok_place_read (T : Hd w K mg) {k n : Nat} (hk : 3 ≤ k) (M_Source_skips : Mt P w K mg base 2 (He.ga K "Source") "skips" (spSk K)) (M_Source_comes_next : Mt P w K mg base 1 (He.ga K "Source") "comes_next" (spCN K)) (D_name_read : Dn P w K mg base 3 "name_read" (spName K)) (D_parts_read : Dn P w K mg base k "parts_read" (spPa K n)) (D_some_parts_read : Dn P w K mg base k "some_parts_read" (spSP K n)) : Dn P w K mg base (k + 1) "place_read" (spPl K (n + 1)) := by
  obtain ⟨fd, F⟩ := T.fn_place_read
  refine dn_mk F T.g_place_read (F.binds (ps := ["source", "left"]) fun _ _ _ _ _ _ us hl => match us, hl with | [_, _], _ => rfl) sc_place_read (fun vs H Q E h => ?_) (fun cdv A outer s H vs Q E hr tk h => ?_)
  · obtain ⟨p, z, i, left, rfl, hn, hS, q1, q2⟩ := h
    rfl
  obtain ⟨p, z, i, left, rfl, hn, hS, q1, q2⟩ := h
  refine ⟨_, (pss_cons (ps_if (pt_not (pt_val (pe_m (pv 0) M_Source_skips hr (by first | decide | omega) (fun σ => L2N.passAt tk σ) (pa_cons pe_str pa_nil)))) (pss_cons (ps_set (i := 2) sc_place_read.nd rfl (by first | exact Or.inl rfl | exact Or.inr rfl) (pe_d D_name_read hr (by first | decide | omega) (fun σ => L2N.passAt tk σ) (by rfl) (pa_cons (pv 0) pa_nil))) (pss_one (ps_ret (pe_tup (pa_cons pe_str (pa_cons (pv 2) (pa_cons (pe_d D_some_parts_read hr (by first | decide | omega) (fun σ => L2N.passAt tk σ) (by rfl) (pa_cons (pv 0) (pa_cons (pe_op op_sub (pv 1) pe_int) pa_nil))) pa_nil))))))) pss_nil) (pss_cons (ps_if (pt_val (pe_m (pv 0) M_Source_comes_next hr (by first | decide | omega) (fun σ => L2N.passAt tk σ) (pa_cons pe_str pa_nil))) (pss_one (ps_ret (pe_tup (pa_cons pe_str (pa_cons (pe_d D_parts_read hr (by first | decide | omega) (fun σ => L2N.passAt tk σ) (by rfl) (pa_cons (pv 0) (pa_cons (pe_op op_sub (pv 1) pe_int) pa_nil))) pa_nil))))) pss_nil) (pss_cons (ps_set (i := 2) sc_place_read.nd rfl (by first | exact Or.inl rfl | exact Or.inr rfl) (pe_d D_name_read hr (by first | decide | omega) (fun σ => L2N.passAt tk σ) (by rfl) (pa_cons (pv 0) pa_nil))) (pss_one (ps_ret (pe_tup (pa_cons pe_str (pa_cons (pv 2) (pa_cons (pe_d D_some_parts_read hr (by first | decide | omega) (fun σ => L2N.passAt tk σ) (by rfl) (pa_cons (pv 0) (pa_cons (pe_op op_sub (pv 1) pe_int) pa_nil))) pa_nil))))))))), ?_⟩
  obtain ⟨⟨dx, hp⟩, hi, hz⟩ := id hS
  walk_at "rd"
  simp only [hp]
  walk_at "rd"
  have e0 := placeR.eq_def (exR (left - 1).toNat) (rem z i)
  have hn' : left - 1 ≤ (n : Int) := by omega
  refine ⟨sf_no (by decide +kernel) (by decide +kernel), sk1 sc_up hS (fun c => ?_) fun c H1 b1 S1 => ?_⟩
  · simp only [if_neg c] at e0
    refine ⟨_, rfl, ?_⟩
    rw [if_pos rfl]
    refine ⟨p, z, i, rfl, hS, fun nm r he H2 v j b2 S2 hij hr hv => ?_, fun he H2 b2 => ?_⟩
    rotate_left
    · rw [he] at e0
      exact q2 e0 H2 b2
    subst hr
    obtain rfl : v = _ := hv
    rw [he] at e0
    simp only at e0
    obtain ⟨⟨dx2, hp2⟩, _, _⟩ := id S2
    refine ⟨p, z, j, left - 1, rfl, hn', S2, fun ps r he H3 v j3 b3 S3 hij3 hr hv => ?_, fun he H3 b3 => ?_⟩
    rotate_left
    · rw [he] at e0
      exact q2 e0 H3 (b2.trans b3)
    subst hr
    rw [he] at e0
    obtain ⟨⟨dx3, hp3⟩, _, _⟩ := id S3
    have b := b2.trans b3
    refine ⟨by rw [sizeLine_eq]; omega, fun a na => q1 _ _ e0 _ _ j3 (But.new b hp3 na) (SrcAt.new S3 na) (by omega) rfl ?_⟩
    show Dp K _ _ (Ex.toD _)
    rw [Ex.toD]
    exact tup_new na (free_of b hp3 na) (.cons (.str _) (.cons (.str _) (.cons (Dp.same (dif_back hp2 b2) hv) .nil)))
  · simp only [if_pos c, d1] at e0
    refine ⟨_, rfl, ?_⟩
    rw [if_neg (by decide)]
    obtain ⟨⟨dx1, hp1⟩, _, _⟩ := id S1
    refine ⟨_, _, hp1, sf_no (by decide +kernel) (by decide +kernel), cn1 sc_lp S1 ?_⟩
    by_cases c1 : (rem z (i + 1)).take 1 = [40]
    · simp only [if_pos c1] at e0
      refine ⟨_, rfl, ?_⟩
      rw [if_pos (decide_eq_true c1)]
      refine ⟨p, z, i + 1, left - 1, rfl, hn', S1, fun ps r he H3 v j3 b3 S3 hij3 hr hv => ?_, fun he H3 b3 => ?_⟩
      rotate_left
      · rw [he] at e0
        exact q2 e0 H3 (b1.trans b3)
      subst hr
      rw [he] at e0
      obtain ⟨⟨dx3, hp3⟩, _, _⟩ := id S3
      have b := b1.trans b3
      refine ⟨by rw [sizeLine_eq]; omega, fun a na => q1 _ _ e0 _ _ j3 (But.new b hp3 na) (SrcAt.new S3 na) (by omega) rfl ?_⟩
      show Dp K _ _ (Ex.toD _)
      rw [Ex.toD]
      exact tup_new na (free_of b hp3 na) (.cons (.str _) (.cons (Dp.same (dif_back hp1 b1) hv) .nil))
    · simp only [if_neg c1] at e0
      refine ⟨_, rfl, ?_⟩
      rw [if_neg (by simpa using c1)]
      refine ⟨p, z, i + 1, rfl, S1, fun nm r he H2 v j b2 S2 hij hr hv => ?_, fun he H2 b2 => ?_⟩
      rotate_left
      · rw [he] at e0
        exact q2 e0 H2 (b1.trans b2)
      subst hr
      obtain rfl : v = _ := hv
      rw [he] at e0
      simp only at e0
      obtain ⟨⟨dx2, hp2⟩, _, _⟩ := id S2
      have b12 := b1.trans b2
      refine ⟨p, z, j, left - 1, rfl, hn', S2, fun ps r he H3 v j3 b3 S3 hij3 hr hv => ?_, fun he H3 b3 => ?_⟩
      rotate_left
      · rw [he] at e0
        exact q2 e0 H3 (b12.trans b3)
      subst hr
      rw [he] at e0
      obtain ⟨⟨dx3, hp3⟩, _, _⟩ := id S3
      have b := b12.trans b3
      refine ⟨by rw [sizeLine_eq]; omega, fun a na => q1 _ _ e0 _ _ j3 (But.new b hp3 na) (SrcAt.new S3 na) (by omega) rfl ?_⟩
      show Dp K _ _ (Ex.toD _)
      rw [Ex.toD]
      exact tup_new na (free_of b hp3 na) (.cons (.str _) (.cons (.str _) (.cons (Dp.same (dif_back hp2 b12) hv) .nil)))
def WoE (e : Ex) : Prop := e.word = Str.ofString "op" ↔ e.isOpX = true
def Wo (E : Rd1 Ex) : Prop := ∀ l e r, E l = some (e, r) → WoE e
theorem wo_call {n : Tx} {ps : List Ex} (h : n ≠ tl "op") : WoE (.call n ps) := ⟨fun e => absurd (tl_inj (a := St n) (b := Str.ofString "op") (congrArg tl e)) (fun e2 => h (congrArg tl e2)), fun e => by cases e⟩
theorem wo_at (n : Tx) (ps : List Ex) : WoE (.at_ n ps) := ⟨fun e => absurd e (by show ¬ (Str.ofString "at" = Str.ofString "op"); decide +kernel), fun e => by cases e⟩
theorem wo_var (n : Tx) (ps : List Ex) : WoE (.var n ps) := ⟨fun e => absurd e (by show ¬ (Str.ofString "var" = Str.ofString "op"); decide +kernel), fun e => by cases e⟩
theorem wo_short (ps : List Ex) : WoE (.short ps) := ⟨fun e => absurd e (by show ¬ (Str.ofString "short" = Str.ofString "op"); decide +kernel), fun e => by cases e⟩
theorem wo_is (n : Tx) : WoE (.is n) := ⟨fun e => absurd e (by show ¬ (Str.ofString "is" = Str.ofString "op"); decide +kernel), fun e => by cases e⟩
theorem wo_not (a : Ex) : WoE (.not a) := ⟨fun e => absurd e (by show ¬ (Str.ofString "not" = Str.ofString "op"); decide +kernel), fun e => by cases e⟩
theorem wo_minus (a : Ex) : WoE (.minus a) := ⟨fun e => absurd e (by show ¬ (Str.ofString "minus" = Str.ofString "op"); decide +kernel), fun e => by cases e⟩
theorem wo_op (s : Nat) (a b : Ex) : WoE (.op s a b) := ⟨fun _ => rfl, fun _ => rfl⟩
theorem placeR_wo {Em : Rd1 Ex} : Wo (placeR Em) := by
  intro l e r h
  unfold placeR at h
  repeat' split at h
  all_goals (try cases h)
  · exact wo_short _
  · exact wo_at _ _
  · exact wo_var _ _
theorem callR_wo {E Em : Rd1 Ex} : Wo (callR E Em) := by
  intro l e r h
  have h1 : tl "length" ≠ tl "op" := by decide +kernel
  have h2 : tl "piece" ≠ tl "op" := by decide +kernel
  have h3 : tl "part" ≠ tl "op" := by decide +kernel
  have h4 : tl "order" ≠ tl "op" := by decide +kernel
  have h5 : tl "back" ≠ tl "op" := by decide +kernel
  have h6 : tl "data" ≠ tl "op" := by decide +kernel
  have h7 : tl "other" ≠ tl "op" := by decide +kernel
  have hw : (∃ k, callsN (l.takeWhile isLet) = some k) ∨ (isPlaceW (l.takeWhile isLet) || decide (l.takeWhile isLet = tl "other")) = true → l.takeWhile isLet ≠ tl "op" := by
    rintro (⟨k, hk⟩ | hk) e
    · rw [e] at hk
      unfold callsN at hk
      rw [if_neg h1.symm, if_neg h2.symm, if_neg h3.symm] at hk
      cases hk
    · rw [e] at hk
      unfold isPlaceW at hk
      rw [decide_eq_false h4.symm, decide_eq_false h5.symm, decide_eq_false h6.symm, decide_eq_false h7.symm] at hk
      cases hk
  unfold callR at h
  split at h
  · rename_i k hk
    have := hw (.inl ⟨k, hk⟩)
    repeat' split at h
    all_goals (try cases h)
    exact wo_call this
  · split at h
    · rename_i hk
      have := hw (.inr hk)
      repeat' split at h
      all_goals (try cases h)
      · exact wo_call this
      · exact wo_call this
    · cases h
theorem underR_wo {S E : Rd1 Ex} (hS : Wo S) (hE : Wo E) : Wo (underR S E) := by
  intro l e r h
  unfold underR at h
  split at h
  · split at h
    · rename_i e1 r1 he
      have := hE _ _ _ he
      repeat' split at h
      all_goals (try cases h)
      exact this
    · cases h
  · exact hS _ _ _ h
theorem singleR_wo {S E Em : Rd1 Ex} : Wo (singleR S E Em) := by
  intro l e r h
  unfold singleR at h
  split at h
  · repeat' split at h
    all_goals (try cases h)
    exact wo_is _
  · split at h
    · repeat' split at h
      all_goals (try cases h)
      exact wo_not _
    · split at h
      · repeat' split at h
        all_goals (try cases h)
        exact wo_minus _
      · split at h
        · exact callR_wo _ _ _ h
        · exact placeR_wo _ _ _ h
theorem opsTail_wo {U : Rd1 Ex} : ∀ (k : Nat) (f : Ex) (l : Tx) (g : Ex) (r : Tx), WoE f → opsTail U k f l = some (g, r) → WoE g
  | 0, f, l, g, r, hf, h => by
    rw [opsTail] at h
    split at h
    · cases h
    · cases h
      exact hf
  | k + 1, f, l, g, r, hf, h => by
    rw [opsTail] at h
    split at h
    · split at h
      · exact opsTail_wo k _ _ _ _ (wo_op _ _ _) h
      · cases h
    · cases h
      exact hf
theorem exprR_wo {n : Nat} {S U : Rd1 Ex} (hS : Wo S) : Wo (exprR n S U) := by
  intro l e r h
  unfold exprR at h
  split at h
  · rename_i s r1 hs
    have := hS _ _ _ hs
    split at h
    · split at h
      · rename_i f r2 hf
        have := opsTail_wo _ _ _ _ _ this hf
        split at h
        · cases h
          exact this
        · cases h
      · cases h
    · cases h
      exact this
  · cases h
theorem exR_wo : ∀ n, Wo (exR n)
  | 0 => fun _ _ _ h => by cases h
  | n + 1 => by
    rw [exR_succ, sgR_succ]
    exact exprR_wo singleR_wo
theorem sc_under_read : FnScope ["source", "left", "found"] ["source", "left"] (defScope s_under_read) := ⟨rfl, rfl, rfl, by decide +kernel, rfl, by decide +kernel, by decide +kernel⟩
theorem ok_under_read (T : Hd w K mg) {k n : Nat} (hk : 3 ≤ k) (M_Source_skips : Mt P w K mg base 2 (He.ga K "Source") "skips" (spSk K)) (M_Source_goes_past : Mt P w K mg base 3 (He.ga K "Source") "goes_past" (spGo K)) (D_single_read : Dn P w K mg base k "single_read" (spSg K n)) (D_expression_from : Dn P w K mg base k "expression_from" (spEx K n)) : Dn P w K mg base (k + 1) "under_read" (spUn K n) := by
  obtain ⟨fd, F⟩ := T.fn_under_read
  refine dn_mk F T.g_under_read (F.binds (ps := ["source", "left"]) fun _ _ _ _ _ _ us hl => match us, hl with | [_, _], _ => rfl) sc_under_read (fun vs H Q E h => ?_) (fun cdv A outer s H vs Q E hr tk h => ?_)
  · obtain ⟨p, z, i, left, rfl, hn, hS, q1, q2⟩ := h
    rfl
  obtain ⟨p, z, i, left, rfl, hn, hS, q1, q2⟩ := h
  refine ⟨_, (pss_cons (ps_if (pt_not (pt_val (pe_m (pv 0) M_Source_skips hr (by first | decide | omega) (fun σ => L2N.passAt tk σ) (pa_cons pe_str pa_nil)))) (pss_one (ps_ret (pe_d D_single_read hr (by first | decide | omega) (fun σ => L2N.passAt tk σ) (by rfl) (pa_cons (pv 0) (pa_cons (pv 1) pa_nil))))) pss_nil) (pss_cons (ps_set (i := 2) sc_under_read.nd rfl (by first | exact Or.inl rfl | exact Or.inr rfl) (pe_d D_expression_from hr (by first | decide | omega) (fun σ => L2N.passAt tk σ) (by rfl) (pa_cons (pv 0) (pa_cons (pv 1) pa_nil)))) (pss_cons (ps_if (pt_cmpR op_ne (pe_ix ix_tup (pv 2) pe_int (fun _ _ => rfl)) pe_str (nomark _)) (pss_one (L2N.ps_raise rfl tk (L2N.pmk_own PySem.F.excBase_ValueError T.x_NoText T.g_NoText T.k_NoText (raises_own T.b_NoText T.t_NoText) rfl))) pss_nil) (pss_cons (ps_expr (pe_m (pv 0) M_Source_goes_past hr (by first | decide | omega) (fun σ => L2N.passAt tk σ) (pa_cons pe_str pa_nil))) (pss_one (ps_ret (pv 2))))))), ?_⟩
  obtain ⟨⟨dx, hp⟩, hi, hz⟩ := id hS
  walk_at "rd"
  simp only [hp]
  walk_at "rd"
  have e0 := underR.eq_def (sgR left.toNat) (exR left.toNat) (rem z i)
  refine ⟨sf_no (by decide +kernel) (by decide +kernel), sk1 sc_lp hS (fun c => ?_) fun c H1 b1 S1 => ?_⟩
  · simp only [if_neg c] at e0
    refine ⟨_, rfl, ?_⟩
    rw [if_pos rfl]
    exact ⟨p, z, i, left, rfl, hn, hS, fun e r h => q1 e r (e0.trans h), fun h => q2 (e0.trans h)⟩
  · simp only [if_pos c, d1] at e0
    refine ⟨_, rfl, ?_⟩
    rw [if_neg (by decide)]
    refine ⟨p, z, i + 1, left, rfl, hn, S1, fun e r he H2 v j b2 S2 hij hr hv => ?_, fun he H2 b2 => ?_⟩
    rotate_left
    · rw [he] at e0
      exact q2 e0 H2 (b1.trans b2)
    subst hr
    rw [he] at e0
    simp only at e0
    have b := b1.trans b2
    obtain ⟨⟨dx1, hp1⟩, _, _⟩ := id S1
    obtain ⟨⟨dx2, hp2⟩, _, _⟩ := id S2
    have hv' : Dp K (dif H1 H2) v e.toD := hv
    have hv2 := hv'
    rw [toD_kids] at hv2
    obtain ⟨a, xs, rfl, hT, hA⟩ := dp_tup hv2
    obtain ⟨v0, rr, rfl, hv0, hA⟩ := dpa_cons hA
    obtain rfl := dp_str hv0
    have hwo := exR_wo _ _ _ _ he
    have hT2 : SqT K H2 a (V.str e.word :: rr) := Same.seqT dif_sub hT
    refine ⟨a, rfl, _, hT2, V.str e.word, atI_nat (j := 0) rfl, rfl, ?_⟩
    by_cases co : e.isOpX = true
    · rw [if_neg (by rw [hwo.mpr co]; exact fun h => h rfl)]
      rw [if_pos co] at e0
      refine ⟨_, _, hp2, sf_no (by decide +kernel) (by decide +kernel), go1 sc_rp S2 (fun c3 => ?_) fun c3 H3 b3 S3 => ?_⟩
      · rw [if_neg c3] at e0
        exact q2 e0 H2 b
      · rw [if_pos c3, d1] at e0
        exact q1 e _ e0 H3 _ (j + 1) (b.trans b3) S3 (by omega) rfl (Dp.same (dif_more hp b3) (Dp.same (dif_back hp1 b1) hv'))
    · rw [if_pos (by rw [V.str.injEq]; exact fun h => co (hwo.mp h))]
      rw [if_neg co] at e0
      exact q2 e0 H2 b
theorem kdct_of {w : World} {K : PySem.W.Frag} {a : Addr} {kvs : List (Str × He.Dv)} {x : Str} {d : He.Dv} (h : ∃ es n, KDict K w a es n) (hv : He.valsB K a kvs = true) (hq : (x, d) ∈ kvs) : KDct K w a x (d.v K) := by
  obtain ⟨es, n, D⟩ := h
  obtain ⟨u, h1, h2⟩ := He.valsB_ok hv hq
  exact ⟨es, n, u, D.at_, D.lit, h1, h2⟩
theorem st_w {a : Tx} {s : Str} : (St a = s) = (a = tl s) := by rw [eq_iff_iff]; exact ⟨fun h => congrArg tl h, fun h => by subst h; rfl⟩
theorem same_new {H : Hp} {a : Addr} {u : HO} (na : H a = none) : Same H (upd H a u) := fun b o h => by rw [upd_ne (ne_of_none h na)]; exact h
theorem inV_strs (z : Str) : ∀ ws : List Str, inV (.str z) (ws.map V.str) = decide (z ∈ ws)
  | [] => rfl
  | a :: r => by
    have := inV_strs z r
    unfold inV at this ⊢
    rw [List.map_cons, List.any_cons, this]
    show ((a == z) || decide (z ∈ r)) = _
    rw [Bool.eq_iff_iff, Bool.or_eq_true, beq_iff_eq, decide_eq_true_eq, decide_eq_true_eq, List.mem_cons]
    constructor
    · rintro (h | h)
      · exact .inl h.symm
      · exact .inr h
    · rintro (h | h)
      · exact .inl h.symm
      · exact .inr h
theorem callsN_some {t : Tx} {k : Nat} (h : callsN t = some k) : (St t, He.Dv.int k) ∈ [(Str.ofString "length", He.Dv.int 1), (Str.ofString "piece", .int 3), (Str.ofString "part", .int 3)] := by
  unfold callsN at h
  split at h
  · rename_i e
    cases h
    rw [e]
    exact List.mem_cons_self
  · split at h
    · rename_i e
      cases h
      rw [e]
      exact List.mem_cons_of_mem _ List.mem_cons_self
    · split at h
      · rename_i e
        cases h
        rw [e]
        exact List.mem_cons_of_mem _ (List.mem_cons_of_mem _ List.mem_cons_self)
      · cases h
theorem callsN_pos {t : Tx} {k : Nat} (h : callsN t = some k) : 0 < k := by
  unfold callsN at h
  split at h
  · cases h
    decide
  · split at h
    · cases h
      decide
    · split at h
      · cases h
        decide
      · cases h
theorem callsN_none {t : Tx} (h : callsN t = none) : ¬ St t ∈ [Str.ofString "length", Str.ofString "piece", Str.ofString "part"] := by
  unfold callsN at h
  simp only [List.mem_cons, st_w, List.not_mem_nil, or_false]
  rintro (e | e | e) <;> (rw [e] at h; revert h; decide +kernel)
theorem isPlaceW_eq {t : Tx} : decide (St t ∈ [Str.ofString "order", Str.ofString "back", Str.ofString "data"]) = isPlaceW t := by
  unfold isPlaceW
  rw [Bool.eq_iff_iff]
  simp only [List.mem_cons, st_w, List.not_mem_nil, or_false, decide_eq_true_eq, Bool.or_eq_true]
  exact or_assoc.symm
theorem if2 {k o A C : Prop} [Decidable k] [Decidable o] (h : k → ¬ o → A) (hc : (k → o) → C) : if k then (if ¬ o then A else C) else C := by
  by_cases hk : k
  · rw [if_pos hk]
    by_cases ho : o
    · rw [if_neg (not_not_intro ho)]
      exact hc fun _ => ho
    · rw [if_pos ho]
      exact h hk ho
  · rw [if_neg hk]
    exact hc fun h => absurd h hk
theorem sc_call_read : FnScope ["source", "left", "word", "found"] ["source", "left"] (defScope s_call_read) := ⟨rfl, rfl, rfl, by decide +kernel, rfl, by decide +kernel, by decide +kernel⟩
theorem ok_call_read (T : Hd w K mg) {k n : Nat} (hk : 3 ≤ k) (M_Source_run_of : Mt P w K mg base 1 (He.ga K "Source") "run_of" (spRun K)) (M_Source_goes_past : Mt P w K mg base 3 (He.ga K "Source") "goes_past" (spGo K)) (D_parts_read : Dn P w K mg base k "parts_read" (spPa K n)) (D_place_read : Dn P w K mg base k "place_read" (spPl K n)) (D_expression_from : Dn P w K mg base k "expression_from" (spEx K n)) : Dn P w K mg base (k + 1) "call_read" (spCa K (n + 1)) := by
  obtain ⟨fd, F⟩ := T.fn_call_read
  refine dn_mk F T.g_call_read (F.binds (ps := ["source", "left"]) fun _ _ _ _ _ _ us hl => match us, hl with | [_, _], _ => rfl) sc_call_read (fun vs H Q E h => ?_) (fun cdv A outer s H vs Q E hr tk h => ?_)
  · obtain ⟨p, z, i, left, rfl, hn, hS, q1, q2⟩ := h
    rfl
  obtain ⟨p, z, i, left, rfl, hn, hS, q1, q2⟩ := h
  refine ⟨_, (pss_cons (ps_set (i := 2) sc_call_read.nd rfl (by first | exact Or.inl rfl | exact Or.inr rfl) (pe_m (pv 0) M_Source_run_of hr (by first | decide | omega) (fun σ => L2N.passAt tk σ) (pa_cons (C8.pe_gc (by rfl) T.c_LETTERS) pa_nil))) (pss_cons (ps_if (pt_cmpR (op_in_kk T.kk_CALLS) (pv 2) (C8.pe_gc (by rfl) T.c_CALLS) rfl) (pss_cons (ps_set (i := 3) sc_call_read.nd rfl (by first | exact Or.inl rfl | exact Or.inr rfl) (pe_d D_parts_read hr (by first | decide | omega) (fun σ => L2N.passAt tk σ) (by rfl) (pa_cons (pv 0) (pa_cons (pe_op op_sub (pv 1) pe_int) pa_nil)))) (pss_cons (ps_if (pt_cmpR op_ne (pe_callB call_len (by rfl) T.f_len (by decide +kernel) (pa_cons (pv 3) pa_nil)) (pe_ix ix_kdict (C8.pe_gc (by rfl) T.c_CALLS) (pv 2) (fun _ _ => rfl)) (nomark _)) (pss_one (L2N.ps_raise rfl tk (L2N.pmk_own PySem.F.excBase_ValueError T.x_NoText T.g_NoText T.k_NoText (raises_own T.b_NoText T.t_NoText) rfl))) pss_nil) (pss_one (ps_ret (pe_op op_catA (pe_tup (pa_cons (pv 2) pa_nil)) (pe_callTy call_tuple_of (by rfl) T.f_tuple (by decide +kernel) (pa_cons (pv 3) pa_nil))))))) pss_nil) (pss_cons (ps_if (PW.pt (pw_and (pt_cmpR op_notIn_seq (pv 2) (C8.pe_gc (by rfl) T.c_PLACES_texts) rfl) (pw_and1 (pt_cmpR op_ne (pv 2) pe_str (nomark _))))) (pss_one (L2N.ps_raise rfl tk (L2N.pmk_own PySem.F.excBase_ValueError T.x_NoText T.g_NoText T.k_NoText (raises_own T.b_NoText T.t_NoText) rfl))) pss_nil) (pss_cons (ps_expr (pe_m (pv 0) M_Source_goes_past hr (by first | decide | omega) (fun σ => L2N.passAt tk σ) (pa_cons pe_str pa_nil))) (pss_cons (ps_set (i := 3) sc_call_read.nd rfl (by first | exact Or.inl rfl | exact Or.inr rfl) (pe_tup (pa_cons (pv 2) (pa_cons (pe_d D_place_read hr (by first | decide | omega) (fun σ => L2N.passAt tk σ) (by rfl) (pa_cons (pv 0) (pa_cons (pe_op op_sub (pv 1) pe_int) pa_nil))) pa_nil)))) (pss_cons (ps_if (pt_cmpR op_eq (pv 2) pe_str (nomark _)) (pss_cons (ps_expr (pe_m (pv 0) M_Source_goes_past hr (by first | decide | omega) (fun σ => L2N.passAt tk σ) (pa_cons pe_str pa_nil))) (pss_one (ps_set (i := 3) sc_call_read.nd rfl (by first | exact Or.inl rfl | exact Or.inr rfl) (pe_op op_catA (pv 3) (pe_tup (pa_cons (pe_d D_expression_from hr (by first | decide | omega) (fun σ => L2N.passAt tk σ) (by rfl) (pa_cons (pv 0) (pa_cons (pe_op op_sub (pv 1) pe_int) pa_nil))) pa_nil)))))) pss_nil) (pss_cons (ps_expr (pe_m (pv 0) M_Source_goes_past hr (by first | decide | omega) (fun σ => L2N.passAt tk σ) (pa_cons pe_str pa_nil))) (pss_one (ps_ret (pv 3)))))))))), ?_⟩
  obtain ⟨⟨dx, hp⟩, hi, hz⟩ := id hS
  walk_at "rd"
  simp only [hp]
  walk_at "rd"
  have e0 := callR.eq_def (exR (left - 1).toNat) (exR (left - 2).toNat) (rem z i)
  refine ⟨sf_no (by decide +kernel) (by decide +kernel), p, z, i, _, rfl, hS, fun H1 b1 S1 => ?_⟩
  have e1 : (fun c => decide (c ∈ tl (Str.ofString "abcdefghijklmnopqrstuvwxyz"))) = isLet := rfl
  rw [e1] at S1 ⊢
  have hwl := takeW_le (z := z) (i := i) isLet
  have hwr : rem z (i + ((rem z i).takeWhile isLet).length) = (rem z i).dropWhile isLet := by rw [rem_drop, drop_takeW]
  generalize hw : (rem z i).takeWhile isLet = t at *
  generalize hj1 : i + t.length = j1 at *
  have hij1 : i ≤ j1 := by omega
  rw [← hwr] at e0
  have hn' : left - 1 ≤ (n : Int) := by omega
  obtain ⟨⟨dx1, hp1⟩, _, _⟩ := id S1
  cases hc : callsN t with
  | some k0 =>
    rw [hc] at e0
    simp only at e0
    have hm := callsN_some hc
    refine ⟨St t, rfl, rfl, _, rfl, ?_⟩
    rw [if_pos (decide_eq_true (by have := List.mem_map_of_mem (f := Prod.fst) hm; exact this))]
    refine ⟨p, z, j1, left - 1, rfl, hn', S1, fun ps r he H3 v j3 b3 S3 hij3 hr hv => ?_, fun he H3 b3 => ?_⟩
    rotate_left
    · rw [he] at e0
      exact q2 e0 H3 (b1.trans b3)
    subst hr
    rw [he] at e0
    simp only at e0
    obtain ⟨a, xs, rfl, hL, hA⟩ := dp_list hv
    have hL3 : SqL K H3 a xs := Same.seq dif_sub hL
    have hlen : xs.length = ps.length := by rw [DpAll.len hA, toDs_len]
    obtain ⟨⟨dx3, hp3⟩, _, _⟩ := id S3
    have b := b1.trans b3
    refine ⟨_, .inl ⟨xs, hL3, rfl⟩, _, _, _, rfl, rfl, kdct_of T.kd_CALLS T.kv_CALLS hm, rfl, ?_⟩
    by_cases cl : ps.length = k0
    · rw [if_pos cl] at e0
      rw [if_neg (by show ¬ ¬ V.int (xs.length : Nat) = V.int (k0 : Nat); rw [hlen, cl]; exact fun h => h rfl)]
      refine ⟨by rw [sizeLine_eq]; omega, fun a1 na1 => ⟨a, rfl, xs, .inl ⟨Same.seq (same_new na1) hL3, fun a2 na2 => ?_⟩⟩⟩
      have Sa : SrcAt K (upd H3 a1 (.tup [V.str (St t)])) p z j3 := SrcAt.new S3 na1
      obtain ⟨⟨dxa, hpa⟩, _, _⟩ := id Sa
      have Sb : SrcAt K (upd (upd H3 a1 (.tup [V.str (St t)])) a2 (.tup xs)) p z j3 := SrcAt.new Sa na2
      obtain ⟨⟨dxb, hpb⟩, _, _⟩ := id Sb
      have bb : But p H (upd (upd H3 a1 (.tup [V.str (St t)])) a2 (.tup xs)) := But.new (But.new b hp3 na1) hpa na2
      have ha1 : upd (upd H3 a1 (.tup [V.str (St t)])) a2 (.tup xs) a1 = some (.tup [V.str (St t)]) := by
        rw [upd_ne (ne_of_none upd_same na2)]
        exact upd_same
      have hk0 := callsN_pos hc
      have hxs : xs ≠ [] := fun h => by rw [h] at hlen; simp at hlen; omega
      have hle : ps.length ≤ z.length := by
        have h1 := partsR_sh (exR_sh _) he
        have h2 := szS_len ps
        simp only [rem_len] at h1
        omega
      refine ⟨_, SqT.of ha1, xs, SqT.of upd_same, by rw [hlen, sizeLine_eq]; simp; omega, fun h => (by cases h), fun _ h => absurd h hxs, fun _ _ a3 na3 => ?_⟩
      refine q1 _ _ e0 _ _ j3 (But.new bb hpb na3) (SrcAt.new Sb na3) (by omega) rfl ?_
      show Dp K _ _ (Ex.toD _)
      rw [Ex.toD]
      exact tup_new na3 (free_of bb hpb na3) (.cons (.str _) (DpAll.same (dif_upd na2) (DpAll.same (dif_upd na1) (DpAll.same (dif_back hp1 b1) hA))))
    · rw [if_neg cl] at e0
      rw [if_pos (by show ¬ V.int (xs.length : Nat) = V.int (k0 : Nat); rw [hlen]; intro h; injection h with h; exact cl (by omega))]
      exact q2 e0 H3 b
  | none =>
    rw [hc] at e0
    simp only at e0
    refine ⟨St t, rfl, rfl, _, rfl, ?_⟩
    rw [if_neg (by rw [decide_eq_true_eq]; exact callsN_none hc)]
    refine ⟨_, _, rfl, .inr (T.tt_PLACES_texts _), rfl, rfl, _, rfl, ?_⟩
    have eP : inV (V.str (St t)) [V.str "order", V.str "back", V.str "data"] = isPlaceW t := (inV_strs (St t) [Str.ofString "order", Str.ofString "back", Str.ofString "data"]).trans isPlaceW_eq
    rw [eP]
    walk_at "rd"
    refine if2 (fun hk ho => ?_) fun hk => ?_
    · rw [if_neg] at e0
      · exact q2 e0 H1 b1
      · rw [st_w] at ho
        rw [Bool.or_eq_true, decide_eq_true_eq]
        rintro (h | h)
        · simp [h] at hk
        · exact ho h
    have hk2 : (isPlaceW t || decide (t = tl (Str.ofString "other"))) = true := by
      cases h : isPlaceW t with
      | true => rfl
      | false =>
        have := hk h
        rw [st_w] at this
        rw [Bool.false_or, decide_eq_true_eq]
        exact this
    rw [if_pos hk2] at e0
    refine ⟨_, _, hp1, sf_no (by decide +kernel) (by decide +kernel), go1 sc_lp S1 (fun c1 => ?_) fun c1 H2 b2 S2 => ?_⟩
    · rw [if_neg c1] at e0
      exact q2 e0 H1 b1
    rw [if_pos c1, d1] at e0
    obtain ⟨⟨dx2, hp2⟩, _, _⟩ := id S2
    have b12 := b1.trans b2
    have el : left - 2 = left - 1 - 1 := by omega
    rw [el] at e0
    refine ⟨p, z, j1 + 1, left - 1, rfl, by omega, S2, fun pl r he H3 v j3 b3 S3 hij3 hr hv => ?_, fun he H3 b3 => ?_⟩
    rotate_left
    · rw [he] at e0
      refine q2 ?_ H3 (b12.trans b3)
      rw [el]
      exact e0
    subst hr
    rw [he] at e0
    simp only at e0
    obtain ⟨⟨dx3, hp3⟩, _, _⟩ := id S3
    have b := b12.trans b3
    refine ⟨by rw [sizeLine_eq]; omega, fun a1 na1 => ?_⟩
    have Sa : SrcAt K (upd H3 a1 (.tup [V.str (St t), v])) p z j3 := SrcAt.new S3 na1
    have ba : But p H (upd H3 a1 (.tup [V.str (St t), v])) := But.new b hp3 na1
    obtain ⟨⟨dxa, hpa⟩, _, _⟩ := id Sa
    have hv1 : Dp K (dif H (upd H3 a1 (.tup [V.str (St t), v]))) v pl.toD := Dp.same (dif_upd na1) (Dp.same (dif_back hp2 b12) hv)
    have hap : a1 ≠ p := fun e => by subst e; rw [na1] at hp3; cases hp3
    have ha : H a1 = none := free_of b hp3 na1
    by_cases co : t = tl (Str.ofString "other")
    · rw [if_pos co] at e0
      rw [if_pos (by rw [st_w]; exact co)]
      refine ⟨_, _, hpa, sf_no (by decide +kernel) (by decide +kernel), go1 sc_co Sa (fun c4 => ?_) fun c4 H4 b4 S4 => ?_⟩
      · rw [if_neg c4] at e0
        refine q2 ?_ _ ba
        rw [el]
        exact e0
      rw [if_pos c4, d1] at e0
      obtain ⟨⟨dx4, hp4⟩, _, _⟩ := id S4
      have b04 := ba.trans b4
      have ha4 := b4 a1 _ upd_same hap
      refine ⟨p, z, j3 + 1, left - 1, rfl, hn', S4, fun ex r he5 H5 v5 j5 b5 S5 hij5 hr hv5 => ?_, fun he5 H5 b5 => ?_⟩
      rotate_left
      · rw [he5] at e0
        refine q2 ?_ H5 (b04.trans b5)
        rw [el]
        exact e0
      subst hr
      rw [he5] at e0
      simp only at e0
      obtain ⟨⟨dx5, hp5⟩, _, _⟩ := id S5
      have b05 := b04.trans b5
      have ha5 := b5 a1 _ ha4 hap
      have hv6 : Dp K (dif H H5) v pl.toD := Dp.same (dif_more hp b5) (Dp.same (dif_more hp b4) hv1)
      have hv7 : Dp K (dif H H5) v5 ex.toD := Dp.same (dif_back hp4 b04) hv5
      refine ⟨by rw [sizeLine_eq]; omega, fun a2 na2 => ?_⟩
      have S6 : SrcAt K (upd H5 a2 (.tup [v5])) p z j5 := SrcAt.new S5 na2
      have b06 : But p H (upd H5 a2 (.tup [v5])) := But.new b05 hp5 na2
      obtain ⟨⟨dx6, hp6⟩, _, _⟩ := id S6
      have ha6 : upd H5 a2 (.tup [v5]) a1 = some (.tup [V.str (St t), v]) := by
        rw [upd_ne (ne_of_none ha5 na2)]
        exact ha5
      refine ⟨_, SqT.of ha6, _, SqT.of upd_same, by rw [sizeLine_eq]; simp, fun h => (by cases h), fun _ h => (by cases h), fun _ _ a3 na3 => ?_⟩
      have S7 : SrcAt K (upd (upd H5 a2 (.tup [v5])) a3 (.tup ([V.str (St t), v] ++ [v5]))) p z j5 := SrcAt.new S6 na3
      have b07 : But p H (upd (upd H5 a2 (.tup [v5])) a3 (.tup ([V.str (St t), v] ++ [v5]))) := But.new b06 hp6 na3
      obtain ⟨⟨dx7, hp7⟩, _, _⟩ := id S7
      refine ⟨_, _, hp7, sf_no (by decide +kernel) (by decide +kernel), go1 sc_rp S7 (fun c8 => ?_) fun c8 H8 b8 S8 => ?_⟩
      · rw [if_neg c8] at e0
        refine q2 ?_ _ b07
        rw [el]
        exact e0
      · rw [if_pos c8, d1] at e0
        refine q1 _ _ (by rw [el]; exact e0) H8 _ _ (b07.trans b8) S8 (by omega) rfl (Dp.same (dif_more hp b8) ?_)
        rw [Ex.toD, toDs, toDs, toDs]
        exact tup_new na3 (free_of b06 hp6 na3) (.cons (.str _) (.cons (Dp.same (dif_upd na2) hv6) (.cons (Dp.same (dif_upd na2) hv7) .nil)))
    · rw [if_neg co] at e0
      rw [if_neg (by rw [st_w]; exact co)]
      refine ⟨_, _, hpa, sf_no (by decide +kernel) (by decide +kernel), go1 sc_rp Sa (fun c8 => ?_) fun c8 H8 b8 S8 => ?_⟩
      · rw [if_neg c8] at e0
        refine q2 ?_ _ ba
        rw [el]
        exact e0
      · rw [if_pos c8, d1] at e0
        refine q1 _ _ (by rw [el]; exact e0) H8 _ _ (ba.trans b8) S8 (by omega) rfl (Dp.same (dif_more hp b8) ?_)
        rw [Ex.toD, toDs, toDs]
        exact tup_new na1 ha (.cons (.str _) (.cons (Dp.same (dif_back hp2 b12) hv) .nil))
theorem or3 {x : Tx} {W B : Prop} (hx : x.length ≤ 1) (hW : (x = [34] ∨ x.any isFig = true) → W) (hB : ¬ (x = [34] ∨ x.any isFig = true) → B) :
    (if St x = Str.ofString "\"" then W else if ¬ St x = Str.ofString "" then ∃ c, St x = ⟨#[c]⟩ ∧ (if c ∈ (Str.ofString "0123456789").cps.toList then W else B) else B) := by
  simp only [sc_q, sc_emp, st_eq]
  match x, hx with
  | [], _ =>
    rw [if_neg (by simp), if_neg (by simp)]
    exact hB (by simp)
  | [c], _ =>
    by_cases h : [c] = [34]
    · rw [if_pos h]
      exact hW (.inl h)
    · rw [if_neg h, if_pos (by simp)]
      refine ⟨c, rfl, ?_⟩
      have e : (c ∈ (Str.ofString "0123456789").cps.toList) = (isFig c = true) := by unfold isFig figures; rw [decide_eq_true_eq]; rfl
      simp only [e]
      by_cases hf : isFig c = true
      · rw [if_pos hf]
        exact hW (.inr (by simpa using hf))
      · rw [if_neg hf]
        exact hB (by rintro (h1 | h1); exact h h1; exact hf (by simpa using h1))
  | _ :: _ :: _, h => exact absurd h (by simp)
theorem sc_single_read : FnScope ["source", "left", "sign"] ["source", "left"] (defScope s_single_read) := ⟨rfl, rfl, rfl, by decide +kernel, rfl, by decide +kernel, by decide +kernel⟩
theorem ok_single_read (T : Hd w K mg) {k n : Nat} (hk : 5 ≤ k) (M_Source_next_sign : Mt P w K mg base 1 (He.ga K "Source") "next_sign" (spNx K)) (M_Source_skips : Mt P w K mg base 2 (He.ga K "Source") "skips" (spSk K)) (D_worth_read : Dn P w K mg base 5 "worth_read" (spWoR K)) (D_under_read : Dn P w K mg base k "under_read" (spUn K n)) (D_call_read : Dn P w K mg base k "call_read" (spCa K (n + 1))) (D_place_read : Dn P w K mg base k "place_read" (spPl K (n + 1))) : Dn P w K mg base (k + 1) "single_read" (spSg K (n + 1)) := by
  obtain ⟨fd, F⟩ := T.fn_single_read
  refine dn_mk F T.g_single_read (F.binds (ps := ["source", "left"]) fun _ _ _ _ _ _ us hl => match us, hl with | [_, _], _ => rfl) sc_single_read (fun vs H Q E h => ?_) (fun cdv A outer s H vs Q E hr tk h => ?_)
  · obtain ⟨p, z, i, left, rfl, hn, hS, q1, q2⟩ := h
    rfl
  obtain ⟨p, z, i, left, rfl, hn, hS, q1, q2⟩ := h
  refine ⟨_, (pss_cons (ps_if (pt_cmpR op_lt (pv 1) pe_int (nomark _)) (pss_one (L2N.ps_raise rfl tk (L2N.pmk_own PySem.F.excBase_ValueError T.x_NoText T.g_NoText T.k_NoText (raises_own T.b_NoText T.t_NoText) rfl))) pss_nil) (pss_cons (ps_set (i := 2) sc_single_read.nd rfl (by first | exact Or.inl rfl | exact Or.inr rfl) (pe_m0 (pv 0) M_Source_next_sign hr (by first | decide | omega) (fun σ => L2N.passAt tk σ))) (pss_cons (ps_if (PW.pt (pw_or (pt_cmpR op_eq (pv 2) pe_str (nomark _)) (pw_or1 (PW.pt (pw_and (pt_cmpR op_ne (pv 2) pe_str (nomark _)) (pw_and1 (pt_cmpR op_in_sign (pv 2) (C8.pe_gc (by rfl) T.c_FIGURES) rfl))))))) (pss_one (ps_ret (pe_tup (pa_cons pe_str (pa_cons (pe_d D_worth_read hr (by first | decide | omega) (fun σ => L2N.passAt tk σ) (by rfl) (pa_cons (pv 0) pa_nil)) pa_nil))))) pss_nil) (pss_cons (ps_if (pt_val (pe_m (pv 0) M_Source_skips hr (by first | decide | omega) (fun σ => L2N.passAt tk σ) (pa_cons pe_str pa_nil))) (pss_one (ps_ret (pe_tup (pa_cons pe_str (pa_cons (pe_d D_under_read hr (by first | decide | omega) (fun σ => L2N.passAt tk σ) (by rfl) (pa_cons (pv 0) (pa_cons (pe_op op_sub (pv 1) pe_int) pa_nil))) pa_nil))))) pss_nil) (pss_cons (ps_if (pt_val (pe_m (pv 0) M_Source_skips hr (by first | decide | omega) (fun σ => L2N.passAt tk σ) (pa_cons pe_str pa_nil))) (pss_one (ps_ret (pe_tup (pa_cons pe_str (pa_cons (pe_d D_under_read hr (by first | decide | omega) (fun σ => L2N.passAt tk σ) (by rfl) (pa_cons (pv 0) (pa_cons (pe_op op_sub (pv 1) pe_int) pa_nil))) pa_nil))))) pss_nil) (pss_cons (ps_if (pt_val (pe_m (pv 0) M_Source_skips hr (by first | decide | omega) (fun σ => L2N.passAt tk σ) (pa_cons pe_str pa_nil))) (pss_one (ps_ret (pe_d D_call_read hr (by first | decide | omega) (fun σ => L2N.passAt tk σ) (by rfl) (pa_cons (pv 0) (pa_cons (pv 1) pa_nil))))) pss_nil) (pss_one (ps_ret (pe_d D_place_read hr (by first | decide | omega) (fun σ => L2N.passAt tk σ) (by rfl) (pa_cons (pv 0) (pa_cons (pv 1) pa_nil))))))))))), ?_⟩
  obtain ⟨⟨dx, hp⟩, hi, hz⟩ := id hS
  walk_at "rd"
  by_cases hl : left < 1
  · rw [if_pos hl]
    refine q2 ?_ H But.refl
    rw [show left.toNat = 0 by omega, sgR_zero]
  rw [if_neg hl]
  have e0 := congrFun (sgR_succ (left - 1).toNat) (rem z i)
  rw [show (left - 1).toNat + 1 = left.toNat by omega] at e0
  rw [singleR.eq_def] at e0
  simp only [hp]
  walk_at "rd"
  refine ⟨sf_no (by decide +kernel) (by decide +kernel), p, z, i, rfl, hS, ?_⟩
  walk_at "rd"
  refine or3 (by rw [List.length_take]; omega) (fun c => ?_) fun c => ?_
  · rw [if_pos c] at e0
    refine ⟨p, z, i, rfl, hS, fun wo r he H2 v j b2 S2 hij hr hv => ?_, fun he H2 b2 => ?_⟩
    rotate_left
    · rw [he] at e0
      exact q2 e0 H2 b2
    subst hr
    obtain rfl : v = _ := hv
    rw [he] at e0
    obtain ⟨⟨dx2, hp2⟩, _, _⟩ := id S2
    refine ⟨by rw [sizeLine_eq]; omega, fun a na => q1 _ _ e0 _ _ j (But.new b2 hp2 na) (SrcAt.new S2 na) hij rfl ?_⟩
    show Dp K _ _ (Ex.toD _)
    rw [Ex.toD]
    exact tup_new na (free_of b2 hp2 na) (.cons (.str _) (.cons (.str _) .nil))
  rw [if_neg c] at e0
  have hn' : left - 1 ≤ (n : Int) := by omega
  refine ⟨_, _, hp, sf_no (by decide +kernel) (by decide +kernel), sk1 sc_ap hS (fun c1 => ?_) fun c1 H1 b1 S1 => ?_⟩
  rotate_left
  · rw [if_pos c1, d1] at e0
    obtain ⟨⟨dx1, hp1⟩, _, _⟩ := id S1
    refine ⟨true, rfl, ?_⟩
    rw [if_pos rfl]
    refine ⟨p, z, i + 1, left - 1, rfl, hn', S1, fun ex r he H2 v j b2 S2 hij hr hv => ?_, fun he H2 b2 => ?_⟩
    rotate_left
    · unfold unR at he
      rw [he] at e0
      exact q2 e0 H2 (b1.trans b2)
    subst hr
    unfold unR at he
    rw [he] at e0
    obtain ⟨⟨dx2, hp2⟩, _, _⟩ := id S2
    have b := b1.trans b2
    refine ⟨by rw [sizeLine_eq]; omega, fun a na => q1 _ _ e0 _ _ j (But.new b hp2 na) (SrcAt.new S2 na) (by omega) rfl ?_⟩
    show Dp K _ _ (Ex.toD _)
    rw [Ex.toD]
    exact tup_new na (free_of b hp2 na) (.cons (.str _) (.cons (Dp.same (dif_back hp1 b1) hv) .nil))
  rw [if_neg c1] at e0
  refine ⟨false, rfl, ?_⟩
  rw [if_neg (by decide)]
  refine ⟨_, _, hp, sf_no (by decide +kernel) (by decide +kernel), sk1 sc_mi hS (fun c2 => ?_) fun c2 H1 b1 S1 => ?_⟩
  rotate_left
  · rw [if_pos c2, d1] at e0
    obtain ⟨⟨dx1, hp1⟩, _, _⟩ := id S1
    refine ⟨true, rfl, ?_⟩
    rw [if_pos rfl]
    refine ⟨p, z, i + 1, left - 1, rfl, hn', S1, fun ex r he H2 v j b2 S2 hij hr hv => ?_, fun he H2 b2 => ?_⟩
    rotate_left
    · unfold unR at he
      rw [he] at e0
      exact q2 e0 H2 (b1.trans b2)
    subst hr
    unfold unR at he
    rw [he] at e0
    obtain ⟨⟨dx2, hp2⟩, _, _⟩ := id S2
    have b := b1.trans b2
    refine ⟨by rw [sizeLine_eq]; omega, fun a na => q1 _ _ e0 _ _ j (But.new b hp2 na) (SrcAt.new S2 na) (by omega) rfl ?_⟩
    show Dp K _ _ (Ex.toD _)
    rw [Ex.toD]
    exact tup_new na (free_of b hp2 na) (.cons (.str _) (.cons (Dp.same (dif_back hp1 b1) hv) .nil))
  rw [if_neg c2] at e0
  refine ⟨false, rfl, ?_⟩
  rw [if_neg (by decide)]
  refine ⟨_, _, hp, sf_no (by decide +kernel) (by decide +kernel), sk1 sc_do hS (fun c3 => ?_) fun c3 H1 b1 S1 => ?_⟩
  · rw [if_neg c3] at e0
    refine ⟨false, rfl, ?_⟩
    rw [if_neg (by decide)]
    exact ⟨p, z, i, left, rfl, hn, hS, fun e r h => q1 e r (e0.trans h), fun h => q2 (e0.trans h)⟩
  · rw [if_pos c3, d1] at e0
    rw [show (left - 1).toNat - 1 = (left - 2).toNat by omega] at e0
    obtain ⟨⟨dx1, hp1⟩, _, _⟩ := id S1
    refine ⟨true, rfl, ?_⟩
    rw [if_pos rfl]
    exact ⟨p, z, i + 1, left, rfl, hn, S1, fun e r h H' v j b S hij hr hv => q1 e r (e0.trans h) H' v j (b1.trans b) S (by omega) hr (Dp.same (dif_back hp1 b1) hv), fun h H' b => q2 (e0.trans h) H' (b1.trans b)⟩
end
end Sk

/-! ## C6 -/
namespace Sk
open PySem PySem.Spec PyProof.Rows L2
set_option hygiene false in
local macro_rules | `(tactic| walk_at "rd") => `(tactic| simp only [tVar, tC, tB, tAnd, tOr, tNot, tAndV, tOrV, tNotV, tIf, tNext, tSeq, tBreak, tCont, tDrop, tRet, tRetN, tIfS, tAsg, tAug, tOp, tUn, tTest, tChain, tFld, sFldAug, sFld, rAdd, tNil, tCons, tTup, tLst, tCB, tNoPart, tPart, tSl, tBM0, tBM, tYes, tM0, tM1, CwR.tReplC, tCallS, tMethS, tMakeS, gName, wipe, tyV, gTup, gCons, gNil,
  rI, rI0, rEq, rNe, scal, rPlus, rPlusI, rPlusS, rCat, rCatA, rIx, rIxL, rIxT, rIxS, rSl, rSlS, rSlL, rSlA, iPlus, iPlusI, iPlusS, ipI, rAll, rAny, LenV, WE, E0, rAppend,
  L2.start, List.map_cons, List.map_nil, List.length_cons, List.length_nil, Nat.zero_add, Nat.add_zero, Nat.reduceAdd, Nat.reduceSub, Nat.sub_self, List.replicate_zero, List.replicate_succ, List.append_nil, List.nil_append, List.cons_append, List.getElem?_cons_zero, List.getElem?_cons_succ, List.set_cons_zero, List.set_cons_succ, Option.some.injEq,
  V.int.injEq, V.str.injEq, V.bl.injEq, V.ref.injEq, V.ty.injEq, HO.ins.injEq, HO.lst.injEq, HO.tup.injEq, List.cons.injEq, reduceCtorEq, false_and, and_false, true_and, and_true, and_assoc, exists_const, exists_false, false_or, or_false, exists_eq_left', exists_eq_left, exists_eq_right, exists_eq_right', exists_and_left, ↓reduceIte, decide_eq_true_eq, Bool.not_eq_true', decide_eq_false_iff_not, if_true, if_false, cxOf, and_self, Bool.not_true, Bool.not_false, Bool.false_eq_true,
  sf_signs, sf_spot, sf_put, T.cl_Source, T.na_Source_signs, T.na_Source_spot, sg_inj, upd_same, rIsS, tyN, kb1, kb2, kb3, kb4, kb5, kb6, kb7, kb8, kb9, kb10, kb11, kb12, kb13, kb14, kb15, kb16, kb17, kb18, kb19, kb20, kb21, tDNewK, rPowW])
def tailX (U : Rd1 Ex) (n k : Nat) (f : Ex) (l : Tx) : Option (Ex × Tx) := match opsTail U k f l with
  | some (g, r2) => if g.dep ≤ n then some (g, r2) else none
  | none => none
theorem tailX_end {U : Rd1 Ex} {n k : Nat} {f : Ex} {l : Tx} (h : ¬ (l.take 1).any isOp = true) : tailX U n k f l = if f.dep ≤ n then some (f, l) else none := by
  unfold tailX
  cases k with
  | zero => rw [opsTail, if_neg h]
  | succ k => rw [opsTail, if_neg h]
theorem tailX_zero {U : Rd1 Ex} {n : Nat} {f : Ex} {l : Tx} (h : (l.take 1).any isOp = true) : tailX U n 0 f l = none := by
  unfold tailX
  rw [opsTail, if_pos h]
theorem tailX_more {U : Rd1 Ex} {n k : Nat} {f : Ex} {l : Tx} (h : (l.take 1).any isOp = true) : tailX U n (k + 1) f l = match U (l.drop 1) with
    | some (e, r) => tailX U n k (.op (l.headD 0) f e) r
    | none => none := by
  unfold tailX
  rw [opsTail, if_pos h]
  cases U (l.drop 1) <;> rfl
theorem exR_eq {m : Nat} {l : Tx} : exR (m + 1) l = match sgR (m + 1) l with
    | some (s, r) => if (r.take 1).any isOp = true then tailX (unR m) (m + 1) 39 s r else some (s, r)
    | none => none := by
  rw [exR_succ]
  rfl
section
variable {P : Program} {w : World} {K : PySem.W.Frag} {mg : Str → Option Value} {base : Heap}
def ExI (K : PySem.W.Frag) (p : Addr) (z : Str) (i : Nat) (left : Int) (H : Hp) (j m : Nat) (f : Ex) (v : V) (σ' : SS) (H' : Hp) : Prop :=
  (∃ u, σ' = [some (.ref p), some (.int left), some v, some (.int (m : Int)), u]) ∧ SrcAt K H' p z j ∧ i ≤ j ∧ But p H H' ∧ Dp K (dif H H') v f.toD ∧ f.sz + (rem z j).length ≤ (rem z i).length ∧ m ≤ 39 ∧
    exR left.toNat (rem z i) = if m = 0 ∧ ¬ ((rem z j).take 1).any isOp = true then some (f, rem z j) else tailX (unR (left - 1).toNat) left.toNat (39 - m) f (rem z j)
def ExN (K : PySem.W.Frag) (p : Addr) (z : Str) (i : Nat) (left : Int) (H : Hp) (k : Nat) (σ' : SS) (H' : Hp) : Prop := ∃ j m f v, (rem z j).length < k ∧ ExI K p z i left H j m f v σ' H'
def ExW (K : PySem.W.Frag) (p : Addr) (z : Str) (i : Nat) (left : Int) (H : Hp) (k : Nat) (σ' : SS) (H' : Hp) : Prop := ∃ j m f v, k = (rem z j).length ∧ ExI K p z i left H j m f v σ' H'
theorem sc_expression_from : FnScope ["source", "left", "found", "many", "sign"] ["source", "left"] (defScope s_expression_from) := ⟨rfl, rfl, rfl, by decide +kernel, rfl, by decide +kernel, by decide +kernel⟩
theorem ok_expression_from (T : Hd w K mg) {k n : Nat} (hk : 3 ≤ k) (M_Source_next_sign : Mt P w K mg base 1 (He.ga K "Source") "next_sign" (spNx K)) (M_Source_goes_past : Mt P w K mg base 3 (He.ga K "Source") "goes_past" (spGo K)) (D_single_read : Dn P w K mg base k "single_read" (spSg K (n + 1))) (D_under_read : Dn P w K mg base k "under_read" (spUn K n)) (D_is_within : Dn P w K mg base k "is_within" (spWi K 0 (n + 1))) : Dn P w K mg base (k + 1) "expression_from" (spEx K (n + 1)) := by
  obtain ⟨fd, F⟩ := T.fn_expression_from
  refine dn_mk F T.g_expression_from (F.binds (ps := ["source", "left"]) fun _ _ _ _ _ _ us hl => match us, hl with | [_, _], _ => rfl) sc_expression_from (fun vs H Q E h => ?_) (fun cdv A outer s H vs Q E hr tk h => ?_)
  · obtain ⟨p, z, i, left, rfl, hn, hS, q1, q2⟩ := h
    rfl
  obtain ⟨p, z, i, left, rfl, hn, hS, q1, q2⟩ := h
  refine ⟨_, (pss_cons (ps_set (i := 2) sc_expression_from.nd rfl (by first | exact Or.inl rfl | exact Or.inr rfl) (pe_d D_single_read hr (by first | decide | omega) (fun σ => L2N.passAt tk σ) (by rfl) (pa_cons (pv 0) (pa_cons (pv 1) pa_nil)))) (pss_cons (ps_set (i := 3) sc_expression_from.nd rfl (by first | exact Or.inl rfl | exact Or.inr rfl) pe_int) (pss_cons (ps_while (passes_of rfl) (PW.pt (pw_and (pt_cmpR op_ne (pe_m0 (pv 0) M_Source_next_sign hr (by first | decide | omega) (fun σ => L2N.passAt tk σ)) pe_str (nomark _)) (pw_and1 (pt_cmpR op_in_sign (pe_m0 (pv 0) M_Source_next_sign hr (by first | decide | omega) (fun σ => L2N.passAt tk σ)) (C8.pe_gc (by rfl) T.c_OPS) rfl)))) (pss_cons (ps_aug (i := 3) sc_expression_from.nd rfl (by first | exact Or.inl rfl | exact Or.inr rfl) pe_int ip_add) (pss_cons (ps_if (pt_cmpR op_eq (pv 3) (C8.pe_gc (by rfl) T.c_MOST_LEVELS) (nomark _)) (pss_one (L2N.ps_raise rfl tk (L2N.pmk_own PySem.F.excBase_ValueError T.x_NoText T.g_NoText T.k_NoText (raises_own T.b_NoText T.t_NoText) rfl))) pss_nil) (pss_cons (ps_set (i := 4) sc_expression_from.nd rfl (by first | exact Or.inl rfl | exact Or.inr rfl) (pe_m0 (pv 0) M_Source_next_sign hr (by first | decide | omega) (fun σ => L2N.passAt tk σ))) (pss_cons (ps_expr (pe_m (pv 0) M_Source_goes_past hr (by first | decide | omega) (fun σ => L2N.passAt tk σ) (pa_cons (pv 4) pa_nil))) (pss_one (ps_set (i := 2) sc_expression_from.nd rfl (by first | exact Or.inl rfl | exact Or.inr rfl) (pe_tup (pa_cons pe_str (pa_cons (pv 4) (pa_cons (pv 2) (pa_cons (pe_d D_under_read hr (by first | decide | omega) (fun σ => L2N.passAt tk σ) (by rfl) (pa_cons (pv 0) (pa_cons (pe_op op_sub (pv 1) pe_int) pa_nil))) pa_nil)))))))))))) (pss_cons (ps_if (PW.pt (pw_and (pt_cmpR op_gt (pv 3) pe_int (nomark _)) (pw_and1 (pt_not (pt_val (pe_d D_is_within hr (by first | decide | omega) (fun σ => L2N.passAt tk σ) (by rfl) (pa_cons (pv 2) (pa_cons (pv 1) pa_nil)))))))) (pss_one (L2N.ps_raise rfl tk (L2N.pmk_own PySem.F.excBase_ValueError T.x_NoText T.g_NoText T.k_NoText (raises_own T.b_NoText T.t_NoText) rfl))) pss_nil) (pss_one (ps_ret (pv 2))))))), ?_⟩
  obtain ⟨⟨dx, hp⟩, hi, hz⟩ := id hS
  walk_at "rd"
  refine ⟨p, z, i, left, rfl, hn, hS, fun s r he H1 v j b1 S1 hij hr hv => ?_, fun he H1 b1 => ?_⟩
  rotate_left
  · refine q2 ?_ H1 b1
    by_cases hl : left < 1
    · rw [show left.toNat = 0 by omega, exR_zero]
    · rw [show left.toNat = (left - 1).toNat + 1 by omega] at he ⊢
      rw [exR_eq, he]
  subst hr
  have hl : ¬ left < 1 := fun h => by
    rw [show left.toNat = 0 by omega, sgR_zero] at he
    cases he
  have e0 := exR_eq (m := (left - 1).toNat) (l := rem z i)
  rw [show (left - 1).toNat + 1 = left.toNat by omega, he] at e0
  simp only at e0
  refine while_w (ExW K p z i left H) _ ⟨j, 0, s, v, rfl, ⟨_, rfl⟩, S1, hij, b1, hv, sgR_sh _ _ _ _ he, by omega, ?_⟩ ?_
  · rw [e0]
    by_cases c : ((rem z j).take 1).any isOp = true
    · rw [if_pos c, if_neg (by simp [c])]
    · rw [if_neg c, if_pos ⟨rfl, c⟩]
  rintro k0 σ H2 ⟨j2, m, f, v2, rfl, ⟨u, rfl⟩, S2, hij2, b2, hv2, hsz, hm, e2⟩
  obtain ⟨⟨dx2, hp2⟩, _, _⟩ := id S2
  walk_at "rd"
  simp only [hp2]
  walk_at "rd"
  have hE : ∀ X : XK, ¬ ((rem z j2).take 1).any isOp = true → (if (0 : Int) < (m : Int) then spWi K 0 (n + 1) [v2, V.int left] H2 (fun x H1 => ∃ c, x = V.bl c ∧ if c = false then E (Value.ref (He.ga K (Str.ofString "NoText"))) none H1 else Q v2 H1) X else Q v2 H2) := fun X c => by
    by_cases hm0 : m = 0
    · rw [if_neg (by omega)]
      rw [if_pos ⟨hm0, c⟩] at e2
      exact q1 _ _ e2 H2 v2 j2 b2 S2 hij2 rfl hv2
    · rw [if_pos (by omega)]
      rw [if_neg (fun h => hm0 h.1), tailX_end c] at e2
      refine ⟨v2, left, rfl, .inr (.inl ⟨f, Dp.same dif_sub hv2, by rw [rem_len] at hsz; rw [rem_len] at hsz; omega, hn, fun H3 s3 => ⟨_, rfl, ?_⟩⟩)⟩
      by_cases hd : f.dep ≤ left.toNat
      · rw [if_pos hd] at e2
        rw [if_neg (by simp [hd])]
        obtain ⟨h1, h2⟩ := S2
        exact q1 _ _ e2 H3 v2 j2 (b2.trans (But.of s3)) ⟨⟨dx2, s3 _ _ hp2⟩, h2⟩ hij2 rfl (Dp.same (dif_more hp (But.of s3)) hv2)
      · rw [if_neg hd] at e2
        rw [if_pos (by simp [hd])]
        exact q2 e2 H3 (b2.trans (But.of s3))
  refine ⟨sf_no (by decide +kernel) (by decide +kernel), p, z, j2, rfl, S2, ?_⟩
  walk_at "rd"
  rw [sc_emp]
  simp only [st_eq]
  cases ht : rem z j2 with
  | nil =>
    rw [ht] at hE
    rw [if_neg (by simp)]
    exact hE _ (by simp)
  | cons c r =>
    rw [if_pos (by simp)]
    simp only [hp2]
    walk_at "rd"
    refine ⟨sf_no (by decide +kernel) (by decide +kernel), p, z, j2, rfl, S2, ?_⟩
    rw [ht]
    refine ⟨c, rfl, ?_⟩
    have e9 : (c ∈ (Str.ofString "+-*/#<>=_[]&!").cps.toList) = (isOp c = true) := by unfold isOp opsL; rw [decide_eq_true_eq]; rfl
    simp only [e9]
    have ea : ((rem z j2).take 1).any isOp = isOp c := by rw [ht]; simp
    have eh : (rem z j2).headD 0 = c := by rw [ht]; rfl
    have et : (rem z j2).take 1 = [c] := by rw [ht]; rfl
    by_cases hop : isOp c = true
    · rw [if_pos hop]
      have hany : ((rem z j2).take 1).any isOp = true := by rw [ea]; exact hop
      rw [if_neg (fun h => h.2 hany)] at e2
      refine ⟨ExN K p z i left H (rem z j2).length, fun σ' H' h => ?_, ?_⟩
      · obtain ⟨j', m', f', v', hm', h⟩ := h
        exact ⟨_, by rw [ht] at hm'; exact hm', j', m', f', v', rfl, h⟩
      by_cases h40 : (m : Int) + 1 = 40
      · rw [if_pos h40]
        rw [show 39 - m = 0 by omega, tailX_zero hany] at e2
        exact q2 e2 H2 b2
      · rw [if_neg h40]
        rw [show 39 - m = 39 - (m + 1) + 1 by omega, tailX_more hany, d1, eh] at e2
        refine ⟨_, _, hp2, sf_no (by decide +kernel) (by decide +kernel), p, z, j2, rfl, S2, ?_⟩
        refine ⟨_, _, hp2, sf_no (by decide +kernel) (by decide +kernel), go1 (c := c) (by rw [et]) S2 (fun cc => absurd et cc) fun _ H3 b3 S3 => ?_⟩
        obtain ⟨⟨dx3, hp3⟩, _, _⟩ := id S3
        have b23 := b2.trans b3
        refine ⟨p, z, j2 + 1, left - 1, rfl, by omega, S3, fun ex r he4 H4 v4 j4 b4 S4 hij4 hr4 hv4 => ?_, fun he4 H4 b4 => ?_⟩
        rotate_left
        · rw [he4] at e2
          exact q2 e2 H4 (b23.trans b4)
        subst hr4
        rw [he4] at e2
        simp only at e2
        obtain ⟨⟨dx4, hp4⟩, _, _⟩ := id S4
        have b24 := b23.trans b4
        have hsz4 := underR_sh (sgR_sh _) (exR_sh _) _ _ _ he4
        have hlen : (rem z j2).length = (rem z (j2 + 1)).length + 1 := by rw [← d1]; exact tkAny hany
        refine ⟨by rw [sizeLine_eq]; omega, fun a na => ⟨j4, m + 1, .op c f ex, _, by omega, ⟨_, rfl⟩, SrcAt.new S4 na, by omega, But.new b24 hp4 na, ?_, ?_, by omega, ?_⟩⟩
        · rw [Ex.toD, et]
          exact tup_new na (free_of b24 hp4 na) (.cons (.str _) (.cons (.str _) (.cons (Dp.same (dif_more hp b4) (Dp.same (dif_more hp b3) hv2)) (.cons (Dp.same (dif_back hp3 b23) hv4) .nil))))
        · rw [Ex.sz]
          omega
        · rw [if_neg (fun h => by omega)]
          exact e2
    · rw [if_neg hop]
      exact hE _ (by rw [ea]; exact hop)
theorem Dn.false_under_read (T : Hd w K mg) (k : Nat) : Dn P w K mg base k "under_read" (fun _ _ _ _ => False) := by
  obtain ⟨fd, F⟩ := T.fn_under_read
  exact ⟨_, fd, ["source", "left"], ⟨fun _ _ _ _ h => h.elim, fun _ _ _ _ _ _ _ _ _ _ _ _ _ h => h.elim⟩, T.g_under_read, F.kp, F.binds (ps := ["source", "left"]) fun _ _ _ _ _ _ us hl => match us, hl with | [_, _], _ => rfl⟩
theorem Dn.false_call_read (T : Hd w K mg) (k : Nat) : Dn P w K mg base k "call_read" (fun _ _ _ _ => False) := by
  obtain ⟨fd, F⟩ := T.fn_call_read
  exact ⟨_, fd, ["source", "left"], ⟨fun _ _ _ _ h => h.elim, fun _ _ _ _ _ _ _ _ _ _ _ _ _ h => h.elim⟩, T.g_call_read, F.kp, F.binds (ps := ["source", "left"]) fun _ _ _ _ _ _ us hl => match us, hl with | [_, _], _ => rfl⟩
theorem Dn.false_place_read (T : Hd w K mg) (k : Nat) : Dn P w K mg base k "place_read" (fun _ _ _ _ => False) := by
  obtain ⟨fd, F⟩ := T.fn_place_read
  exact ⟨_, fd, ["source", "left"], ⟨fun _ _ _ _ h => h.elim, fun _ _ _ _ _ _ _ _ _ _ _ _ _ h => h.elim⟩, T.g_place_read, F.kp, F.binds (ps := ["source", "left"]) fun _ _ _ _ _ _ us hl => match us, hl with | [_, _], _ => rfl⟩
namespace Base
abbrev spF : Sp := fun _ _ _ _ => False
theorem sc_single_read : FnScope ["source", "left", "sign"] ["source", "left"] (defScope s_single_read) := ⟨rfl, rfl, rfl, by decide +kernel, rfl, by decide +kernel, by decide +kernel⟩
theorem ok_single_read (T : Hd w K mg) {k : Nat} (hk : k ≤ 5) (M_Source_next_sign : Mt P w K mg base 1 (He.ga K "Source") "next_sign" (spNx K)) (M_Source_skips : Mt P w K mg base 2 (He.ga K "Source") "skips" (spSk K)) (D_worth_read : Dn P w K mg base 5 "worth_read" (spWoR K)) (D_under_read : Dn P w K mg base k "under_read" spF) (D_call_read : Dn P w K mg base k "call_read" spF) (D_place_read : Dn P w K mg base k "place_read" spF) : Dn P w K mg base 6 "single_read" (spSg K 0) := by
  obtain ⟨fd, F⟩ := T.fn_single_read
  refine dn_mk F T.g_single_read (F.binds (ps := ["source", "left"]) fun _ _ _ _ _ _ us hl => match us, hl with | [_, _], _ => rfl) sc_single_read (fun vs H Q E h => ?_) (fun cdv A outer s H vs Q E hr tk h => ?_)
  · obtain ⟨p, z, i, left, rfl, hn, hS, q1, q2⟩ := h
    rfl
  obtain ⟨p, z, i, left, rfl, hn, hS, q1, q2⟩ := h
  refine ⟨_, (pss_cons (ps_if (pt_cmpR op_lt (pv 1) pe_int (nomark _)) (pss_one (L2N.ps_raise rfl tk (L2N.pmk_own PySem.F.excBase_ValueError T.x_NoText T.g_NoText T.k_NoText (raises_own T.b_NoText T.t_NoText) rfl))) pss_nil) (pss_cons (ps_set (i := 2) sc_single_read.nd rfl (by first | exact Or.inl rfl | exact Or.inr rfl) (pe_m0 (pv 0) M_Source_next_sign hr (by first | decide | omega) (fun σ => L2N.passAt tk σ))) (pss_cons (ps_if (PW.pt (pw_or (pt_cmpR op_eq (pv 2) pe_str (nomark _)) (pw_or1 (PW.pt (pw_and (pt_cmpR op_ne (pv 2) pe_str (nomark _)) (pw_and1 (pt_cmpR op_in_sign (pv 2) (C8.pe_gc (by rfl) T.c_FIGURES) rfl))))))) (pss_one (ps_ret (pe_tup (pa_cons pe_str (pa_cons (pe_d D_worth_read hr (by first | decide | omega) (fun σ => L2N.passAt tk σ) (by rfl) (pa_cons (pv 0) pa_nil)) pa_nil))))) pss_nil) (pss_cons (ps_if (pt_val (pe_m (pv 0) M_Source_skips hr (by first | decide | omega) (fun σ => L2N.passAt tk σ) (pa_cons pe_str pa_nil))) (pss_one (ps_ret (pe_tup (pa_cons pe_str (pa_cons (pe_d D_under_read hr (by first | decide | omega) (fun σ => L2N.passAt tk σ) (by rfl) (pa_cons (pv 0) (pa_cons (pe_op op_sub (pv 1) pe_int) pa_nil))) pa_nil))))) pss_nil) (pss_cons (ps_if (pt_val (pe_m (pv 0) M_Source_skips hr (by first | decide | omega) (fun σ => L2N.passAt tk σ) (pa_cons pe_str pa_nil))) (pss_one (ps_ret (pe_tup (pa_cons pe_str (pa_cons (pe_d D_under_read hr (by first | decide | omega) (fun σ => L2N.passAt tk σ) (by rfl) (pa_cons (pv 0) (pa_cons (pe_op op_sub (pv 1) pe_int) pa_nil))) pa_nil))))) pss_nil) (pss_cons (ps_if (pt_val (pe_m (pv 0) M_Source_skips hr (by first | decide | omega) (fun σ => L2N.passAt tk σ) (pa_cons pe_str pa_nil))) (pss_one (ps_ret (pe_d D_call_read hr (by first | decide | omega) (fun σ => L2N.passAt tk σ) (by rfl) (pa_cons (pv 0) (pa_cons (pv 1) pa_nil))))) pss_nil) (pss_one (ps_ret (pe_d D_place_read hr (by first | decide | omega) (fun σ => L2N.passAt tk σ) (by rfl) (pa_cons (pv 0) (pa_cons (pv 1) pa_nil))))))))))), ?_⟩
  walk_at "rd"
  have hl : left < 1 := by omega
  rw [if_pos hl]
  refine q2 ?_ H But.refl
  rw [show left.toNat = 0 by omega, sgR_zero]
theorem sc_expression_from : FnScope ["source", "left", "found", "many", "sign"] ["source", "left"] (defScope s_expression_from) := ⟨rfl, rfl, rfl, by decide +kernel, rfl, by decide +kernel, by decide +kernel⟩
theorem ok_expression_from (T : Hd w K mg) {k : Nat} (hk : k ≤ 5) (M_Source_next_sign : Mt P w K mg base 1 (He.ga K "Source") "next_sign" (spNx K)) (M_Source_goes_past : Mt P w K mg base 3 (He.ga K "Source") "goes_past" (spGo K)) (D_single_read : Dn P w K mg base 6 "single_read" (spSg K 0)) (D_under_read : Dn P w K mg base k "under_read" spF) (D_is_within : Dn P w K mg base k "is_within" spF) : Dn P w K mg base 7 "expression_from" (spEx K 0) := by
  obtain ⟨fd, F⟩ := T.fn_expression_from
  refine dn_mk F T.g_expression_from (F.binds (ps := ["source", "left"]) fun _ _ _ _ _ _ us hl => match us, hl with | [_, _], _ => rfl) sc_expression_from (fun vs H Q E h => ?_) (fun cdv A outer s H vs Q E hr tk h => ?_)
  · obtain ⟨p, z, i, left, rfl, hn, hS, q1, q2⟩ := h
    rfl
  obtain ⟨p, z, i, left, rfl, hn, hS, q1, q2⟩ := h
  refine ⟨_, (pss_cons (ps_set (i := 2) sc_expression_from.nd rfl (by first | exact Or.inl rfl | exact Or.inr rfl) (pe_d D_single_read hr (by first | decide | omega) (fun σ => L2N.passAt tk σ) (by rfl) (pa_cons (pv 0) (pa_cons (pv 1) pa_nil)))) (pss_cons (ps_set (i := 3) sc_expression_from.nd rfl (by first | exact Or.inl rfl | exact Or.inr rfl) pe_int) (pss_cons (ps_while (passes_of rfl) (PW.pt (pw_and (pt_cmpR op_ne (pe_m0 (pv 0) M_Source_next_sign hr (by first | decide | omega) (fun σ => L2N.passAt tk σ)) pe_str (nomark _)) (pw_and1 (pt_cmpR op_in_sign (pe_m0 (pv 0) M_Source_next_sign hr (by first | decide | omega) (fun σ => L2N.passAt tk σ)) (C8.pe_gc (by rfl) T.c_OPS) rfl)))) (pss_cons (ps_aug (i := 3) sc_expression_from.nd rfl (by first | exact Or.inl rfl | exact Or.inr rfl) pe_int ip_add) (pss_cons (ps_if (pt_cmpR op_eq (pv 3) (C8.pe_gc (by rfl) T.c_MOST_LEVELS) (nomark _)) (pss_one (L2N.ps_raise rfl tk (L2N.pmk_own PySem.F.excBase_ValueError T.x_NoText T.g_NoText T.k_NoText (raises_own T.b_NoText T.t_NoText) rfl))) pss_nil) (pss_cons (ps_set (i := 4) sc_expression_from.nd rfl (by first | exact Or.inl rfl | exact Or.inr rfl) (pe_m0 (pv 0) M_Source_next_sign hr (by first | decide | omega) (fun σ => L2N.passAt tk σ))) (pss_cons (ps_expr (pe_m (pv 0) M_Source_goes_past hr (by first | decide | omega) (fun σ => L2N.passAt tk σ) (pa_cons (pv 4) pa_nil))) (pss_one (ps_set (i := 2) sc_expression_from.nd rfl (by first | exact Or.inl rfl | exact Or.inr rfl) (pe_tup (pa_cons pe_str (pa_cons (pv 4) (pa_cons (pv 2) (pa_cons (pe_d D_under_read hr (by first | decide | omega) (fun σ => L2N.passAt tk σ) (by rfl) (pa_cons (pv 0) (pa_cons (pe_op op_sub (pv 1) pe_int) pa_nil))) pa_nil)))))))))))) (pss_cons (ps_if (PW.pt (pw_and (pt_cmpR op_gt (pv 3) pe_int (nomark _)) (pw_and1 (pt_not (pt_val (pe_d D_is_within hr (by first | decide | omega) (fun σ => L2N.passAt tk σ) (by rfl) (pa_cons (pv 2) (pa_cons (pv 1) pa_nil)))))))) (pss_one (L2N.ps_raise rfl tk (L2N.pmk_own PySem.F.excBase_ValueError T.x_NoText T.g_NoText T.k_NoText (raises_own T.b_NoText T.t_NoText) rfl))) pss_nil) (pss_one (ps_ret (pv 2))))))), ?_⟩
  walk_at "rd"
  refine ⟨p, z, i, left, rfl, hn, hS, fun s r he H1 v j b1 S1 hij hr hv => ?_, fun he H1 b1 => ?_⟩
  · rw [show left.toNat = 0 by omega, sgR_zero] at he
    cases he
  · refine q2 ?_ H1 b1
    rw [show left.toNat = 0 by omega, exR_zero]
end Base
/-- what reads a text: the methods, and the small readers -/
structure Rds (P : Program) (w : World) (K : PySem.W.Frag) (mg : Str → Option Value) (base : Heap) : Prop where
  comes_next : Mt P w K mg base 1 (He.ga K "Source") "comes_next" (spCN K)
  skips : Mt P w K mg base 2 (He.ga K "Source") "skips" (spSk K)
  goes_past : Mt P w K mg base 3 (He.ga K "Source") "goes_past" (spGo K)
  run_of : Mt P w K mg base 1 (He.ga K "Source") "run_of" (spRun K)
  next_sign : Mt P w K mg base 1 (He.ga K "Source") "next_sign" (spNx K)
  at_end : Mt P w K mg base 1 (He.ga K "Source") "at_end" (spEnd K)
  name_read : Dn P w K mg base 3 "name_read" (spName K)
  quoted_read : Dn P w K mg base 4 "quoted_read" (spQuR K)
  worth_read : Dn P w K mg base 5 "worth_read" (spWoR K)
  shown_worth : Dn P w K mg base 3 "shown_worth" spShownW
  quoted : Dn P w K mg base 1 "quoted" spQuoted
  is_name : Dn P w K mg base 1 "is_name" spIsName
  is_worth : Dn P w K mg base 1 "is_worth" spIsWorth
  is_number_text : Dn P w K mg base 2 "is_number_text" spNumT
theorem rds (T : Hd w K mg) : Rds P w K mg base := by
  have h1 := ok_Source_comes_next (P := P) (base := base) T
  have h2 := ok_Source_skips (P := P) (base := base) T h1
  have h3 := ok_Source_goes_past (P := P) (base := base) T h2
  have h4 := ok_Source_run_of (P := P) (base := base) T
  have h5 := ok_Source_next_sign (P := P) (base := base) T
  have h6 := ok_Source_at_end (P := P) (base := base) T
  have a1 := ok_is_name (P := P) (base := base) T
  have a2 := ok_is_worth (P := P) (base := base) T
  have a3 := ok_signs_ahead (P := P) (base := base) T
  have a4 := ok_is_number_text (P := P) (base := base) T a3
  have a5 := ok_quoted (P := P) (base := base) T
  have a6 := ok_shown_worth (P := P) (base := base) T a4 a5
  have b1 := ok_name_read (P := P) (base := base) T h4 a1
  have b2 := ok_quoted_read (P := P) (base := base) T h3 h2 a2
  have b3 := ok_worth_read (P := P) (base := base) T h1 h4 b2 a6 a4
  exact ⟨h1, h2, h3, h4, h5, h6, b1, b2, b3, a6, a5, a1, a2, a4⟩
/-- single_read, expression_from, place_read -/
theorem ex_chain (T : Hd w K mg) : ∀ n : Nat, Dn P w K mg base (5 * n + 7) "single_read" (spSg K n) ∧ Dn P w K mg base (5 * n + 8) "expression_from" (spEx K n) ∧ Dn P w K mg base (5 * n + 10) "place_read" (spPl K n)
  | 0 => by
    have R := rds (P := P) (base := base) T
    have h := Base.ok_single_read (P := P) (base := base) T (k := 5) (by decide) R.next_sign R.skips R.worth_read (Dn.false_under_read T _) (Dn.false_call_read T _) (Dn.false_place_read T _)
    have he := Base.ok_expression_from T (k := 5) (by decide) R.next_sign R.goes_past h (Dn.false_under_read T _) (Dn.false T _)
    have hpa := ok_parts_read T (by omega) R.goes_past R.skips he
    have hsp := ok_some_parts_read T (by omega) R.comes_next hpa
    have hpl := ok_place_read T (by omega) R.skips R.comes_next R.name_read (hpa.mono (by omega)) hsp
    refine ⟨h.mono (by omega), he.mono (by omega), hpl.imp fun vs H Q E h => ?_⟩
    obtain ⟨p, z, i, left, rfl, hn, h⟩ := h
    exact ⟨p, z, i, left, rfl, by omega, h⟩
  | n + 1 => by
    have R := rds (P := P) (base := base) T
    obtain ⟨hs, he, hp⟩ := ex_chain T n
    have hpa := ok_parts_read T (by omega) R.goes_past R.skips he
    have hsp := ok_some_parts_read T (by omega) R.comes_next hpa
    have hpl := ok_place_read T (by omega) R.skips R.comes_next R.name_read (hpa.mono (by omega)) hsp
    have hun := ok_under_read T (by omega) R.skips R.goes_past (hs.mono (by omega)) he
    have hca := ok_call_read T (by omega) R.run_of R.goes_past (hpa.mono (by omega)) hp (he.mono (by omega))
    have hsi := ok_single_read T (by omega) R.next_sign R.skips R.worth_read (hun.mono (by omega)) hca hpl
    have hw := (wi_chain (P := P) (base := base) T (n + 1)).1 (5 * n + 12) (by omega)
    exact ⟨hsi, ok_expression_from T (by omega) R.next_sign R.goes_past hsi (hun.mono (by omega)) hw, hpl.mono (by omega)⟩
end
end Sk

/-! ## C7 -/
namespace Sk
open PySem PySem.Spec PyProof.Rows L2
set_option hygiene false in
local macro_rules | `(tactic| walk_at "rd") => `(tactic| simp only [tVar, tC, tB, tAnd, tOr, tNot, tAndV, tOrV, tNotV, tIf, tNext, tSeq, tBreak, tCont, tDrop, tRet, tRetN, tIfS, tAsg, tAug, tOp, tUn, tTest, tChain, tFld, sFldAug, sFld, rAdd, tNil, tCons, tTup, tLst, tCB, tNoPart, tPart, tSl, tBM0, tBM, tYes, tM0, tM1, CwR.tReplC, tCallS, tMethS, tMakeS, gName, wipe, tyV, gTup, gCons, gNil,
  rI, rI0, rEq, rNe, scal, rPlus, rPlusI, rPlusS, rCat, rCatA, rIx, rIxL, rIxT, rIxS, rSl, rSlS, rSlL, rSlA, iPlus, iPlusI, iPlusS, ipI, rAll, rAny, LenV, WE, E0, rAppend,
  L2.start, List.map_cons, List.map_nil, List.length_cons, List.length_nil, Nat.zero_add, Nat.add_zero, Nat.reduceAdd, Nat.reduceSub, Nat.sub_self, List.replicate_zero, List.replicate_succ, List.append_nil, List.nil_append, List.cons_append, List.getElem?_cons_zero, List.getElem?_cons_succ, List.set_cons_zero, List.set_cons_succ, Option.some.injEq,
  V.int.injEq, V.str.injEq, V.bl.injEq, V.ref.injEq, V.ty.injEq, HO.ins.injEq, HO.lst.injEq, HO.tup.injEq, List.cons.injEq, reduceCtorEq, false_and, and_false, true_and, and_true, and_assoc, exists_const, exists_false, false_or, or_false, exists_eq_left', exists_eq_left, exists_eq_right, exists_eq_right', exists_and_left, ↓reduceIte, decide_eq_true_eq, Bool.not_eq_true', decide_eq_false_iff_not, if_true, if_false, cxOf, and_self, Bool.not_true, Bool.not_false, Bool.false_eq_true,
  sf_signs, sf_spot, sf_put, T.cl_Source, T.na_Source_signs, T.na_Source_spot, sg_inj, upd_same, rIsS, tyN, kb1, kb2, kb3, kb4, kb5, kb6, kb7, kb8, kb9, kb10, kb11, kb12, kb13, kb14, kb15, kb16, kb17, kb18, kb19, kb20, kb21, tDNewK, rPowW])
theorem sc_eq : Str.ofString "=" = St [61] := by decide +kernel
theorem sc_cl : Str.ofString ":" = St [58] := by decide +kernel
theorem sc_bl : Str.ofString " " = St [32] := by decide +kernel
theorem sc_ba : Str.ofString "|" = St [124] := by decide +kernel
theorem sc_bb : Str.ofString "  " = St [32, 32] := by decide +kernel
theorem sc_sb : Str.ofString "; " = St [59, 32] := by decide +kernel
theorem pre1 {c : Nat} {l : Tx} : List.isPrefixOf [c] l = decide (l.take 1 = [c]) := pre_c c l
section
variable {P : Program} {w : World} {K : PySem.W.Frag} {mg : Str → Option Value} {base : Heap}
/-- a list that grows while a text is read -/
structure LI (K : PySem.W.Frag) (p : Addr) (z : Str) (i : Nat) (H : Hp) (a : Addr) (j : Nat) (ds : List PyData) (acc : List V) (H' : Hp) : Prop where
  src : SrcAt K H' p z j
  le : i ≤ j
  but : But p H H'
  free : H a = none
  at_ : H' a = some (.lst acc)
  all : DpAll K (difO H a H') acc ds
  len : acc.length ≤ j + 1
theorem LI.start {p : Addr} {z : Str} {i j : Nat} {H H1 H2 : Hp} {a : Addr} {v : V} {d : PyData} {o : HO} (hp1 : H1 p = some o) (b1 : But p H H1) (b2 : But p H1 H2) (S : SrcAt K H2 p z j) (hij : i ≤ j) (hv : Dp K (dif H1 H2) v d) (na : H2 a = none) :
    LI K p z i H a j [d] [v] (upd H2 a (.lst [v])) := by
  obtain ⟨⟨dx2, hp2⟩, _, _⟩ := id S
  refine ⟨SrcAt.new S na, by omega, But.new (b1.trans b2) hp2 na, free_of (b1.trans b2) hp2 na, upd_same, ?_, by simp⟩
  rw [difO_upd]
  exact .cons (Dp.same (difO_new na) (Dp.same (dif_back hp1 b1) hv)) .nil
theorem LI.start0 {p : Addr} {z : Str} {i j : Nat} {H H2 : Hp} {a : Addr} (b2 : But p H H2) (S : SrcAt K H2 p z j) (hij : i ≤ j) (na : H2 a = none) : LI K p z i H a j [] [] (upd H2 a (.lst [])) := by
  obtain ⟨⟨dx2, hp2⟩, _, _⟩ := id S
  exact ⟨SrcAt.new S na, hij, But.new b2 hp2 na, free_of b2 hp2 na, upd_same, .nil, Nat.zero_le _⟩
theorem LI.ne {p : Addr} {z : Str} {i j : Nat} {H H' : Hp} {a : Addr} {ds : List PyData} {acc : List V} (L : LI K p z i H a j ds acc H') : a ≠ p := fun e => by
  obtain ⟨⟨dx, hp⟩, _, _⟩ := L.src
  have := L.at_
  rw [e, hp] at this
  cases this
theorem LI.skip {p : Addr} {z : Str} {i j j5 : Nat} {H H' H5 : Hp} {a : Addr} {ds : List PyData} {acc : List V} {o : HO} (hp : H p = some o) (L : LI K p z i H a j ds acc H') (b5 : But p H' H5) (S5 : SrcAt K H5 p z j5) (h : j ≤ j5) : LI K p z i H a j5 ds acc H5 :=
  ⟨S5, Nat.le_trans L.le h, L.but.trans b5, L.free, b5 _ _ L.at_ L.ne, DpAll.same (difO_more hp b5) L.all, Nat.le_trans L.len (Nat.succ_le_succ h)⟩
theorem LI.step {p : Addr} {z : Str} {i j j6 : Nat} {H H5 H6 : Hp} {a : Addr} {ds : List PyData} {acc : List V} {o : HO} {v : V} {d : PyData} (hp : H p = some o) (L : LI K p z i H a j ds acc H5) (b6 : But p H5 H6) (S6 : SrcAt K H6 p z j6) (h : j ≤ j6) (hl : acc.length ≤ j6) (hv : Dp K (dif H5 H6) v d) :
    H6 a = some (.lst acc) ∧ acc.length < sizeLine ∧ LI K p z i H a j6 (ds ++ [d]) (acc ++ [v]) (upd H6 a (.lst (acc ++ [v]))) := by
  have ha6 := b6 _ _ L.at_ L.ne
  obtain ⟨⟨dx5, hp5⟩, _, _⟩ := L.src
  obtain ⟨⟨dx6, hp6⟩, h6, hz⟩ := S6
  refine ⟨ha6, by rw [sizeLine_eq]; omega, ⟨⟨dx6, by rw [upd_ne L.ne.symm]; exact hp6⟩, h6, hz⟩, Nat.le_trans L.le (by omega), fun b o h e => ?_, L.free, upd_same, ?_, ?_⟩
  · rw [upd_ne (ne_of_none h L.free)]
    exact (L.but.trans b6) b o h e
  · rw [difO_upd]
    exact DpAll.snoc (DpAll.same (difO_more hp b6) L.all) (Dp.same (difO_back hp5 L.at_ L.but) hv)
  · rw [List.length_append, List.length_singleton]
    omega
theorem LI.out {p : Addr} {z : Str} {i j : Nat} {H H' : Hp} {a : Addr} {ds : List PyData} {acc : List V} (L : LI K p z i H a j ds acc H') : Dp K (dif H H') (.ref a) (.list ds) :=
  .lst (SqL.of (dif_eq.mpr ⟨L.free, L.at_⟩)) (DpAll.same difO_sub L.all)
def repD (K : PySem.W.Frag) (H : Hp) : Hp → V → PyData → Prop := fun H' v d => Dp K (dif H H') v d
def repLD (K : PySem.W.Frag) (H : Hp) : Hp → V → List PyData → Prop := fun H' v d => Dp K (dif H H') v (.list d)
theorem rem_lt {z : Str} {i j : Nat} (h : i < j) (hi : i < z.length) : (rem z j).length < (rem z i).length := by rw [rem_len, rem_len]; omega
theorem lt_of_pre {z : Str} {i : Nat} {s : Tx} (h : s.isPrefixOf (rem z i) = true) : s.length ≤ z.length - i := by
  rw [List.isPrefixOf_iff_prefix] at h
  have := h.length_le
  rwa [rem_len] at this
theorem lt_of_tk {z : Str} {i c : Nat} (h : (rem z i).take 1 = [c]) : i < z.length := by
  have := tk1 h
  rw [rem_len] at this
  omega
def spNs (K : PySem.W.Frag) : Sp := fun vs H Q E => ∃ p z i, vs = [.ref p] ∧ SrcAt K H p z i ∧ PQ K namesR (repLD K H) p z i H Q E
/-- the loop: how far, what is there, by what is left -/
def ItW (K : PySem.W.Frag) (p : Addr) (z : Str) (i : Nat) (H : Hp) (sep : Tx) (I : Rd1 PyData) (res : Option (List PyData × Tx)) (a : Addr) (τ : SS) (m : Nat) (σ' : SS) (H' : Hp) : Prop :=
  ∃ j f ds acc, m = (rem z j).length ∧ σ' = τ ∧ LI K p z i H a j ds acc H' ∧ res = itR sep I (f + 1) (rem z j) ds ∧ (rem z j).length ≤ f
def ItN (K : PySem.W.Frag) (p : Addr) (z : Str) (i : Nat) (H : Hp) (sep : Tx) (I : Rd1 PyData) (res : Option (List PyData × Tx)) (a : Addr) (τ : SS) (m : Nat) (σ' : SS) (H' : Hp) : Prop :=
  ∃ m', m' < m ∧ ItW K p z i H sep I res a τ m' σ' H'
theorem sc_names_read : FnScope ["source", "found"] ["source"] (defScope s_names_read) := ⟨rfl, rfl, rfl, by decide +kernel, rfl, by decide +kernel, by decide +kernel⟩
theorem ok_names_read (T : Hd w K mg) (M_Source_skips : Mt P w K mg base 2 (He.ga K "Source") "skips" (spSk K)) (D_name_read : Dn P w K mg base 3 "name_read" (spName K)) : Dn P w K mg base 4 "names_read" (spNs K) := by
  obtain ⟨fd, F⟩ := T.fn_names_read
  refine dn_mk F T.g_names_read (F.binds (ps := ["source"]) fun _ _ _ _ _ _ us hl => match us, hl with | [_], _ => rfl) sc_names_read (fun vs H Q E h => ?_) (fun cdv A outer s H vs Q E hr tk h => ?_)
  · obtain ⟨p, z, i, rfl, hS, q1, q2⟩ := h
    rfl
  obtain ⟨p, z, i, rfl, hS, q1, q2⟩ := h
  refine ⟨_, (pss_cons (ps_set (i := 1) sc_names_read.nd rfl (by first | exact Or.inl rfl | exact Or.inr rfl) (pe_lst (pa_cons (pe_d D_name_read hr (by first | decide | omega) (fun σ => L2N.passAt tk σ) (by rfl) (pa_cons (pv 0) pa_nil)) pa_nil))) (pss_cons (ps_while (passes_of rfl) (pt_val (pe_m (pv 0) M_Source_skips hr (by first | decide | omega) (fun σ => L2N.passAt tk σ) (pa_cons pe_str pa_nil))) (pss_one (ps_expr (pe_bm PySem.F.plainAttrs_list PySem.F.slot_list_append PySem.F.type_list_append mt_append (pv 1) (pa_cons (pe_d D_name_read hr (by first | decide | omega) (fun σ => L2N.passAt tk σ) (by rfl) (pa_cons (pv 0) pa_nil)) pa_nil))))) (pss_one (ps_ret (pv 1))))), ?_⟩
  obtain ⟨⟨dx, hp⟩, hi, hz⟩ := id hS
  walk_at "rd"
  have e0 := itemsR_eq (sep := [44]) (I := nameD) (l := rem z i)
  unfold nameD at e0
  refine ⟨p, z, i, rfl, hS, fun n r he H2 v j b2 S2 hij hr hv => ?_, fun he H2 b2 => ?_⟩
  rotate_left
  · rw [he] at e0
    exact q2 e0 H2 b2
  subst hr
  obtain rfl : v = _ := hv
  have hnl := nameR_len he
  rw [rem_len, rem_len] at hnl
  rw [he] at e0
  simp only at e0
  have e1 : namesR (rem z i) = itR [44] nameD ((rem z j).length + 1) (rem z j) [.str (St n)] := e0
  refine ⟨by rw [sizeLine_eq]; omega, fun a na => ?_⟩
  refine while_w (ItW K p z i H [44] nameD (namesR (rem z i)) a [some (.ref p), some (.ref a)]) _ ⟨j, (rem z j).length, _, _, rfl, rfl, LI.start hp But.refl b2 S2 (by omega) (.str _) na, e1, Nat.le_refl _⟩ ?_
  rintro m σ H4 ⟨j4, f, ds, acc, rfl, rfl, L4, e4, hf⟩
  obtain ⟨⟨dx4, hp4⟩, hj4, _⟩ := id L4.src
  walk_at "rd"
  simp only [hp4]
  walk_at "rd"
  refine ⟨sf_no (by decide +kernel) (by decide +kernel), sk1 sc_co L4.src (fun c4 => ?_) fun c4 H5 b5 S5 => ?_⟩
  · refine ⟨false, rfl, ?_⟩
    rw [if_neg (by decide)]
    rw [itR_end (by rw [pre1]; exact decide_eq_false c4)] at e4
    exact q1 _ _ e4 H4 _ j4 L4.but L4.src L4.le rfl L4.out
  · refine ⟨true, rfl, ?_⟩
    rw [if_pos rfl]
    have L5 := L4.skip hp b5 S5 (Nat.le_succ _)
    rw [itR_more (by rw [pre1]; exact decide_eq_true c4)] at e4
    have e5 : namesR (rem z i) = match nameD (rem z (j4 + 1)) with
      | some (d, r) => itR [44] nameD f r (ds ++ [d])
      | none => none := by rw [← d1]; exact e4
    unfold nameD at e5
    refine ⟨ItN K p z i H [44] nameD (namesR (rem z i)) a [some (.ref p), some (.ref a)] (rem z j4).length, fun σ' H' h => h, .inl ⟨acc, SqL.of L5.at_⟩, p, z, j4 + 1, rfl, S5, fun n6 r6 he6 H6 v6 j6 b6 S6 hij6 hr6 hv6 => ?_, fun he6 H6 b6 => ?_⟩
    · subst hr6
      obtain rfl : v6 = _ := hv6
      have hnl6 := nameR_len he6
      rw [rem_len, rem_len] at hnl6
      rw [he6] at e5
      simp only at e5
      obtain ⟨g1, g2, g3⟩ := L5.step hp b6 S6 (by omega) (by have := L4.len; omega) (.str (St n6))
      have hlt := lt_of_tk c4
      rw [rem_len] at hf
      refine ⟨acc, g1, g2, _, ?_, j6, f - 1, _, _, rfl, rfl, g3, ?_, ?_⟩
      · rw [rem_len, rem_len]
        omega
      · rw [e5, show f - 1 + 1 = f by omega]
        rfl
      · rw [rem_len]
        omega
    · rw [he6] at e5
      exact q2 e5 H6 (L5.but.trans b6)
theorem go_ex {H : Hp} {p : Addr} {z : Str} {i c : Nat} {y : Str} {Q : VK} {E : XK} (hy : y = St [c]) (hS : SrcAt K H p z i) (h : PQ K (past c (exR 40)) (repE K H) p z i H Q E) :
    spGo K [.ref p, .str y] H (fun _ H1 => spEx K 40 [.ref p, .int 40] H1 Q E) E := by
  obtain ⟨⟨dx, hp⟩, _⟩ := id hS
  refine go1 hy hS (fun c0 => h.2 (by unfold past; rw [if_neg c0]) H But.refl) fun c1 H1 b1 S1 => ?_
  obtain ⟨⟨dx1, hp1⟩, _⟩ := id S1
  have e : past c (exR 40) (rem z i) = exR 40 (rem z (i + 1)) := by unfold past; rw [if_pos c1, d1]
  refine ⟨p, z, i + 1, 40, rfl, by decide, S1, fun ex r he H2 v j b2 S2 hij hr hv => h.1 ex r (e.trans he) H2 v j (b1.trans b2) S2 (by omega) hr (Dp.same (dif_back hp1 b1) hv), fun he H2 b2 => h.2 (e.trans he) H2 (b1.trans b2)⟩
def spFor (K : PySem.W.Frag) : Sp := fun vs H Q E => ∃ p z i, vs = [.ref p] ∧ SrcAt K H p z i ∧ PQ K forR (repD K H) p z i H Q E
theorem sc_for_read : FnScope ["source", "name", "first", "step"] ["source"] (defScope s_for_read) := ⟨rfl, rfl, rfl, by decide +kernel, rfl, by decide +kernel, by decide +kernel⟩
theorem ok_for_read (T : Hd w K mg) {k : Nat} (hk : 3 ≤ k) (M_Source_goes_past : Mt P w K mg base 3 (He.ga K "Source") "goes_past" (spGo K)) (D_name_read : Dn P w K mg base 3 "name_read" (spName K)) (D_expression_from : Dn P w K mg base k "expression_from" (spEx K 40)) : Dn P w K mg base (k + 1) "for_read" (spFor K) := by
  obtain ⟨fd, F⟩ := T.fn_for_read
  refine dn_mk F T.g_for_read (F.binds (ps := ["source"]) fun _ _ _ _ _ _ us hl => match us, hl with | [_], _ => rfl) sc_for_read (fun vs H Q E h => ?_) (fun cdv A outer s H vs Q E hr tk h => ?_)
  · obtain ⟨p, z, i, rfl, hS, q1, q2⟩ := h
    rfl
  obtain ⟨p, z, i, rfl, hS, q1, q2⟩ := h
  refine ⟨_, (pss_cons (ps_set (i := 1) sc_for_read.nd rfl (by first | exact Or.inl rfl | exact Or.inr rfl) (pe_d D_name_read hr (by first | decide | omega) (fun σ => L2N.passAt tk σ) (by rfl) (pa_cons (pv 0) pa_nil))) (pss_cons (ps_expr (pe_m (pv 0) M_Source_goes_past hr (by first | decide | omega) (fun σ => L2N.passAt tk σ) (pa_cons pe_str pa_nil))) (pss_cons (ps_set (i := 2) sc_for_read.nd rfl (by first | exact Or.inl rfl | exact Or.inr rfl) (pe_d D_expression_from hr (by first | decide | omega) (fun σ => L2N.passAt tk σ) (by rfl) (pa_cons (pv 0) (pa_cons (C8.pe_gc (by rfl) T.c_MOST_LEVELS) pa_nil)))) (pss_cons (ps_expr (pe_m (pv 0) M_Source_goes_past hr (by first | decide | omega) (fun σ => L2N.passAt tk σ) (pa_cons pe_str pa_nil))) (pss_cons (ps_set (i := 3) sc_for_read.nd rfl (by first | exact Or.inl rfl | exact Or.inr rfl) (pe_d D_expression_from hr (by first | decide | omega) (fun σ => L2N.passAt tk σ) (by rfl) (pa_cons (pv 0) (pa_cons (C8.pe_gc (by rfl) T.c_MOST_LEVELS) pa_nil)))) (pss_cons (ps_expr (pe_m (pv 0) M_Source_goes_past hr (by first | decide | omega) (fun σ => L2N.passAt tk σ) (pa_cons pe_str pa_nil))) (pss_one (ps_ret (pe_tup (pa_cons pe_str (pa_cons (pv 1) (pa_cons (pv 2) (pa_cons (pv 3) (pa_cons (pe_d D_expression_from hr (by first | decide | omega) (fun σ => L2N.passAt tk σ) (by rfl) (pa_cons (pv 0) (pa_cons (C8.pe_gc (by rfl) T.c_MOST_LEVELS) pa_nil))) pa_nil)))))))))))))), ?_⟩
  obtain ⟨⟨dx, hp⟩, hi, hz⟩ := id hS
  walk_at "rd"
  have e0 := forR.eq_def (rem z i)
  refine ⟨p, z, i, rfl, hS, fun n r he H1 v j1 b1 S1 hij1 hr hv => ?_, fun he H1 b1 => ?_⟩
  rotate_left
  · rw [he] at e0
    exact q2 e0 H1 b1
  subst hr
  obtain rfl : v = _ := hv
  rw [he] at e0
  simp only at e0
  obtain ⟨⟨dx1, hp1⟩, _, _⟩ := id S1
  simp only [hp1]
  walk_at "rd"
  refine ⟨sf_no (by decide +kernel) (by decide +kernel), go_ex (E := E) sc_eq S1 ⟨fun f1 r he H2 v1 j2 b2 S2 hij2 hr hv1 => ?_, fun he H2 b2 => ?_⟩⟩
  rotate_left
  · rw [he] at e0
    exact q2 e0 H2 (b1.trans b2)
  subst hr
  rw [he] at e0
  simp only at e0
  obtain ⟨⟨dx2, hp2⟩, _, _⟩ := id S2
  have b02 := b1.trans b2
  refine ⟨_, _, hp2, sf_no (by decide +kernel) (by decide +kernel), go_ex (E := E) sc_cl S2 ⟨fun f2 r he H3 v2 j3 b3 S3 hij3 hr hv2 => ?_, fun he H3 b3 => ?_⟩⟩
  rotate_left
  · rw [he] at e0
    exact q2 e0 H3 (b02.trans b3)
  subst hr
  rw [he] at e0
  simp only at e0
  obtain ⟨⟨dx3, hp3⟩, _, _⟩ := id S3
  have b03 := b02.trans b3
  refine ⟨_, _, hp3, sf_no (by decide +kernel) (by decide +kernel), go_ex (E := E) sc_cl S3 ⟨fun f3 r he H4 v3 j4 b4 S4 hij4 hr hv3 => ?_, fun he H4 b4 => ?_⟩⟩
  rotate_left
  · rw [he] at e0
    exact q2 e0 H4 (b03.trans b4)
  subst hr
  rw [he] at e0
  simp only at e0
  obtain ⟨⟨dx4, hp4⟩, _, _⟩ := id S4
  have b04 := b03.trans b4
  refine ⟨by rw [sizeLine_eq]; omega, fun a na => q1 _ _ e0 _ _ j4 (But.new b04 hp4 na) (SrcAt.new S4 na) (by omega) rfl ?_⟩
  exact tup_new na (free_of b04 hp4 na) (.cons (.str _) (.cons (.str _) (.cons (Dp.same (dif_more hp b4) (Dp.same (dif_more hp b3) (Dp.same (dif_back hp1 b1) hv1))) (.cons (Dp.same (dif_more hp b4) (Dp.same (dif_back hp2 b02) hv2)) (.cons (Dp.same (dif_back hp3 b03) hv3) .nil)))))
theorem free_or {f C W : Prop} [Decidable f] (hW : f → C → W) (hC : C) : if f then W else C := by
  by_cases h : f
  · rw [if_pos h]
    exact hW h hC
  · rw [if_neg h]
    exact hC
def spDe (K : PySem.W.Frag) : Sp := fun vs H Q E => ∃ p z i, vs = [.ref p] ∧ SrcAt K H p z i ∧ PQ K deedR (repD K H) p z i H Q E
theorem sc_deed_read : FnScope ["source", "word", "place", "name"] ["source"] (defScope s_deed_read) := ⟨rfl, rfl, rfl, by decide +kernel, rfl, by decide +kernel, by decide +kernel⟩
theorem ok_deed_read (T : Hd w K mg) {k : Nat} (hk : 4 ≤ k) (M_Source_run_of : Mt P w K mg base 1 (He.ga K "Source") "run_of" (spRun K)) (M_Source_comes_next : Mt P w K mg base 1 (He.ga K "Source") "comes_next" (spCN K)) (M_Source_goes_past : Mt P w K mg base 3 (He.ga K "Source") "goes_past" (spGo K)) (D_name_read : Dn P w K mg base 3 "name_read" (spName K)) (D_names_read : Dn P w K mg base 4 "names_read" (spNs K)) (D_for_read : Dn P w K mg base k "for_read" (spFor K)) (D_place_read : Dn P w K mg base k "place_read" (spPl K 40)) (D_some_parts_read : Dn P w K mg base k "some_parts_read" (spSP K 40)) (D_expression_from : Dn P w K mg base k "expression_from" (spEx K 40)) : Dn P w K mg base (k + 1) "deed_read" (spDe K) := by
  obtain ⟨fd, F⟩ := T.fn_deed_read
  refine dn_mk F T.g_deed_read (F.binds (ps := ["source"]) fun _ _ _ _ _ _ us hl => match us, hl with | [_], _ => rfl) sc_deed_read (fun vs H Q E h => ?_) (fun cdv A outer s H vs Q E hr tk h => ?_)
  · obtain ⟨p, z, i, rfl, hS, q1, q2⟩ := h
    rfl
  obtain ⟨p, z, i, rfl, hS, q1, q2⟩ := h
  refine ⟨_, (pss_cons (ps_set (i := 1) sc_deed_read.nd rfl (by first | exact Or.inl rfl | exact Or.inr rfl) (pe_m (pv 0) M_Source_run_of hr (by first | decide | omega) (fun σ => L2N.passAt tk σ) (pa_cons (C8.pe_gc (by rfl) T.c_LETTERS) pa_nil))) (pss_cons (ps_if (pt_cmpR op_in_seq (pv 1) (C8.pe_gc (by rfl) T.c_ALONE) rfl) (pss_one (ps_ret (pe_tup (pa_cons (pv 1) pa_nil)))) pss_nil) (pss_cons (ps_if (PW.pt (pw_and (pt_cmpR op_eq (pv 1) pe_str (nomark _)) (pw_and1 (pt_not (pt_val (pe_m (pv 0) M_Source_comes_next hr (by first | decide | omega) (fun σ => L2N.passAt tk σ) (pa_cons pe_str pa_nil))))))) (pss_one (ps_ret (pe_tup (pa_cons pe_str pa_nil)))) pss_nil) (pss_cons (ps_expr (pe_m (pv 0) M_Source_goes_past hr (by first | decide | omega) (fun σ => L2N.passAt tk σ) (pa_cons pe_str pa_nil))) (pss_cons (ps_if (pt_cmpR op_in_seq (pv 1) (pe_tup (pa_cons pe_str (pa_cons pe_str (pa_cons pe_str pa_nil)))) rfl) (pss_one (ps_ret (pe_tup (pa_cons (pv 1) (pa_cons (pe_d D_place_read hr (by first | decide | omega) (fun σ => L2N.passAt tk σ) (by rfl) (pa_cons (pv 0) (pa_cons (C8.pe_gc (by rfl) T.c_MOST_LEVELS) pa_nil))) pa_nil))))) pss_nil) (pss_cons (ps_if (pt_cmpR op_in_seq (pv 1) (pe_tup (pa_cons pe_str (pa_cons pe_str pa_nil))) rfl) (pss_one (ps_ret (pe_tup (pa_cons (pv 1) (pa_cons (pe_d D_expression_from hr (by first | decide | omega) (fun σ => L2N.passAt tk σ) (by rfl) (pa_cons (pv 0) (pa_cons (C8.pe_gc (by rfl) T.c_MOST_LEVELS) pa_nil))) pa_nil))))) pss_nil) (pss_cons (ps_if (pt_cmpR op_eq (pv 1) pe_str (nomark _)) (pss_cons (ps_set (i := 2) sc_deed_read.nd rfl (by first | exact Or.inl rfl | exact Or.inr rfl) (pe_d D_place_read hr (by first | decide | omega) (fun σ => L2N.passAt tk σ) (by rfl) (pa_cons (pv 0) (pa_cons (C8.pe_gc (by rfl) T.c_MOST_LEVELS) pa_nil)))) (pss_cons (ps_expr (pe_m (pv 0) M_Source_goes_past hr (by first | decide | omega) (fun σ => L2N.passAt tk σ) (pa_cons pe_str pa_nil))) (pss_one (ps_ret (pe_tup (pa_cons (pv 1) (pa_cons (pv 2) (pa_cons (pe_d D_expression_from hr (by first | decide | omega) (fun σ => L2N.passAt tk σ) (by rfl) (pa_cons (pv 0) (pa_cons (C8.pe_gc (by rfl) T.c_MOST_LEVELS) pa_nil))) pa_nil)))))))) pss_nil) (pss_cons (ps_if (pt_cmpR op_eq (pv 1) pe_str (nomark _)) (pss_one (ps_ret (pe_d D_for_read hr (by first | decide | omega) (fun σ => L2N.passAt tk σ) (by rfl) (pa_cons (pv 0) pa_nil)))) pss_nil) (pss_cons (ps_if (pt_cmpR op_eq (pv 1) pe_str (nomark _)) (pss_cons (ps_set (i := 3) sc_deed_read.nd rfl (by first | exact Or.inl rfl | exact Or.inr rfl) (pe_d D_name_read hr (by first | decide | omega) (fun σ => L2N.passAt tk σ) (by rfl) (pa_cons (pv 0) pa_nil))) (pss_one (ps_ret (pe_tup (pa_cons (pv 1) (pa_cons (pv 3) (pa_cons (pe_d D_some_parts_read hr (by first | decide | omega) (fun σ => L2N.passAt tk σ) (by rfl) (pa_cons (pv 0) (pa_cons (C8.pe_gc (by rfl) T.c_MOST_LEVELS) pa_nil))) pa_nil))))))) pss_nil) (pss_cons (ps_if (pt_cmpR op_eq (pv 1) pe_str (nomark _)) (pss_one (ps_ret (pe_tup (pa_cons (pv 1) (pa_cons (pe_d D_names_read hr (by first | decide | omega) (fun σ => L2N.passAt tk σ) (by rfl) (pa_cons (pv 0) pa_nil)) pa_nil))))) pss_nil) (pss_one (L2N.ps_raise rfl tk (L2N.pmk_own PySem.F.excBase_ValueError T.x_NoText T.g_NoText T.k_NoText (raises_own T.b_NoText T.t_NoText) rfl))))))))))))), ?_⟩
  obtain ⟨⟨dx, hp⟩, hi, hz⟩ := id hS
  walk_at "rd"
  simp only [hp]
  walk_at "rd"
  have e0 := deedR.eq_def (rem z i)
  refine ⟨sf_no (by decide +kernel) (by decide +kernel), p, z, i, _, rfl, hS, fun H1 b1 S1 => ?_⟩
  have e1 : (fun c => decide (c ∈ tl (Str.ofString "abcdefghijklmnopqrstuvwxyz"))) = isLet := rfl
  rw [e1] at S1 ⊢
  have hwl := takeW_le (z := z) (i := i) isLet
  have hwr : rem z (i + ((rem z i).takeWhile isLet).length) = (rem z i).dropWhile isLet := by rw [rem_drop, drop_takeW]
  generalize hw : (rem z i).takeWhile isLet = t at *
  generalize hj1 : i + t.length = j1 at *
  have hij1 : i ≤ j1 := by omega
  rw [← hwr] at e0
  obtain ⟨⟨dx1, hp1⟩, _, _⟩ := id S1
  refine ⟨_, _, rfl, .inr (T.tt_ALONE _), rfl, rfl, _, rfl, ?_⟩
  have eA : inV (V.str (St t)) [V.str "else", V.str "quit", V.str "start", V.str "keep", V.str "undo", V.str "halt"] = decide (St t ∈ aloneL) := inV_strs (St t) aloneL
  walk_at "rd"
  rw [eA]
  simp only [decide_eq_true_eq]
  by_cases h1 : St t ∈ aloneL
  · rw [if_pos h1] at e0 ⊢
    exact ⟨by rw [sizeLine_eq]; omega, fun a na => q1 _ _ e0 _ _ j1 (But.new b1 hp1 na) (SrcAt.new S1 na) hij1 rfl (tup_new na (free_of b1 hp1 na) (.cons (.str _) .nil))⟩
  rw [if_neg h1] at e0 ⊢
  simp only [st_w]
  by_cases h2 : t = tl (Str.ofString "free") ∧ ¬ (rem z j1).take 1 = [32]
  · rw [if_pos h2] at e0
    rw [if_pos h2.1]
    refine ⟨_, _, hp1, sf_no (by decide +kernel) (by decide +kernel), cn1 sc_bl S1 ⟨_, rfl, ?_⟩⟩
    rw [if_pos (decide_eq_false h2.2)]
    exact ⟨by rw [sizeLine_eq]; omega, fun a na => q1 _ _ e0 _ _ j1 (But.new b1 hp1 na) (SrcAt.new S1 na) hij1 rfl (tup_new na (free_of b1 hp1 na) (.cons (.str _) .nil))⟩
  rw [if_neg h2] at e0
  refine free_or (fun hf hC => ⟨_, _, hp1, sf_no (by decide +kernel) (by decide +kernel), cn1 sc_bl S1 ⟨_, rfl, ?_⟩⟩) ?_
  · rw [if_neg (fun h => h2 ⟨hf, of_decide_eq_false h⟩)]
    exact hC
  refine ⟨_, _, hp1, sf_no (by decide +kernel) (by decide +kernel), go1 sc_bl S1 (fun c => ?_) fun c H2 b2 S2 => ?_⟩
  · unfold past at e0
    rw [if_neg c] at e0
    exact q2 e0 H1 b1
  unfold past at e0
  rw [if_pos c, d1] at e0
  refine ⟨by rw [sizeLine_eq]; omega, fun a1 na1 => ?_⟩
  have b02 := b1.trans b2
  obtain ⟨⟨dx2, hp2⟩, _, _⟩ := id S2
  have S3 := SrcAt.new (u := .tup [V.str "kill", V.str "lock", V.str "free"]) S2 na1
  have b03 := But.new (u := .tup [V.str "kill", V.str "lock", V.str "free"]) b02 hp2 na1
  refine ⟨_, _, rfl, .inr (SqT.of upd_same), rfl, rfl, _, rfl, ?_⟩
  generalize upd H2 a1 (.tup [V.str "kill", V.str "lock", V.str "free"]) = H3 at *
  obtain ⟨⟨dx3, hp3⟩, _, _⟩ := id S3
  have eB : inV (V.str (St t)) [V.str "kill", V.str "lock", V.str "free"] = decide (St t ∈ word1L) := inV_strs (St t) word1L
  simp only [Bool.false_eq_true, if_false]
  rw [eB]
  unfold deedB at e0
  by_cases h3 : St t ∈ word1L
  · rw [if_pos h3] at e0
    rw [if_pos (decide_eq_true h3)]
    refine ⟨p, z, j1 + 1, 40, rfl, by decide, S3, fun e r he H4 v j4 b4 S4 hij4 hr hv => ?_, fun he H4 b4 => ?_⟩
    rotate_left
    · have he : placeR (exR 39) (rem z (j1 + 1)) = none := he
      rw [he] at e0
      exact q2 e0 H4 (b03.trans b4)
    have he : placeR (exR 39) (rem z (j1 + 1)) = some (e, r) := he
    subst hr
    rw [he] at e0
    obtain ⟨⟨dx4, hp4⟩, _, _⟩ := id S4
    have b04 := b03.trans b4
    exact ⟨by rw [sizeLine_eq]; omega, fun a na => q1 _ _ e0 _ _ j4 (But.new b04 hp4 na) (SrcAt.new S4 na) (by omega) rfl (tup_new na (free_of b04 hp4 na) (.cons (.str _) (.cons (Dp.same (dif_back hp3 b03) hv) .nil)))⟩
  rw [if_neg h3] at e0
  rw [if_neg (by rw [decide_eq_true_eq]; exact h3)]
  refine ⟨by rw [sizeLine_eq]; omega, fun a2 na2 => ?_⟩
  have S6 := SrcAt.new (u := .tup [V.str "write", V.str "if"]) S3 na2
  have b06 := But.new (u := .tup [V.str "write", V.str "if"]) b03 hp3 na2
  refine ⟨_, _, rfl, .inr (SqT.of upd_same), rfl, rfl, _, rfl, ?_⟩
  generalize upd H3 a2 (.tup [V.str "write", V.str "if"]) = H6 at *
  obtain ⟨⟨dx6, hp6⟩, _, _⟩ := id S6
  have eC : inV (V.str (St t)) [V.str "write", V.str "if"] = decide (St t ∈ word2L) := inV_strs (St t) word2L
  simp only [Bool.false_eq_true, if_false]
  rw [eC]
  by_cases h4 : St t ∈ word2L
  · rw [if_pos h4] at e0
    rw [if_pos (decide_eq_true h4)]
    refine ⟨p, z, j1 + 1, 40, rfl, by decide, S6, fun e r he H4 v j4 b4 S4 hij4 hr hv => ?_, fun he H4 b4 => ?_⟩
    rotate_left
    · have he : exR 40 (rem z (j1 + 1)) = none := he
      rw [he] at e0
      exact q2 e0 H4 (b06.trans b4)
    have he : exR 40 (rem z (j1 + 1)) = some (e, r) := he
    subst hr
    rw [he] at e0
    obtain ⟨⟨dx4, hp4⟩, _, _⟩ := id S4
    have b04 := b06.trans b4
    exact ⟨by rw [sizeLine_eq]; omega, fun a na => q1 _ _ e0 _ _ j4 (But.new b04 hp4 na) (SrcAt.new S4 na) (by omega) rfl (tup_new na (free_of b04 hp4 na) (.cons (.str _) (.cons (Dp.same (dif_back hp6 b06) hv) .nil)))⟩
  rw [if_neg h4] at e0
  rw [if_neg (by rw [decide_eq_true_eq]; exact h4)]
  by_cases h5 : t = tl (Str.ofString "set")
  · rw [if_pos h5] at e0 ⊢
    refine ⟨p, z, j1 + 1, 40, rfl, by decide, S6, fun e r he H4 v j4 b4 S4 hij4 hr hv => ?_, fun he H4 b4 => ?_⟩
    rotate_left
    · have he : placeR (exR 39) (rem z (j1 + 1)) = none := he
      rw [he] at e0
      exact q2 e0 H4 (b06.trans b4)
    have he : placeR (exR 39) (rem z (j1 + 1)) = some (e, r) := he
    subst hr
    rw [he] at e0
    simp only at e0
    obtain ⟨⟨dx4, hp4⟩, _, _⟩ := id S4
    have b04 := b06.trans b4
    refine ⟨_, _, hp4, sf_no (by decide +kernel) (by decide +kernel), go_ex (E := E) sc_eq S4 ⟨fun f r he H5 v5 j5 b5 S5 hij5 hr hv5 => ?_, fun he H5 b5 => ?_⟩⟩
    rotate_left
    · rw [he] at e0
      exact q2 e0 H5 (b04.trans b5)
    subst hr
    rw [he] at e0
    obtain ⟨⟨dx5, hp5⟩, _, _⟩ := id S5
    have b05 := b04.trans b5
    exact ⟨by rw [sizeLine_eq]; omega, fun a na => q1 _ _ e0 _ _ j5 (But.new b05 hp5 na) (SrcAt.new S5 na) (by omega) rfl (tup_new na (free_of b05 hp5 na) (.cons (.str _) (.cons (Dp.same (dif_more hp b5) (Dp.same (dif_back hp6 b06) hv)) (.cons (Dp.same (dif_back hp4 b04) hv5) .nil))))⟩
  rw [if_neg h5] at e0 ⊢
  by_cases h6 : t = tl (Str.ofString "for")
  · rw [if_pos h6] at e0 ⊢
    exact ⟨p, z, j1 + 1, rfl, S6, fun d r he H4 v j4 b4 S4 hij4 hr hv => q1 d r (e0.trans he) H4 v j4 (b06.trans b4) S4 (by omega) hr (Dp.same (dif_back hp6 b06) hv), fun he H4 b4 => q2 (e0.trans he) H4 (b06.trans b4)⟩
  rw [if_neg h6] at e0 ⊢
  by_cases h7 : t = tl (Str.ofString "do")
  · rw [if_pos h7] at e0 ⊢
    refine ⟨p, z, j1 + 1, rfl, S6, fun n r he H4 v j4 b4 S4 hij4 hr hv => ?_, fun he H4 b4 => ?_⟩
    rotate_left
    · rw [he] at e0
      exact q2 e0 H4 (b06.trans b4)
    subst hr
    obtain rfl : v = _ := hv
    rw [he] at e0
    simp only at e0
    obtain ⟨⟨dx4, hp4⟩, _, _⟩ := id S4
    have b04 := b06.trans b4
    refine ⟨p, z, j4, 40, rfl, by decide, S4, fun es r he H5 v5 j5 b5 S5 hij5 hr hv5 => ?_, fun he H5 b5 => ?_⟩
    rotate_left
    · have he : somePartsR (exR 40) (rem z j4) = none := he
      rw [he] at e0
      exact q2 e0 H5 (b04.trans b5)
    have he : somePartsR (exR 40) (rem z j4) = some (es, r) := he
    subst hr
    rw [he] at e0
    obtain ⟨⟨dx5, hp5⟩, _, _⟩ := id S5
    have b05 := b04.trans b5
    exact ⟨by rw [sizeLine_eq]; omega, fun a na => q1 _ _ e0 _ _ j5 (But.new b05 hp5 na) (SrcAt.new S5 na) (by omega) rfl (tup_new na (free_of b05 hp5 na) (.cons (.str _) (.cons (.str _) (.cons (Dp.same (dif_back hp4 b04) hv5) .nil))))⟩
  rw [if_neg h7] at e0 ⊢
  by_cases h8 : t = tl (Str.ofString "new")
  · rw [if_pos h8] at e0 ⊢
    refine ⟨p, z, j1 + 1, rfl, S6, fun ns r he H4 v j4 b4 S4 hij4 hr hv => ?_, fun he H4 b4 => ?_⟩
    rotate_left
    · rw [he] at e0
      exact q2 e0 H4 (b06.trans b4)
    subst hr
    rw [he] at e0
    obtain ⟨⟨dx4, hp4⟩, _, _⟩ := id S4
    have b04 := b06.trans b4
    exact ⟨by rw [sizeLine_eq]; omega, fun a na => q1 _ _ e0 _ _ j4 (But.new b04 hp4 na) (SrcAt.new S4 na) (by omega) rfl (tup_new na (free_of b04 hp4 na) (.cons (.str _) (.cons (Dp.same (dif_back hp6 b06) hv) .nil)))⟩
  rw [if_neg h8] at e0 ⊢
  exact q2 e0 H6 b06
end
end Sk

/-! ## C8 -/
namespace Sk
open PySem PySem.Spec PyProof.Rows L2
set_option hygiene false in
local macro_rules | `(tactic| walk_at "rd") => `(tactic| simp only [tVar, tC, tB, tAnd, tOr, tNot, tAndV, tOrV, tNotV, tIf, tNext, tSeq, tBreak, tCont, tDrop, tRet, tRetN, tIfS, tAsg, tAug, tOp, tUn, tTest, tChain, tFld, sFldAug, sFld, rAdd, tNil, tCons, tTup, tLst, tCB, tNoPart, tPart, tSl, tBM0, tBM, tYes, tM0, tM1, CwR.tReplC, tCallS, tMethS, tMakeS, gName, wipe, tyV, gTup, gCons, gNil,
  rI, rI0, rEq, rNe, scal, rPlus, rPlusI, rPlusS, rCat, rCatA, rIx, rIxL, rIxT, rIxS, rSl, rSlS, rSlL, rSlA, iPlus, iPlusI, iPlusS, ipI, rAll, rAny, LenV, WE, E0, rAppend,
  L2.start, List.map_cons, List.map_nil, List.length_cons, List.length_nil, Nat.zero_add, Nat.add_zero, Nat.reduceAdd, Nat.reduceSub, Nat.sub_self, List.replicate_zero, List.replicate_succ, List.append_nil, List.nil_append, List.cons_append, List.getElem?_cons_zero, List.getElem?_cons_succ, List.set_cons_zero, List.set_cons_succ, Option.some.injEq,
  V.int.injEq, V.str.injEq, V.bl.injEq, V.ref.injEq, V.ty.injEq, HO.ins.injEq, HO.lst.injEq, HO.tup.injEq, List.cons.injEq, reduceCtorEq, false_and, and_false, true_and, and_true, and_assoc, exists_const, exists_false, false_or, or_false, exists_eq_left', exists_eq_left, exists_eq_right, exists_eq_right', exists_and_left, ↓reduceIte, decide_eq_true_eq, Bool.not_eq_true', decide_eq_false_iff_not, if_true, if_false, cxOf, and_self, Bool.not_true, Bool.not_false, Bool.false_eq_true,
  sf_signs, sf_spot, sf_put, T.cl_Source, T.na_Source_signs, T.na_Source_spot, sg_inj, upd_same, rIsS, tyN, kb1, kb2, kb3, kb4, kb5, kb6, kb7, kb8, kb9, kb10, kb11, kb12, kb13, kb14, kb15, kb16, kb17, kb18, kb19, kb20, kb21, tDNewK, rPowW])
section
variable {P : Program} {w : World} {K : PySem.W.Frag} {mg : Str → Option Value} {base : Heap}
theorem sk2 {H : Hp} {p : Addr} {z : Str} {i : Nat} {s : Tx} {y : Str} {Q : VK} {E : XK} (hy : y = St s) (hS : SrcAt K H p z i) (q0 : s.isPrefixOf (rem z i) = false → Q (.bl false) H)
    (q1 : s.isPrefixOf (rem z i) = true → ∀ H', But p H H' → SrcAt K H' p z (i + s.length) → Q (.bl true) H') : spSk K [.ref p, .str y] H Q E := by
  subst hy
  exact ⟨p, z, i, St s, rfl, hS, q0, q1⟩
/-- of another type than n -/
def notTy (K : PySem.W.Frag) (H : Hp) (n : String) (v : V) : Prop := ∃ t, TyB K H v t ∧ kitB t n = some false ∧ t ≠ "bytes"
abbrev notStr (K : PySem.W.Frag) (H : Hp) (v : V) : Prop := notTy K H "str" v
theorem notTy.same {H H' : Hp} {n : String} {v : V} (s : Same H H') (h : notTy K H n v) : notTy K H' n v := by
  obtain ⟨t, ht, hk⟩ := h
  refine ⟨t, ?_, hk⟩
  cases ht with
  | non => exact .non
  | bl b => exact .bl b
  | int i => exact .int i
  | str x => exact .str x
  | byt b => exact .byt b
  | lst h => exact .lst (s.seq h)
  | tup h => exact .tup (Same.seqT s h)
  | dK h => exact .dK (s _ _ h)
theorem notTy.is {H : Hp} {n : String} {v : V} {Q : VK} (h : notTy K H n v) (q : Q (.bl false) H) : (∃ t b, tyN v = some t ∧ kitB t n = some b ∧ Q (.bl b) H) ∨ (∃ a t b, v = .ref a ∧ TyX K H (.ref a) (.type t) ∧ kitB t n = some b ∧ Q (.bl b) H) := by
  obtain ⟨t, ht, hk, hb⟩ := h
  cases ht with
  | non => exact .inl ⟨_, _, rfl, hk, q⟩
  | bl b => exact .inl ⟨_, _, rfl, hk, q⟩
  | int i => exact .inl ⟨_, _, rfl, hk, q⟩
  | str x => exact .inl ⟨_, _, rfl, hk, q⟩
  | byt b => exact absurd rfl hb
  | lst h => exact .inr ⟨_, _, _, rfl, tyx_list h, hk, q⟩
  | tup h => exact .inr ⟨_, _, _, rfl, tyx_tup h, hk, q⟩
  | dK h => exact .inr ⟨_, _, _, rfl, .base (.dK h), hk, q⟩
def spSrcI (K : PySem.W.Frag) : Sp := fun vs H Q E => ∃ p dx v, vs = [.ref p, v] ∧ H p = some (.ins (He.ga K "Source") dx []) ∧
  ((∃ z, v = .str z ∧ z.length ≤ 5000000 ∧ ∀ H', But p H H' → SrcAt K H' p z 0 → Q .non H') ∨ (notStr K H v ∧ E (exNT K) none H))
theorem sc_Source___init__ : FnScope ["self", "text"] ["self", "text"] (defScope s_Source___init__) := ⟨rfl, rfl, rfl, by decide +kernel, rfl, by decide +kernel, by decide +kernel⟩
theorem ok_Source___init__ (T : Hd w K mg)  : Mn P w K mg base 1 "Source" (He.ga K "Source") (spSrcI K) := by
  obtain ⟨fd, F⟩ := T.fn_Source___init__
  refine mn_mk T.mk_Source T.g_Source F (F.binds (ps := ["self", "text"]) fun _ _ _ _ _ _ us hl => match us, hl with | [_, _], _ => rfl) sc_Source___init__ (fun vs H Q E h => ?_) (fun cdv A outer s H vs Q E hr tk h => ?_)
  · obtain ⟨p, dx, v, rfl, hp, h⟩ := h
    rfl
  obtain ⟨p, dx, v, rfl, hp, h⟩ := h
  refine ⟨_, (pss_cons (ps_if (pt_not (pt_val (pe_callB call_isS (by rfl) T.f_isinstance (by decide +kernel) (pa_cons (pv 1) (pa_cons (pe_bltn (v := .ty "str") (u := .type "str") (by rfl) T.f_str (by decide +kernel) rfl) pa_nil))))) (pss_one (L2N.ps_raise rfl tk (L2N.pmk_own PySem.F.excBase_ValueError T.x_NoText T.g_NoText T.k_NoText (raises_own T.b_NoText T.t_NoText) rfl))) pss_nil) (pss_cons (ps_fld (pv 0) (pv 1) rfl) (pss_one (ps_fld (pv 0) pe_int rfl)))), ?_⟩
  rcases h with ⟨z, rfl, hz, q⟩ | ⟨hn, q⟩
  · walk_at "rd"
    simp only [hp]
    walk_at "rd"
    refine ⟨by decide, (show 1 < 1000 by decide), q _ (fun b o h e => ?_) ⟨⟨dx, upd_same⟩, Nat.zero_le _, hz⟩⟩
    rw [upd_ne e, upd_ne e]
    exact h
  · walk_at "rd"
    rcases hn.is (Q := fun x _ => x = .bl false) rfl with ⟨t, b, h1, h2, h3⟩ | ⟨a, t, b, rfl, h1, h2, h3⟩
    · cases h3
      refine .inl ⟨t, h1, false, h2, ?_⟩
      rw [if_pos rfl]
      exact q
    · cases h3
      refine .inr ⟨a, rfl, t, h1, false, h2, ?_⟩
      rw [if_pos rfl]
      exact q
def spRow (K : PySem.W.Frag) : Sp := fun vs H Q E => ∃ p z i, vs = [.ref p] ∧ SrcAt K H p z i ∧ PQ K rowR (repLD K H) p z i H Q E
def RoW (K : PySem.W.Frag) (p : Addr) (z : Str) (i : Nat) (H : Hp) (a : Addr) (m : Nat) (σ' : SS) (H' : Hp) : Prop :=
  ∃ j f ds acc, m = (rem z j).length ∧ σ' = [some (.ref p), some (.ref a)] ∧ LI K p z i H a j ds acc H' ∧ itemsR [59, 32] deedR (rem z i) = itR [59, 32] deedR (f + 1) (rem z j) ds ∧ (rem z j).length ≤ f
def RoN (K : PySem.W.Frag) (p : Addr) (z : Str) (i : Nat) (H : Hp) (a : Addr) (m : Nat) (σ' : SS) (H' : Hp) : Prop := ∃ m', m' < m ∧ RoW K p z i H a m' σ' H'
theorem sc_row_read : FnScope ["source", "found"] ["source"] (defScope s_row_read) := ⟨rfl, rfl, rfl, by decide +kernel, rfl, by decide +kernel, by decide +kernel⟩
theorem ok_row_read (T : Hd w K mg) {k : Nat} (hk : 3 ≤ k) (M_Source_skips : Mt P w K mg base 2 (He.ga K "Source") "skips" (spSk K)) (M_Source_comes_next : Mt P w K mg base 1 (He.ga K "Source") "comes_next" (spCN K)) (M_Source_goes_past : Mt P w K mg base 3 (He.ga K "Source") "goes_past" (spGo K)) (D_deed_read : Dn P w K mg base k "deed_read" (spDe K)) : Dn P w K mg base (k + 1) "row_read" (spRow K) := by
  obtain ⟨fd, F⟩ := T.fn_row_read
  refine dn_mk F T.g_row_read (F.binds (ps := ["source"]) fun _ _ _ _ _ _ us hl => match us, hl with | [_], _ => rfl) sc_row_read (fun vs H Q E h => ?_) (fun cdv A outer s H vs Q E hr tk h => ?_)
  · obtain ⟨p, z, i, rfl, hS, q1, q2⟩ := h
    rfl
  obtain ⟨p, z, i, rfl, hS, q1, q2⟩ := h
  refine ⟨_, (pss_cons (ps_set (i := 1) sc_row_read.nd rfl (by first | exact Or.inl rfl | exact Or.inr rfl) (pe_lst pa_nil)) (pss_cons (ps_if (pt_not (pt_val (pe_m (pv 0) M_Source_comes_next hr (by first | decide | omega) (fun σ => L2N.passAt tk σ) (pa_cons pe_str pa_nil)))) (pss_cons (ps_expr (pe_bm PySem.F.plainAttrs_list PySem.F.slot_list_append PySem.F.type_list_append mt_append (pv 1) (pa_cons (pe_d D_deed_read hr (by first | decide | omega) (fun σ => L2N.passAt tk σ) (by rfl) (pa_cons (pv 0) pa_nil)) pa_nil))) (pss_one (ps_while (passes_of rfl) (pt_val (pe_m (pv 0) M_Source_skips hr (by first | decide | omega) (fun σ => L2N.passAt tk σ) (pa_cons pe_str pa_nil))) (pss_one (ps_expr (pe_bm PySem.F.plainAttrs_list PySem.F.slot_list_append PySem.F.type_list_append mt_append (pv 1) (pa_cons (pe_d D_deed_read hr (by first | decide | omega) (fun σ => L2N.passAt tk σ) (by rfl) (pa_cons (pv 0) pa_nil)) pa_nil))))))) pss_nil) (pss_cons (ps_expr (pe_m (pv 0) M_Source_goes_past hr (by first | decide | omega) (fun σ => L2N.passAt tk σ) (pa_cons pe_str pa_nil))) (pss_one (ps_ret (pv 1)))))), ?_⟩
  obtain ⟨⟨dx, hp⟩, hi, hz⟩ := id hS
  walk_at "rd"
  refine ⟨by rw [sizeLine_eq]; omega, fun a na => ?_⟩
  have L0 := LI.start0 (i := i) But.refl hS (Nat.le_refl _) na
  generalize hH0 : upd H a (.lst []) = H0 at *
  obtain ⟨⟨dx0, hp0⟩, _, _⟩ := L0.src
  simp only [hp0]
  walk_at "rd"
  refine ⟨sf_no (by decide +kernel) (by decide +kernel), cn1 sc_ba L0.src ⟨_, rfl, ?_⟩⟩
  have e0 : rowR (rem z i) = thenC (fun l => if l.take 1 = [124] then some ([], l) else itemsR [59, 32] deedR l) 124 (rem z i) := rfl
  unfold thenC at e0
  by_cases c : (rem z i).take 1 = [124]
  · rw [if_neg (by simpa using c)]
    simp only [if_pos c] at e0
    refine ⟨_, _, hp0, sf_no (by decide +kernel) (by decide +kernel), go1 sc_ba L0.src (fun c3 => absurd c c3) fun _ H3 b3 S3 => ?_⟩
    have L3 := L0.skip hp b3 S3 (Nat.le_succ _)
    exact q1 _ _ e0 H3 _ (i + 1) L3.but S3 (by omega) d1.symm L3.out
  rw [if_pos (by simpa using c)]
  simp only [if_neg c] at e0
  have e1 := itemsR_eq (sep := [59, 32]) (I := deedR) (l := rem z i)
  refine ⟨.inl ⟨_, SqL.of L0.at_⟩, p, z, i, rfl, L0.src, fun d r he H2 v j b2 S2 hij hr hv => ?_, fun he H2 b2 => ?_⟩
  rotate_left
  · rw [he] at e1
    rw [e1] at e0
    exact q2 e0 H2 (L0.but.trans b2)
  subst hr
  rw [he] at e1
  simp only at e1
  obtain ⟨g1, g2, g3⟩ := L0.step hp b2 S2 hij (Nat.zero_le _) hv
  refine ⟨[], g1, g2, ?_⟩
  refine while_w (RoW K p z i H a) _ ⟨j, (rem z j).length, _, _, rfl, rfl, g3, e1, Nat.le_refl _⟩ ?_
  rintro m σ H4 ⟨j4, f, ds, acc, rfl, rfl, L4, e4, hf⟩
  obtain ⟨⟨dx4, hp4⟩, hj4, _⟩ := id L4.src
  walk_at "rd"
  simp only [hp4]
  walk_at "rd"
  refine ⟨sf_no (by decide +kernel) (by decide +kernel), sk2 sc_sb L4.src (fun c4 => ?_) fun c4 H5 b5 S5 => ?_⟩
  · refine ⟨false, rfl, ?_⟩
    rw [if_neg (by decide)]
    rw [itR_end c4] at e4
    rw [e4] at e0
    simp only at e0
    refine ⟨_, _, hp4, sf_no (by decide +kernel) (by decide +kernel), go1 sc_ba L4.src (fun c5 => ?_) fun c5 H6 b6 S6 => ?_⟩
    · rw [if_neg c5] at e0
      exact q2 e0 H4 L4.but
    · rw [if_pos c5] at e0
      have L6 := L4.skip hp b6 S6 (Nat.le_succ _)
      exact q1 _ _ e0 H6 _ (j4 + 1) L6.but S6 L6.le d1.symm L6.out
  · refine ⟨true, rfl, ?_⟩
    rw [if_pos rfl]
    have L5 := L4.skip hp b5 S5 (Nat.le_add_right _ _)
    have hlt := lt_of_pre c4
    rw [itR_more c4] at e4
    have ed : (rem z j4).drop [59, 32].length = rem z (j4 + 2) := rem_drop.symm
    rw [ed] at e4
    refine ⟨RoN K p z i H a (rem z j4).length, fun σ' H' h => h, .inl ⟨acc, SqL.of L5.at_⟩, p, z, j4 + 2, rfl, S5, fun d6 r6 he6 H6 v6 j6 b6 S6 hij6 hr6 hv6 => ?_, fun he6 H6 b6 => ?_⟩
    · subst hr6
      rw [he6] at e4
      simp only at e4
      obtain ⟨g1, g2, g3⟩ := L5.step hp b6 S6 hij6 (by have := L4.len; simp at *; omega) hv6
      rw [rem_len] at hf
      simp only [List.length_cons, List.length_nil] at hlt
      refine ⟨acc, g1, g2, _, ?_, j6, f - 1, _, _, rfl, rfl, g3, ?_, ?_⟩
      · rw [rem_len, rem_len]
        omega
      · rw [e4, show f - 1 + 1 = f by omega]
      · rw [rem_len]
        omega
    · rw [he6] at e4
      rw [e4] at e0
      exact q2 e0 H6 (L5.but.trans b6)
def spLa (K : PySem.W.Frag) : Sp := fun vs H Q E => ∃ p z i, vs = [.ref p] ∧ SrcAt K H p z i ∧ PQ K labelR (repD K H) p z i H Q E
/-- the rows of a label: from the heap Hb on, at i -/
def LaW (K : PySem.W.Frag) (p : Addr) (z : Str) (i : Nat) (H : Hp) (nm pv : V) (a : Addr) (m : Nat) (σ' : SS) (H' : Hp) : Prop :=
  ∃ j f ds acc, m = (rem z j).length ∧ σ' = [some (.ref p), some nm, some pv, some (.ref a)] ∧ LI K p z i H a j ds acc H' ∧ itemsTail [32, 32] rowD ((rem z i).length + 1) (rem z i) = itR [32, 32] rowD (f + 1) (rem z j) ds ∧ (rem z j).length ≤ f
def LaN (K : PySem.W.Frag) (p : Addr) (z : Str) (i : Nat) (H : Hp) (nm pv : V) (a : Addr) (m : Nat) (σ' : SS) (H' : Hp) : Prop := ∃ m', m' < m ∧ LaW K p z i H nm pv a m' σ' H'
theorem sc_label_read : FnScope ["source", "label", "params", "rows"] ["source"] (defScope s_label_read) := ⟨rfl, rfl, rfl, by decide +kernel, rfl, by decide +kernel, by decide +kernel⟩
theorem ok_label_read (T : Hd w K mg) {k : Nat} (hk : 4 ≤ k) (M_Source_skips : Mt P w K mg base 2 (He.ga K "Source") "skips" (spSk K)) (M_Source_goes_past : Mt P w K mg base 3 (He.ga K "Source") "goes_past" (spGo K)) (D_name_read : Dn P w K mg base 3 "name_read" (spName K)) (D_names_read : Dn P w K mg base 4 "names_read" (spNs K)) (D_row_read : Dn P w K mg base k "row_read" (spRow K)) : Dn P w K mg base (k + 1) "label_read" (spLa K) := by
  obtain ⟨fd, F⟩ := T.fn_label_read
  refine dn_mk F T.g_label_read (F.binds (ps := ["source"]) fun _ _ _ _ _ _ us hl => match us, hl with | [_], _ => rfl) sc_label_read (fun vs H Q E h => ?_) (fun cdv A outer s H vs Q E hr tk h => ?_)
  · obtain ⟨p, z, i, rfl, hS, q1, q2⟩ := h
    rfl
  obtain ⟨p, z, i, rfl, hS, q1, q2⟩ := h
  refine ⟨_, (pss_cons (ps_set (i := 1) sc_label_read.nd rfl (by first | exact Or.inl rfl | exact Or.inr rfl) (pe_d D_name_read hr (by first | decide | omega) (fun σ => L2N.passAt tk σ) (by rfl) (pa_cons (pv 0) pa_nil))) (pss_cons (ps_set (i := 2) sc_label_read.nd rfl (by first | exact Or.inl rfl | exact Or.inr rfl) (pe_lst pa_nil)) (pss_cons (ps_if (pt_val (pe_m (pv 0) M_Source_skips hr (by first | decide | omega) (fun σ => L2N.passAt tk σ) (pa_cons pe_str pa_nil))) (pss_cons (ps_set (i := 2) sc_label_read.nd rfl (by first | exact Or.inl rfl | exact Or.inr rfl) (pe_d D_names_read hr (by first | decide | omega) (fun σ => L2N.passAt tk σ) (by rfl) (pa_cons (pv 0) pa_nil))) (pss_one (ps_expr (pe_m (pv 0) M_Source_goes_past hr (by first | decide | omega) (fun σ => L2N.passAt tk σ) (pa_cons pe_str pa_nil))))) pss_nil) (pss_cons (ps_expr (pe_m (pv 0) M_Source_goes_past hr (by first | decide | omega) (fun σ => L2N.passAt tk σ) (pa_cons pe_str pa_nil))) (pss_cons (ps_set (i := 3) sc_label_read.nd rfl (by first | exact Or.inl rfl | exact Or.inr rfl) (pe_lst pa_nil)) (pss_cons (ps_while (passes_of rfl) (pt_val (pe_m (pv 0) M_Source_skips hr (by first | decide | omega) (fun σ => L2N.passAt tk σ) (pa_cons pe_str pa_nil))) (pss_one (ps_expr (pe_bm PySem.F.plainAttrs_list PySem.F.slot_list_append PySem.F.type_list_append mt_append (pv 3) (pa_cons (pe_d D_row_read hr (by first | decide | omega) (fun σ => L2N.passAt tk σ) (by rfl) (pa_cons (pv 0) pa_nil)) pa_nil))))) (pss_one (ps_ret (pe_tup (pa_cons (pv 1) (pa_cons (pv 2) (pa_cons (pv 3) pa_nil)))))))))))), ?_⟩
  obtain ⟨⟨dx, hp⟩, hi, hz⟩ := id hS
  walk_at "rd"
  have e0 := labelR.eq_def (rem z i)
  refine ⟨p, z, i, rfl, hS, fun n r he H1 v j1 b1 S1 hij1 hr hv => ?_, fun he H1 b1 => ?_⟩
  rotate_left
  · rw [he] at e0
    exact q2 e0 H1 b1
  subst hr
  obtain rfl : v = _ := hv
  rw [he] at e0
  simp only at e0
  obtain ⟨⟨dx1, hp1⟩, _, _⟩ := id S1
  refine ⟨by rw [sizeLine_eq]; omega, fun a1 na1 => ?_⟩
  have S2 := SrcAt.new (u := .lst []) S1 na1
  have b2 := But.new (u := .lst []) b1 hp1 na1
  have v2 : Dp K (dif H (upd H1 a1 (.lst []))) (.ref a1) (.list []) := lst_new na1 (free_of b1 hp1 na1) .nil
  generalize hH2 : upd H1 a1 (.lst []) = H2 at *
  obtain ⟨⟨dx2, hp2⟩, _, _⟩ := id S2
  simp only [hp2]
  walk_at "rd"
  have hP : paramsR (rem z j1) = if (rem z j1).take 1 = [40] then thenC namesR 41 ((rem z j1).drop 1) else some ([], rem z j1) := rfl
  refine ⟨sf_no (by decide +kernel) (by decide +kernel), sk1 sc_lp S2 (fun c => ?_) fun c H3 b3 S3 => ?_⟩
  rw [if_neg c] at hP
  refine ⟨false, rfl, ?_⟩
  rw [if_neg (by decide)]
  refine ⟨_, _, hp2, sf_no (by decide +kernel) (by decide +kernel), ?_⟩
  rotate_left
  rw [if_pos c, d1] at hP
  refine ⟨true, rfl, ?_⟩
  rw [if_pos rfl]
  obtain ⟨⟨dx3, hp3⟩, _, _⟩ := id S3
  refine ⟨p, z, j1 + 1, rfl, S3, fun ns r he H4 v j4 b4 S4 hij4 hr hv => ?_, fun he H4 b4 => ?_⟩
  rotate_left
  · unfold thenC at hP
    rw [he] at hP
    rw [hP] at e0
    exact q2 e0 H4 ((b2.trans b3).trans b4)
  rotate_left
  subst hr
  unfold thenC at hP
  rw [he] at hP
  simp only at hP
  obtain ⟨⟨dx4, hp4⟩, _, _⟩ := id S4
  have b04 := (b2.trans b3).trans b4
  refine ⟨_, _, hp4, sf_no (by decide +kernel) (by decide +kernel), go1 sc_rp S4 (fun c5 => ?_) fun c5 H5 b5 S5 => ?_⟩
  · rw [if_neg c5] at hP
    rw [hP] at e0
    exact q2 e0 H4 b04
  rw [if_pos c5, d1] at hP
  obtain ⟨⟨dx5, hp5⟩, _, _⟩ := id S5
  have v2 : Dp K (dif H H5) v (.list ns) := Dp.same (dif_more hp b5) (Dp.same (dif_back hp3 (b2.trans b3)) hv)
  have b2 := b04.trans b5
  have S2 := S5
  have hp2 := hp5
  have hij1 : i ≤ j4 + 1 := by omega
  refine ⟨_, _, hp5, sf_no (by decide +kernel) (by decide +kernel), ?_⟩
  all_goals (
    rw [hP] at e0
    simp only at e0
    unfold past at e0
    refine go1 sc_ba S2 (fun c5 => ?_) fun c5 H6 b6 S6 => ?_
    · rw [if_neg c5] at e0
      exact q2 e0 _ b2
    rw [if_pos c5, d1] at e0
    simp only at e0
    refine ⟨Nat.zero_le _, fun a na => ?_⟩
    obtain ⟨⟨dx6, hp6⟩, _, _⟩ := id S6
    have b06 := b2.trans b6
    have v6 := Dp.same (dif_more hp b6) v2
    refine while_w (LaW K p z _ H6 _ _ a) _ ⟨_, _, _, _, rfl, rfl, LI.start0 But.refl S6 (Nat.le_refl _) na, itemsT_eq, Nat.le_refl _⟩ ?_
    rintro m σ H7 ⟨j7, f, ds, acc, rfl, rfl, L7, e7, hf⟩
    obtain ⟨⟨dx7, hp7⟩, hj7, _⟩ := id L7.src
    walk_at "rd"
    simp only [hp7]
    walk_at "rd"
    have b07 := b06.trans L7.but
    have hij7 := L7.le
    refine ⟨sf_no (by decide +kernel) (by decide +kernel), sk2 sc_bb L7.src (fun c7 => ?_) fun c7 H8 b8 S8 => ?_⟩
    · refine ⟨false, rfl, ?_⟩
      rw [if_neg (by decide)]
      rw [itR_end c7] at e7
      rw [e7] at e0
      refine ⟨by rw [sizeLine_eq]; omega, fun a3 na3 => q1 _ _ e0 _ _ j7 (But.new b07 hp7 na3) (SrcAt.new L7.src na3) (by omega) rfl ?_⟩
      exact tup_new na3 (free_of b07 hp7 na3) (.cons (.str _) (.cons (Dp.same (dif_more hp L7.but) v6) (.cons (Dp.same (dif_back hp6 b06) L7.out) .nil)))
    · refine ⟨true, rfl, ?_⟩
      rw [if_pos rfl]
      have L8 := L7.skip hp6 b8 S8 (Nat.le_add_right _ _)
      have hlt := lt_of_pre c7
      rw [itR_more c7] at e7
      have ed : (rem z j7).drop [32, 32].length = rem z (j7 + 2) := rem_drop.symm
      rw [ed] at e7
      have eD : rowD (rem z (j7 + 2)) = match rowR (rem z (j7 + 2)) with
        | some (ds, r) => some (.list ds, r)
        | none => none := rfl
      rw [eD] at e7
      refine ⟨LaN K p z _ H6 _ _ a (rem z j7).length, fun σ' H' h => h, .inl ⟨acc, SqL.of L8.at_⟩, p, z, j7 + 2, rfl, S8, fun d9 r9 he9 H9 v9 j9 b9 S9 hij9 hr9 hv9 => ?_, fun he9 H9 b9 => ?_⟩
      · subst hr9
        rw [he9] at e7
        simp only at e7
        obtain ⟨g1, g2, g3⟩ := L8.step hp6 b9 S9 hij9 (by have := L7.len; simp at *; omega) hv9
        rw [rem_len] at hf
        simp only [List.length_cons, List.length_nil] at hlt
        refine ⟨acc, g1, g2, _, ?_, j9, f - 1, _, _, rfl, rfl, g3, ?_, ?_⟩
        · rw [rem_len, rem_len]
          omega
        · rw [e7, show f - 1 + 1 = f by omega]
        · rw [rem_len]
          omega
      · rw [he9] at e7
        rw [e7] at e0
        exact q2 e0 H9 (b06.trans (L8.but.trans b9)))
theorem made_free {H : Hp} {x dx b : Addr} {o u1 u2 : HO} (hx : H x = none) (hd : H dx = none) (h : H b = some o) : upd (upd H dx u1) x u2 b = some o := by
  rw [upd_ne (ne_of_none h hx), upd_ne (ne_of_none h hd)]
  exact h
theorem but_same {p : Addr} {H H0 H' : Hp} (hp : H p = none) (s : Same H H0) (b : But p H0 H') : Same H H' := fun c o h => b c o (s c o h) (ne_of_none h hp)
theorem dif_same {H H0 H' : Hp} (s : Same H H0) : Same (dif H0 H') (dif H H') := fun c u h => by
  obtain ⟨h1, h2⟩ := dif_eq.mp h
  refine dif_eq.mpr ⟨?_, h2⟩
  cases e : H c with
  | none => rfl
  | some v => rw [s c v e] at h1; cases h1
def spRE (K : PySem.W.Frag) : Sp := fun vs H Q E => ∃ v, vs = [v] ∧ ((∃ z, v = .str z ∧ z.length ≤ 5000000 ∧ (∀ e, exR 40 (tl z) = some (e, []) → ∀ u H', Same H H' → Dp K (dif H H') u e.toD → Q u H') ∧
  ((∀ e, exR 40 (tl z) ≠ some (e, [])) → ∀ H', Same H H' → E (exNT K) none H')) ∨ (notStr K H v ∧ ∀ H', Same H H' → E (exNT K) none H'))
theorem sc_read_expression : FnScope ["text", "source", "found"] ["text"] (defScope s_read_expression) := ⟨rfl, rfl, rfl, by decide +kernel, rfl, by decide +kernel, by decide +kernel⟩
theorem ok_read_expression (T : Hd w K mg) {k : Nat} (hk : 2 ≤ k) (K_Source : Mn P w K mg base 1 "Source" (He.ga K "Source") (spSrcI K)) (M_Source_at_end : Mt P w K mg base 1 (He.ga K "Source") "at_end" (spEnd K)) (D_expression_from : Dn P w K mg base k "expression_from" (spEx K 40)) : Dn P w K mg base (k + 1) "read_expression" (spRE K) := by
  obtain ⟨fd, F⟩ := T.fn_read_expression
  refine dn_mk F T.g_read_expression (F.binds (ps := ["text"]) fun _ _ _ _ _ _ us hl => match us, hl with | [_], _ => rfl) sc_read_expression (fun vs H Q E h => ?_) (fun cdv A outer s H vs Q E hr tk h => ?_)
  · obtain ⟨v, rfl, h⟩ := h
    rfl
  obtain ⟨v, rfl, h⟩ := h
  refine ⟨_, (pss_cons (ps_set (i := 1) sc_read_expression.nd rfl (by first | exact Or.inl rfl | exact Or.inr rfl) (pe_k K_Source hr (by first | decide | omega) (fun σ => L2N.passAt tk σ) (by rfl) (pa_cons (pv 0) pa_nil))) (pss_cons (ps_set (i := 2) sc_read_expression.nd rfl (by first | exact Or.inl rfl | exact Or.inr rfl) (pe_d D_expression_from hr (by first | decide | omega) (fun σ => L2N.passAt tk σ) (by rfl) (pa_cons (pv 1) (pa_cons (C8.pe_gc (by rfl) T.c_MOST_LEVELS) pa_nil)))) (pss_cons (ps_if (pt_not (pt_val (pe_m0 (pv 1) M_Source_at_end hr (by first | decide | omega) (fun σ => L2N.passAt tk σ)))) (pss_one (L2N.ps_raise rfl tk (L2N.pmk_own PySem.F.excBase_ValueError T.x_NoText T.g_NoText T.k_NoText (raises_own T.b_NoText T.t_NoText) rfl))) pss_nil) (pss_one (ps_ret (pv 2)))))), ?_⟩
  walk_at "rd"
  intro x dx hx hdx hne
  have s0 : Same H (upd (upd H dx (.own x)) x (.ins (He.ga K "Source") dx [])) := fun b o h => made_free hx hdx h
  rcases h with ⟨z, rfl, hz, q1, q2⟩ | ⟨hn, q⟩
  · refine ⟨x, dx, _, rfl, upd_same, .inl ⟨z, rfl, hz, fun H1 b1 S1 => ⟨rfl, ?_⟩⟩⟩
    have s1 := but_same hx s0 b1
    obtain ⟨⟨dx1, hp1⟩, _, _⟩ := id S1
    refine ⟨x, z, 0, 40, rfl, by decide, S1, fun e r he H2 v j b2 S2 hij hr hv => ?_, fun he H2 b2 => ?_⟩
    · have he : exR 40 (tl z) = some (e, r) := he
      subst hr
      have s2 := but_same hx s1 b2
      obtain ⟨⟨dx2, hp2⟩, _, _⟩ := id S2
      refine ⟨_, _, hp2, sf_no (by decide +kernel) (by decide +kernel), x, z, j, rfl, S2, _, rfl, ?_⟩
      by_cases hj : rem z j = []
      · rw [if_neg (by simp [hj])]
        rw [hj] at he
        exact q1 e he v H2 s2 (Dp.same (dif_same s1) hv)
      · rw [if_pos (by simp [hj])]
        refine q2 (fun e' h => ?_) H2 s2
        rw [he] at h
        injection h with h
        injection h with _ h
        exact hj h
    · have he : exR 40 (tl z) = none := he
      exact q2 (fun e h => by rw [he] at h; cases h) H2 (but_same hx s1 b2)
  · refine ⟨x, dx, _, rfl, upd_same, .inr ⟨hn.same s0, q _ s0⟩⟩
theorem Dn.false_is_program (T : Hd w K mg) (k : Nat) : Dn P w K mg base k "is_program" (fun _ _ _ _ => False) := by
  obtain ⟨fd, F⟩ := T.fn_is_program
  exact ⟨_, fd, ["thing"], ⟨fun _ _ _ _ h => h.elim, fun _ _ _ _ _ _ _ _ _ _ _ _ _ h => h.elim⟩, T.g_is_program, F.kp, F.binds (ps := ["thing"]) fun _ _ _ _ _ _ us hl => match us, hl with | [_], _ => rfl⟩
/-- a text that writes no program, or no text -/
def spRP (K : PySem.W.Frag) : Sp := fun vs H _ E => ∃ v, vs = [v] ∧ ((∃ z, v = .str z ∧ z.length ≤ 5000000 ∧ progR (tl z) = none) ∨ notStr K H v) ∧ ∀ H', Same H H' → E (exNT K) none H'
def PrW (K : PySem.W.Frag) (p : Addr) (z : Str) (H : Hp) (v : V) (a : Addr) (m : Nat) (σ' : SS) (H' : Hp) : Prop :=
  ∃ j f ds acc, m = (rem z j).length ∧ σ' = [some v, some (.ref p), some (.ref a)] ∧ LI K p z 0 H a j ds acc H' ∧ progR (tl z) = prT (f + 1) (rem z j) ds ∧ (rem z j).length ≤ f
def PrN (K : PySem.W.Frag) (p : Addr) (z : Str) (H : Hp) (v : V) (a : Addr) (m : Nat) (σ' : SS) (H' : Hp) : Prop := ∃ m', m' < m ∧ PrW K p z H v a m' σ' H'
theorem sc_read_program : FnScope ["text", "source", "found"] ["text"] (defScope s_read_program) := ⟨rfl, rfl, rfl, by decide +kernel, rfl, by decide +kernel, by decide +kernel⟩
theorem ok_read_program (T : Hd w K mg) {k : Nat} (hk : 2 ≤ k) (K_Source : Mn P w K mg base 1 "Source" (He.ga K "Source") (spSrcI K)) (M_Source_at_end : Mt P w K mg base 1 (He.ga K "Source") "at_end" (spEnd K)) (D_label_read : Dn P w K mg base k "label_read" (spLa K)) (D_is_program : Dn P w K mg base k "is_program" (fun _ _ _ _ => False)) : Dn P w K mg base (k + 1) "read_program" (spRP K) := by
  obtain ⟨fd, F⟩ := T.fn_read_program
  refine dn_mk F T.g_read_program (F.binds (ps := ["text"]) fun _ _ _ _ _ _ us hl => match us, hl with | [_], _ => rfl) sc_read_program (fun vs H Q E h => ?_) (fun cdv A outer s H vs Q E hr tk h => ?_)
  · obtain ⟨v, rfl, h, q⟩ := h
    rfl
  obtain ⟨v, rfl, h, q⟩ := h
  refine ⟨_, (pss_cons (ps_set (i := 1) sc_read_program.nd rfl (by first | exact Or.inl rfl | exact Or.inr rfl) (pe_k K_Source hr (by first | decide | omega) (fun σ => L2N.passAt tk σ) (by rfl) (pa_cons (pv 0) pa_nil))) (pss_cons (ps_set (i := 2) sc_read_program.nd rfl (by first | exact Or.inl rfl | exact Or.inr rfl) (pe_lst pa_nil)) (pss_cons (ps_while (passes_of rfl) (pt_not (pt_val (pe_m0 (pv 1) M_Source_at_end hr (by first | decide | omega) (fun σ => L2N.passAt tk σ)))) (pss_one (ps_expr (pe_bm PySem.F.plainAttrs_list PySem.F.slot_list_append PySem.F.type_list_append mt_append (pv 2) (pa_cons (pe_d D_label_read hr (by first | decide | omega) (fun σ => L2N.passAt tk σ) (by rfl) (pa_cons (pv 1) pa_nil)) pa_nil))))) (pss_cons (ps_if (pt_not (pt_val (pe_d D_is_program hr (by first | decide | omega) (fun σ => L2N.passAt tk σ) (by rfl) (pa_cons (pv 2) pa_nil)))) (pss_one (L2N.ps_raise rfl tk (L2N.pmk_own PySem.F.excBase_ValueError T.x_NoText T.g_NoText T.k_NoText (raises_own T.b_NoText T.t_NoText) rfl))) pss_nil) (pss_one (ps_ret (pv 2))))))), ?_⟩
  walk_at "rd"
  intro x dx hx hdx hne
  have s0 : Same H (upd (upd H dx (.own x)) x (.ins (He.ga K "Source") dx [])) := fun b o h => made_free hx hdx h
  rcases h with ⟨z, rfl, hz, hn⟩ | hn
  · refine ⟨x, dx, _, rfl, upd_same, .inl ⟨z, rfl, hz, fun H1 b1 S1 => ⟨rfl, ?_⟩⟩⟩
    have s1 := but_same hx s0 b1
    obtain ⟨⟨dx1, hp1⟩, _, _⟩ := id S1
    refine ⟨Nat.zero_le _, fun a na => ?_⟩
    have L0 := LI.start0 (i := 0) But.refl S1 (Nat.le_refl _) na
    refine while_w (PrW K x z H1 _ a) _ ⟨0, (rem z 0).length, _, _, rfl, rfl, L0, progR_eq, Nat.le_refl _⟩ ?_
    rintro m σ H4 ⟨j4, f, ds, acc, rfl, rfl, L4, e4, hf⟩
    obtain ⟨⟨dx4, hp4⟩, hj4, _⟩ := id L4.src
    have s4 := but_same hx s1 L4.but
    walk_at "rd"
    simp only [hp4]
    walk_at "rd"
    refine ⟨sf_no (by decide +kernel) (by decide +kernel), x, z, j4, rfl, L4.src, _, rfl, ?_⟩
    by_cases hj : rem z j4 = []
    · rw [hj, prT_end, hn] at e4
      cases e4
    · rw [if_pos (by simp [hj])]
      rw [prT_more hj] at e4
      refine ⟨PrN K x z H1 _ a (rem z j4).length, fun σ' H' h => h, .inl ⟨acc, SqL.of L4.at_⟩, x, z, j4, rfl, L4.src, fun d6 r6 he6 H6 v6 j6 b6 S6 hij6 hr6 hv6 => ?_, fun he6 H6 b6 => q H6 (but_same hx s4 b6)⟩
      subst hr6
      have hlt := (labelR_en he6).len
      rw [he6] at e4
      simp only at e4
      rw [rem_len, rem_len] at hlt
      rw [rem_len] at hf
      obtain ⟨g1, g2, g3⟩ := L4.step hp1 b6 S6 hij6 (by have := L4.len; omega) hv6
      refine ⟨acc, g1, g2, _, ?_, j6, f - 1, _, _, rfl, rfl, g3, ?_, ?_⟩
      · rw [rem_len, rem_len]
        omega
      · rw [e4, show f - 1 + 1 = f by omega]
      · rw [rem_len]
        omega
  · refine ⟨x, dx, _, rfl, upd_same, .inr ⟨hn.same s0, q _ s0⟩⟩
end
end Sk

/-! ## C9 -/
namespace Sk
open PySem PySem.Spec PyProof.Rows L2
set_option hygiene false in
local macro_rules | `(tactic| walk_at "rd") => `(tactic| simp only [tVar, tC, tB, tAnd, tOr, tNot, tAndV, tOrV, tNotV, tIf, tNext, tSeq, tBreak, tCont, tDrop, tRet, tRetN, tIfS, tAsg, tAug, tOp, tUn, tTest, tChain, tFld, sFldAug, sFld, rAdd, tNil, tCons, tTup, tLst, tCB, tNoPart, tPart, tSl, tBM0, tBM, tYes, tM0, tM1, CwR.tReplC, tCallS, tMethS, tMakeS, gName, wipe, tyV, gTup, gCons, gNil,
  rI, rI0, rEq, rNe, scal, rPlus, rPlusI, rPlusS, rCat, rCatA, rIx, rIxL, rIxT, rIxS, rSl, rSlS, rSlL, rSlA, iPlus, iPlusI, iPlusS, ipI, rAll, rAny, LenV, WE, E0, rAppend,
  L2.start, List.map_cons, List.map_nil, List.length_cons, List.length_nil, Nat.zero_add, Nat.add_zero, Nat.reduceAdd, Nat.reduceSub, Nat.sub_self, List.replicate_zero, List.replicate_succ, List.append_nil, List.nil_append, List.cons_append, List.getElem?_cons_zero, List.getElem?_cons_succ, List.set_cons_zero, List.set_cons_succ, Option.some.injEq,
  V.int.injEq, V.str.injEq, V.bl.injEq, V.ref.injEq, V.ty.injEq, HO.ins.injEq, HO.lst.injEq, HO.tup.injEq, List.cons.injEq, reduceCtorEq, false_and, and_false, true_and, and_true, and_assoc, exists_const, exists_false, false_or, or_false, exists_eq_left', exists_eq_left, exists_eq_right, exists_eq_right', exists_and_left, ↓reduceIte, decide_eq_true_eq, Bool.not_eq_true', decide_eq_false_iff_not, if_true, if_false, cxOf, and_self, Bool.not_true, Bool.not_false, Bool.false_eq_true,
  sf_signs, sf_spot, sf_put, T.cl_Source, T.na_Source_signs, T.na_Source_spot, sg_inj, upd_same, rIsS, tyN, kb1, kb2, kb3, kb4, kb5, kb6, kb7, kb8, kb9, kb10, kb11, kb12, kb13, kb14, kb15, kb16, kb17, kb18, kb19, kb20, kb21, tDNewK, rPowW])
theorem sc_e61 : Str.ofString "=" = St [61] := by decide +kernel
section
variable {P : Program} {w : World} {K : PySem.W.Frag} {mg : Str → Option Value} {base : Heap}
def repN (K : PySem.W.Frag) (H : Hp) : Hp → V → (Tx × List PyData × Tx) → Prop := fun H' v q => Dp K (dif H H') v (.tuple [.tuple [.str (St q.1), .tuple q.2.1], .str (St q.2.2)])
def spNo (K : PySem.W.Frag) : Sp := fun vs H Q E => ∃ p z i, vs = [.ref p] ∧ SrcAt K H p z i ∧ PQ K nodeR (repN K H) p z i H Q E
def KeW (K : PySem.W.Frag) (p : Addr) (z : Str) (i i0 : Nat) (H : Hp) (nm : V) (a : Addr) (m : Nat) (σ' : SS) (H' : Hp) : Prop :=
  ∃ j f ds acc, m = (rem z j).length ∧ σ' = [some (.ref p), some nm, some (.ref a)] ∧ LI K p z i H a j ds acc H' ∧ itemsR [44] worthD (rem z i0) = itR [44] worthD (f + 1) (rem z j) ds ∧ (rem z j).length ≤ f
def KeN (K : PySem.W.Frag) (p : Addr) (z : Str) (i i0 : Nat) (H : Hp) (nm : V) (a : Addr) (m : Nat) (σ' : SS) (H' : Hp) : Prop := ∃ m', m' < m ∧ KeW K p z i i0 H nm a m' σ' H'
theorem LI.node {p l p2 a : Addr} {z : Str} {i j : Nat} {H H10 : Hp} {ds : List PyData} {acc : List V} {n : Tx} (L : LI K p z i H a j ds acc H10) (nl : H10 l = none) (np2 : upd H10 l (.tup acc) p2 = none) :
    SrcAt K (upd (upd H10 l (.tup acc)) p2 (.tup [.str (St n), .ref l])) p z j ∧ But p H (upd (upd H10 l (.tup acc)) p2 (.tup [.str (St n), .ref l])) ∧ Dp K (dif H (upd (upd H10 l (.tup acc)) p2 (.tup [.str (St n), .ref l]))) (.ref p2) (.tuple [.str (St n), .tuple ds]) := by
  obtain ⟨⟨dx, hp⟩, _, _⟩ := id L.src
  have Sl := SrcAt.new (u := .tup acc) L.src nl
  have bl := But.new (u := .tup acc) L.but hp nl
  have vl := tup_new nl (free_of L.but hp nl) (DpAll.same difO_sub L.all)
  obtain ⟨⟨dxl, hpl⟩, _, _⟩ := id Sl
  exact ⟨SrcAt.new Sl np2, But.new bl hpl np2, tup_new np2 (free_of bl hpl np2) (.cons (.str (St n)) (.cons vl .nil))⟩
theorem sc_node_read : FnScope ["source", "name", "keys"] ["source"] (defScope s_node_read) := ⟨rfl, rfl, rfl, by decide +kernel, rfl, by decide +kernel, by decide +kernel⟩
theorem ok_node_read (T : Hd w K mg) (M_Source_skips : Mt P w K mg base 2 (He.ga K "Source") "skips" (spSk K)) (M_Source_goes_past : Mt P w K mg base 3 (He.ga K "Source") "goes_past" (spGo K)) (D_name_read : Dn P w K mg base 3 "name_read" (spName K)) (D_worth_read : Dn P w K mg base 5 "worth_read" (spWoR K)) (D_quoted_read : Dn P w K mg base 4 "quoted_read" (spQuR K)) : Dn P w K mg base 6 "node_read" (spNo K) := by
  obtain ⟨fd, F⟩ := T.fn_node_read
  refine dn_mk F T.g_node_read (F.binds (ps := ["source"]) fun _ _ _ _ _ _ us hl => match us, hl with | [_], _ => rfl) sc_node_read (fun vs H Q E h => ?_) (fun cdv A outer s H vs Q E hr tk h => ?_)
  · obtain ⟨p, z, i, rfl, hS, q1, q2⟩ := h
    rfl
  obtain ⟨p, z, i, rfl, hS, q1, q2⟩ := h
  refine ⟨_, (pss_cons (ps_expr (pe_m (pv 0) M_Source_goes_past hr (by first | decide | omega) (fun σ => L2N.passAt tk σ) (pa_cons pe_str pa_nil))) (pss_cons (ps_set (i := 1) sc_node_read.nd rfl (by first | exact Or.inl rfl | exact Or.inr rfl) (pe_d D_name_read hr (by first | decide | omega) (fun σ => L2N.passAt tk σ) (by rfl) (pa_cons (pv 0) pa_nil))) (pss_cons (ps_set (i := 2) sc_node_read.nd rfl (by first | exact Or.inl rfl | exact Or.inr rfl) (pe_lst pa_nil)) (pss_cons (ps_if (pt_val (pe_m (pv 0) M_Source_skips hr (by first | decide | omega) (fun σ => L2N.passAt tk σ) (pa_cons pe_str pa_nil))) (pss_cons (ps_expr (pe_bm PySem.F.plainAttrs_list PySem.F.slot_list_append PySem.F.type_list_append mt_append (pv 2) (pa_cons (pe_d D_worth_read hr (by first | decide | omega) (fun σ => L2N.passAt tk σ) (by rfl) (pa_cons (pv 0) pa_nil)) pa_nil))) (pss_cons (ps_while (passes_of rfl) (pt_val (pe_m (pv 0) M_Source_skips hr (by first | decide | omega) (fun σ => L2N.passAt tk σ) (pa_cons pe_str pa_nil))) (pss_one (ps_expr (pe_bm PySem.F.plainAttrs_list PySem.F.slot_list_append PySem.F.type_list_append mt_append (pv 2) (pa_cons (pe_d D_worth_read hr (by first | decide | omega) (fun σ => L2N.passAt tk σ) (by rfl) (pa_cons (pv 0) pa_nil)) pa_nil))))) (pss_one (ps_expr (pe_m (pv 0) M_Source_goes_past hr (by first | decide | omega) (fun σ => L2N.passAt tk σ) (pa_cons pe_str pa_nil)))))) pss_nil) (pss_cons (ps_expr (pe_m (pv 0) M_Source_goes_past hr (by first | decide | omega) (fun σ => L2N.passAt tk σ) (pa_cons pe_str pa_nil))) (pss_one (ps_ret (pe_tup (pa_cons (pe_tup (pa_cons (pv 1) (pa_cons (pe_callTy call_tuple_of (by rfl) T.f_tuple (by decide +kernel) (pa_cons (pv 2) pa_nil)) pa_nil))) (pa_cons (pe_d D_quoted_read hr (by first | decide | omega) (fun σ => L2N.passAt tk σ) (by rfl) (pa_cons (pv 0) pa_nil)) pa_nil)))))))))), ?_⟩
  obtain ⟨⟨dx, hp⟩, hi, hz⟩ := id hS
  walk_at "rd"
  simp only [hp]
  walk_at "rd"
  have e0 := congrFun nodeR.eq_def (rem z i)
  unfold past at e0
  refine ⟨sf_no (by decide +kernel) (by decide +kernel), go1 sc_up hS (fun c => ?_) fun c H1 b1 S1 => ?_⟩
  · rw [if_neg c] at e0
    exact q2 e0 H But.refl
  rw [if_pos c, d1] at e0
  simp only at e0
  refine ⟨p, z, i + 1, rfl, S1, fun n r he H2 v j1 b2 S2 hij1 hr hv => ?_, fun he H2 b2 => ?_⟩
  rotate_left
  · rw [he] at e0
    exact q2 e0 H2 (b1.trans b2)
  subst hr
  obtain rfl : v = _ := hv
  rw [he] at e0
  simp only at e0
  refine ⟨Nat.zero_le _, fun a na => ?_⟩
  have L0 := LI.start0 (i := i) (b1.trans b2) S2 (by omega) na
  generalize hH0 : upd H2 a (.lst []) = H3 at *
  obtain ⟨⟨dx3, hp3⟩, _, _⟩ := id L0.src
  simp only [hp3]
  walk_at "rd"
  have hP : keysR (rem z j1) = if (rem z j1).take 1 = [40] then thenC (itemsR [44] worthD) 41 ((rem z j1).drop 1) else some ([], rem z j1) := rfl
  refine ⟨sf_no (by decide +kernel) (by decide +kernel), sk1 sc_lp L0.src (fun c => ?_) fun c H4 b4 S4 => ?_⟩
  rw [if_neg c] at hP
  refine ⟨false, rfl, ?_⟩
  rw [if_neg (by decide)]
  refine ⟨_, _, hp3, sf_no (by decide +kernel) (by decide +kernel), ?_⟩
  rotate_left
  rw [if_pos c, d1] at hP
  refine ⟨true, rfl, ?_⟩
  rw [if_pos rfl]
  have L4 := L0.skip hp b4 S4 (Nat.le_succ _)
  have e1 := itemsR_eq (sep := [44]) (I := worthD) (l := rem z (j1 + 1))
  have eD : worthD (rem z (j1 + 1)) = match worthR (rem z (j1 + 1)) with
    | some (n, r) => some (.str (St n), r)
    | none => none := rfl
  rw [eD] at e1
  unfold thenC at hP
  refine ⟨.inl ⟨_, SqL.of L4.at_⟩, p, z, j1 + 1, rfl, S4, fun wo r he H5 v j5 b5 S5 hij5 hr hv => ?_, fun he H5 b5 => ?_⟩
  rotate_left
  · rw [he] at e1
    simp only at e1
    rw [e1] at hP
    rw [hP] at e0
    exact q2 e0 H5 (L4.but.trans b5)
  rotate_left
  subst hr
  obtain rfl : v = _ := hv
  rw [he] at e1
  simp only at e1
  obtain ⟨g1, g2, g3⟩ := L4.step hp b5 S5 hij5 (Nat.zero_le _) (.str (St wo))
  refine ⟨[], g1, g2, ?_⟩
  refine while_w (KeW K p z i (j1 + 1) H _ a) _ ⟨j5, (rem z j5).length, _, _, rfl, rfl, g3, e1, Nat.le_refl _⟩ ?_
  rintro m σ H6 ⟨j6, f, ds, acc, rfl, rfl, L6, e6, hf⟩
  obtain ⟨⟨dx6, hp6⟩, hj6, _⟩ := id L6.src
  walk_at "rd"
  simp only [hp6]
  walk_at "rd"
  refine ⟨sf_no (by decide +kernel) (by decide +kernel), sk1 sc_co L6.src (fun c6 => ?_) fun c6 H7 b7 S7 => ?_⟩
  rotate_left
  · refine ⟨true, rfl, ?_⟩
    rw [if_pos rfl]
    have L7 := L6.skip hp b7 S7 (Nat.le_succ _)
    have hlt := lt_of_tk c6
    rw [itR_more (by rw [pre1]; exact decide_eq_true c6)] at e6
    have ed : (rem z j6).drop [44].length = rem z (j6 + 1) := rem_drop.symm
    have eD : worthD (rem z (j6 + 1)) = match worthR (rem z (j6 + 1)) with
      | some (n, r) => some (.str (St n), r)
      | none => none := rfl
    rw [ed, eD] at e6
    refine ⟨KeN K p z i (j1 + 1) H _ a (rem z j6).length, fun σ' H' h => h, .inl ⟨acc, SqL.of L7.at_⟩, p, z, j6 + 1, rfl, S7, fun d9 r9 he9 H9 v9 j9 b9 S9 hij9 hr9 hv9 => ?_, fun he9 H9 b9 => ?_⟩
    · subst hr9
      obtain rfl : v9 = _ := hv9
      rw [he9] at e6
      simp only at e6
      obtain ⟨g1, g2, g3⟩ := L7.step hp b9 S9 hij9 (by have := L6.len; omega) (.str (St d9))
      rw [rem_len] at hf
      refine ⟨acc, g1, g2, _, ?_, j9, f - 1, _, _, rfl, rfl, g3, ?_, ?_⟩
      · rw [rem_len, rem_len]
        omega
      · rw [e6, show f - 1 + 1 = f by omega]
      · rw [rem_len]
        omega
    · rw [he9] at e6
      simp only at e6
      rw [e6] at hP
      rw [hP] at e0
      exact q2 e0 H9 (L7.but.trans b9)
  rotate_left
  refine ⟨false, rfl, ?_⟩
  rw [if_neg (by decide)]
  rw [itR_end (by rw [pre1]; exact decide_eq_false c6)] at e6
  rw [e6] at hP
  simp only at hP
  refine ⟨_, _, hp6, sf_no (by decide +kernel) (by decide +kernel), go1 sc_rp L6.src (fun c8 => ?_) fun c8 H8 b8 S8 => ?_⟩
  · rw [if_neg c8] at hP
    rw [hP] at e0
    exact q2 e0 H6 L6.but
  rw [if_pos c8, d1] at hP
  have L0 := L6.skip hp b8 S8 (Nat.le_succ _)
  obtain ⟨⟨dx3, hp3⟩, _, _⟩ := id S8
  refine ⟨_, _, hp3, sf_no (by decide +kernel) (by decide +kernel), ?_⟩
  all_goals (
    rw [hP] at e0
    simp only at e0
    refine go1 sc_e61 L0.src (fun c9 => ?_) fun c9 H10 b10 S10 => ?_
    · rw [if_neg c9] at e0
      exact q2 e0 _ L0.but
    rw [if_pos c9, d1] at e0
    have L10 := L0.skip hp b10 S10 (Nat.le_succ _)
    have hle := L10.le
    obtain ⟨⟨dx10, hp10⟩, _, _⟩ := id S10
    refine ⟨_, .inl ⟨SqL.of L10.at_, fun l nl => ⟨by rw [sizeLine_eq]; omega, fun p2 np2 => ?_⟩⟩⟩
    obtain ⟨S2', b2', v2'⟩ := LI.node (n := n) L10 nl np2
    obtain ⟨⟨dx2', hp2'⟩, _, _⟩ := id S2'
    refine ⟨p, z, _, rfl, S2', fun wo r he H11 v11 j11 b11 S11 hij11 hr hv => ?_, fun he H11 b11 => ?_⟩
    · subst hr
      obtain rfl : v11 = _ := hv
      rw [he] at e0
      obtain ⟨⟨dx11, hp11⟩, _, _⟩ := id S11
      have b := b2'.trans b11
      exact ⟨by rw [sizeLine_eq]; omega, fun a3 na3 => q1 _ _ e0 _ _ j11 (But.new b hp11 na3) (SrcAt.new S11 na3) (by omega) rfl (tup_new na3 (free_of b hp11 na3) (.cons (Dp.same (dif_more hp b11) v2') (.cons (.str _) .nil)))⟩
    · rw [he] at e0
      exact q2 e0 H11 (b2'.trans b11))
def spArI (K : PySem.W.Frag) : Sp := fun vs H Q _ => ∃ p dx, vs = [.ref p] ∧ H p = some (.ins (He.ga K "Arrays") dx []) ∧ ∀ H', But p H H' → Q .non H'
theorem sc_Arrays___init__ : FnScope ["self"] ["self"] (defScope s_Arrays___init__) := ⟨rfl, rfl, rfl, by decide +kernel, rfl, by decide +kernel, by decide +kernel⟩
theorem ok_Arrays___init__ (T : Hd w K mg)  : Mn P w K mg base 1 "Arrays" (He.ga K "Arrays") (spArI K) := by
  obtain ⟨fd, F⟩ := T.fn_Arrays___init__
  refine mn_mk T.mk_Arrays T.g_Arrays F (F.binds (ps := ["self"]) fun _ _ _ _ _ _ us hl => match us, hl with | [_], _ => rfl) sc_Arrays___init__ (fun vs H Q E h => ?_) (fun cdv A outer s H vs Q E hr tk h => ?_)
  · obtain ⟨p, dx, rfl, hp, q⟩ := h
    rfl
  obtain ⟨p, dx, rfl, hp, q⟩ := h
  refine ⟨_, (pss_one (ps_fld (pv 0) pe_dnewK rfl)), ?_⟩
  walk_at "rd"
  intro d hd
  have hpd : upd H d (.dK []) p = some (.ins (He.ga K "Arrays") dx []) := by rw [upd_ne (ne_of_none hp hd)]; exact hp
  refine ⟨_, _, _, hpd, T.cl_Arrays, T.na_Arrays_nodes, by decide, q _ fun b o h e => ?_⟩
  rw [upd_ne e, upd_ne (ne_of_none h hd)]
  exact h
theorem Mt.false_put (T : Hd w K mg) (k : Nat) : Mt P w K mg base k (He.ga K "Arrays") "put" (fun _ _ _ _ => False) := by
  obtain ⟨fd, F⟩ := T.fn_Arrays_put
  exact ⟨_, fd, ["self", "ref", "worth"], T.cl_Arrays, T.me_Arrays_put, ⟨fun _ _ _ _ h => h.elim, fun _ _ _ _ _ _ _ _ _ _ _ _ _ h => h.elim⟩, F.binds (ps := ["self", "ref", "worth"]) fun _ _ _ _ _ _ us hl => match us, hl with | [_, _, _], _ => rfl⟩
theorem Dn.false_is_key (T : Hd w K mg) (k : Nat) : Dn P w K mg base k "is_key" (fun _ _ _ _ => False) := by
  obtain ⟨fd, F⟩ := T.fn_is_key
  exact ⟨_, fd, ["thing"], ⟨fun _ _ _ _ h => h.elim, fun _ _ _ _ _ _ _ _ _ _ _ _ _ h => h.elim⟩, T.g_is_key, F.kp, F.binds (ps := ["thing"]) fun _ _ _ _ _ _ us hl => match us, hl with | [_], _ => rfl⟩
theorem Dn.false_show_arrays (T : Hd w K mg) (k : Nat) : Dn P w K mg base k "show_arrays" (fun _ _ _ _ => False) := by
  obtain ⟨fd, F⟩ := T.fn_show_arrays
  exact ⟨_, fd, ["arrays"], ⟨fun _ _ _ _ h => h.elim, fun _ _ _ _ _ _ _ _ _ _ _ _ _ h => h.elim⟩, T.g_show_arrays, F.kp, F.binds (ps := ["arrays"]) fun _ _ _ _ _ _ us hl => match us, hl with | [_], _ => rfl⟩
abbrev spNo0 : Sp := fun _ _ _ _ => False
/-- what is no list, or a list whose first thing is no node -/
def spRA (K : PySem.W.Frag) : Sp := fun vs H _ E => ∃ v, vs = [v] ∧ (notTy K H "list" v ∨ ∃ a t r, v = .ref a ∧ SqL K H a (t :: r) ∧ ((∃ z, t = .str z ∧ z.length ≤ 5000000 ∧ ∀ q, nodeR (tl z) ≠ some (q, [])) ∨ notStr K H t)) ∧ ∀ H', Same H H' → E (exNT K) none H'
theorem sc_read_arrays : FnScope ["texts", "found", "text", "source", "worth", "name", "keys", "key"] ["texts"] (defScope s_read_arrays) := ⟨rfl, rfl, rfl, by decide +kernel, rfl, by decide +kernel, by decide +kernel⟩
theorem ok_read_arrays (T : Hd w K mg) (K_Source : Mn P w K mg base 1 "Source" (He.ga K "Source") (spSrcI K)) (K_Arrays : Mn P w K mg base 1 "Arrays" (He.ga K "Arrays") (spArI K)) (M_Source_at_end : Mt P w K mg base 1 (He.ga K "Source") "at_end" (spEnd K)) (D_node_read : Dn P w K mg base 6 "node_read" (spNo K)) (M_Arrays_put : Mt P w K mg base 1 (He.ga K "Arrays") "put" spNo0) (D_is_key : Dn P w K mg base 1 "is_key" spNo0) (D_show_arrays : Dn P w K mg base 1 "show_arrays" spNo0) : Dn P w K mg base 7 "read_arrays" (spRA K) := by
  obtain ⟨fd, F⟩ := T.fn_read_arrays
  refine dn_mk F T.g_read_arrays (F.binds (ps := ["texts"]) fun _ _ _ _ _ _ us hl => match us, hl with | [_], _ => rfl) sc_read_arrays (fun vs H Q E h => ?_) (fun cdv A outer s H vs Q E hr tk h => ?_)
  · obtain ⟨v, rfl, h, q⟩ := h
    rfl
  obtain ⟨v, rfl, h, q⟩ := h
  refine ⟨_, (pss_cons (ps_if (pt_not (pt_val (pe_callB call_isS (by rfl) T.f_isinstance (by decide +kernel) (pa_cons (pv 0) (pa_cons (pe_bltn (v := .ty "list") (u := .type "list") (by rfl) T.f_list (by decide +kernel) rfl) pa_nil))))) (pss_one (L2N.ps_raise rfl tk (L2N.pmk_own PySem.F.excBase_ValueError T.x_NoText T.g_NoText T.k_NoText (raises_own T.b_NoText T.t_NoText) rfl))) pss_nil) (pss_cons (ps_set (i := 1) sc_read_arrays.nd rfl (by first | exact Or.inl rfl | exact Or.inr rfl) (pe_k0 K_Arrays hr (by first | decide | omega) (fun σ => L2N.passAt tk σ) (by rfl))) (pss_cons (ps_for (passes_of rfl) rfl (pi_seq (pv 0)) (pg_name (i := 2) sc_read_arrays.nd rfl (by first | exact Or.inl rfl | exact Or.inr rfl)) (pss_cons (ps_set (i := 3) sc_read_arrays.nd rfl (by first | exact Or.inl rfl | exact Or.inr rfl) (pe_k K_Source hr (by first | decide | omega) (fun σ => L2N.passAt tk σ) (by rfl) (pa_cons (pv 2) pa_nil))) (pss_cons (ps_asg (pe_d D_node_read hr (by first | decide | omega) (fun σ => L2N.passAt tk σ) (by rfl) (pa_cons (pv 3) pa_nil)) (pg_tup (by rfl) (pgs_cons (pg_tup (by rfl) (pgs_cons (pg_name (i := 5) sc_read_arrays.nd rfl (by first | exact Or.inl rfl | exact Or.inr rfl)) (pgs_cons (pg_name (i := 6) sc_read_arrays.nd rfl (by first | exact Or.inl rfl | exact Or.inr rfl)) pgs_nil))) (pgs_cons (pg_name (i := 4) sc_read_arrays.nd rfl (by first | exact Or.inl rfl | exact Or.inr rfl)) pgs_nil)))) (pss_cons (ps_if (PW.pt (pw_or (pt_not (pt_val (pe_m0 (pv 3) M_Source_at_end hr (by first | decide | omega) (fun σ => L2N.passAt tk σ)))) (pw_or (pt_cmpR op_gt (pe_callB call_len (by rfl) T.f_len (by decide +kernel) (pa_cons (pv 6) pa_nil)) pe_int (nomark _)) (pw_or1 (pt_not (pt_val (pe_callB (cr_all rfl) (by rfl) T.f_all (by decide +kernel) (pa_cons (pe_lc (own := [("key", 7)]) (by rfl) sc_read_arrays.nd (pi_seq (pv 6)) (blkOk_by (own := [("key", 7)]) (N := ["texts", "found", "text", "source", "worth", "name", "keys", "key"]) (sc := defScope s_read_arrays) (by decide +kernel)) (fun _ _ _ _ _ => (pg_name (i := 7) sc_read_arrays.nd rfl (Or.inl rfl))) (fun _ _ _ _ _ => pts_nil) (fun _ _ _ _ _ => (pe_d D_is_key hr (by first | decide | omega) (fun σ => passN σ) (by rfl) (pa_cons (pv 7) pa_nil)))) pa_nil)))))))) (pss_one (L2N.ps_raise rfl tk (L2N.pmk_own PySem.F.excBase_ValueError T.x_NoText T.g_NoText T.k_NoText (raises_own T.b_NoText T.t_NoText) rfl))) pss_nil) (pss_one (ps_expr (pe_m (pv 1) M_Arrays_put hr (by first | decide | omega) (fun σ => L2N.passAt tk σ) (pa_cons (pe_tup (pa_cons (pv 5) (pa_cons (pv 6) pa_nil))) (pa_cons (pv 4) pa_nil))))))))) (pss_cons (ps_if (pt_cmpR op_ne (pe_d D_show_arrays hr (by first | decide | omega) (fun σ => L2N.passAt tk σ) (by rfl) (pa_cons (pv 1) pa_nil)) (pv 0) (nomark _)) (pss_one (L2N.ps_raise rfl tk (L2N.pmk_own PySem.F.excBase_ValueError T.x_NoText T.g_NoText T.k_NoText (raises_own T.b_NoText T.t_NoText) rfl))) pss_nil) (pss_one (ps_ret (pv 1))))))), ?_⟩
  rcases h with hn | ⟨a, t, r, rfl, hL, ht⟩
  · walk_at "rd"
    rcases hn.is (Q := fun x _ => x = .bl false) rfl with ⟨t, b, h1, h2, h3⟩ | ⟨a, t, b, rfl, h1, h2, h3⟩
    · cases h3
      refine .inl ⟨t, h1, false, h2, ?_⟩
      rw [if_pos rfl]
      exact q H (Same.refl _)
    · cases h3
      refine .inr ⟨a, rfl, t, h1, false, h2, ?_⟩
      rw [if_pos rfl]
      exact q H (Same.refl _)
  · walk_at "rd"
    refine ⟨"list", tyx_list hL, true, kb4, ?_⟩
    rw [if_neg (by decide)]
    intro x dx hx hdx hne
    have s0 : Same H (upd (upd H dx (.own x)) x (.ins (He.ga K "Arrays") dx [])) := fun b o h => made_free hx hdx h
    refine ⟨x, dx, rfl, upd_same, fun H1 b1 => ⟨rfl, ?_⟩⟩
    have s1 := but_same hx s0 b1
    refine .inl ⟨_, rfl, a, rfl, ⟨_, s1.seq hL⟩, for_list (xs := t :: r) (fun i σ' H' => i = 0 ∧ σ' = [some (V.ref a), some (V.ref x), none, none, none, none, none, none] ∧ H' = H1) ⟨rfl, rfl, rfl⟩ ?_ ?_ ?_⟩
    · rintro i σ' H' _ ⟨_, _, rfl⟩
      exact s1.seq hL
    · rintro i y σ' H' hy ⟨rfl, rfl, rfl⟩
      obtain rfl : t = y := by simpa using hy
      walk_at "rd"
      intro x2 dx2 hx2 hdx2 hne2
      have s2 : Same H' (upd (upd H' dx2 (.own x2)) x2 (.ins (He.ga K "Source") dx2 [])) := fun b o h => made_free hx2 hdx2 h
      rcases ht with ⟨z, rfl, hz, hq⟩ | hn
      · refine ⟨x2, dx2, _, rfl, upd_same, .inl ⟨z, rfl, hz, fun H3 b3 S3 => ⟨rfl, ?_⟩⟩⟩
        have s3 := but_same hx2 s2 b3
        obtain ⟨⟨dx3, hp3⟩, _, _⟩ := id S3
        refine ⟨x2, z, 0, rfl, S3, fun nd r he H4 v4 j4 b4 S4 hij4 hr hv4 => ?_, fun he H4 b4 => q H4 (s1.trans (but_same hx2 s3 b4))⟩
        have s4 := but_same hx2 s3 b4
        obtain ⟨n, ks, wo⟩ := nd
        have hv5 : Dp K H4 v4 (.tuple [.tuple [.str (St n), .tuple ks], .str (St wo)]) := Dp.same dif_sub hv4
        obtain ⟨a5, xs5, rfl, hT5, hA5⟩ := dp_tup hv5
        obtain ⟨v6, r6, rfl, hv6, hA6⟩ := dpa_cons hA5
        obtain ⟨v7, r7, rfl, hv7, hA7⟩ := dpa_cons hA6
        cases hA7
        obtain ⟨a8, xs8, rfl, hT8, hA8⟩ := dp_tup hv6
        obtain ⟨v9, r9, rfl, hv9, hA9⟩ := dpa_cons hA8
        obtain ⟨v10, r10, rfl, hv10, hA10⟩ := dpa_cons hA9
        cases hA10
        subst hr
        obtain ⟨⟨dx4, hp4⟩, _, _⟩ := id S4
        have hj : ¬ rem z j4 = [] := fun e => by
          rw [e] at he
          exact hq _ he
        refine ⟨a5, rfl, _, hT5, rfl, _, _, rfl, a8, rfl, _, hT8, rfl, _, _, rfl, _, _, rfl, rfl, _, _, rfl, rfl, _, _, hp4, sf_no (by decide +kernel) (by decide +kernel), x2, z, j4, rfl, S4, false, by simp [hj], ?_⟩
        rw [if_pos rfl]
        exact q H4 (s1.trans s4)
      · exact ⟨x2, dx2, _, rfl, upd_same, .inr ⟨(hn.same s1).same s2, q _ (s1.trans s2)⟩⟩
    · rintro σ' H' ⟨h, _, _⟩
      simp at h
end
end Sk

/-! ## C10 -/
namespace Sk
open PySem PySem.Spec PyProof.Rows L2
set_option hygiene false in
local macro_rules | `(tactic| walk_at "rd") => `(tactic| simp only [tVar, tC, tB, tAnd, tOr, tNot, tAndV, tOrV, tNotV, tIf, tNext, tSeq, tBreak, tCont, tDrop, tRet, tRetN, tIfS, tAsg, tAug, tOp, tUn, tTest, tChain, tFld, sFldAug, sFld, rAdd, tNil, tCons, tTup, tLst, tCB, tNoPart, tPart, tSl, tBM0, tBM, tYes, tM0, tM1, CwR.tReplC, tCallS, tMethS, tMakeS, gName, wipe, tyV, gTup, gCons, gNil,
  rI, rI0, rEq, rNe, scal, rPlus, rPlusI, rPlusS, rCat, rCatA, rIx, rIxL, rIxT, rIxS, rSl, rSlS, rSlL, rSlA, iPlus, iPlusI, iPlusS, ipI, rAll, rAny, LenV, WE, E0, rAppend,
  L2.start, List.map_cons, List.map_nil, List.length_cons, List.length_nil, Nat.zero_add, Nat.add_zero, Nat.reduceAdd, Nat.reduceSub, Nat.sub_self, List.replicate_zero, List.replicate_succ, List.append_nil, List.nil_append, List.cons_append, List.getElem?_cons_zero, List.getElem?_cons_succ, List.set_cons_zero, List.set_cons_succ, Option.some.injEq,
  V.int.injEq, V.str.injEq, V.bl.injEq, V.ref.injEq, V.ty.injEq, HO.ins.injEq, HO.lst.injEq, HO.tup.injEq, List.cons.injEq, reduceCtorEq, false_and, and_false, true_and, and_true, and_assoc, exists_const, exists_false, false_or, or_false, exists_eq_left', exists_eq_left, exists_eq_right, exists_eq_right', exists_and_left, ↓reduceIte, decide_eq_true_eq, Bool.not_eq_true', decide_eq_false_iff_not, if_true, if_false, cxOf, and_self, Bool.not_true, Bool.not_false, Bool.false_eq_true,
  sf_signs, sf_spot, sf_put, T.cl_Source, T.na_Source_signs, T.na_Source_spot, sg_inj, upd_same, rIsS, tyN, kb1, kb2, kb3, kb4, kb5, kb6, kb7, kb8, kb9, kb10, kb11, kb12, kb13, kb14, kb15, kb16, kb17, kb18, kb19, kb20, kb21, tDNewK, rPowW])
section
variable {P : Program} {w : World} {K : PySem.W.Frag} {mg : Str → Option Value} {base : Heap}
def spCell (K : PySem.W.Frag) : Sp := fun vs H Q _ => ∃ (a : Addr) (xs : List Int) (k : Int), vs = [.ref a, .int k] ∧ SqL K H a (xs.map V.int) ∧ 0 ≤ k ∧ ∀ c : Int, Q (.int c) H
theorem pow_big {i j : Int} (h : i.natAbs < 2 ^ 200) (h0 : 0 ≤ j) (h1 : j ≤ 100) : CPowW i j := ⟨h0, h1, Nat.lt_of_lt_of_le h (Nat.pow_le_pow_right (by decide) (by decide))⟩
theorem mul_big {i j : Int} (h : i.natAbs < 2 ^ 40) (h' : j.natAbs < 2 ^ 40) : CMulW i j := wide_mul h h' (by decide) (by decide) (by decide)
theorem sc__law_cell_at : FnScope ["script", "k"] ["script", "k"] (defScope s__law_cell_at) := ⟨rfl, rfl, rfl, by decide +kernel, rfl, by decide +kernel, by decide +kernel⟩
theorem ok__law_cell_at (T : Hd w K mg)  : Dn P w K mg base 1 "_law_cell_at" (spCell K) := by
  obtain ⟨fd, F⟩ := T.fn__law_cell_at
  refine dn_mk F T.g__law_cell_at (F.binds (ps := ["script", "k"]) fun _ _ _ _ _ _ us hl => match us, hl with | [_, _], _ => rfl) sc__law_cell_at (fun vs H Q E h => ?_) (fun cdv A outer s H vs Q E hr tk h => ?_)
  · obtain ⟨a, xs, k, rfl, hL, hk, q⟩ := h
    rfl
  obtain ⟨a, xs, k, rfl, hL, hk, q⟩ := h
  refine ⟨_, (pss_cons (ps_if (pt_cmpR op_lt (pv 1) (pe_callB call_len (by rfl) T.f_len (by decide +kernel) (pa_cons (pv 0) pa_nil)) (nomark _)) (pss_one (ps_ret (pe_ix ix_seq (pv 0) (pv 1) (fun _ _ => rfl)))) pss_nil) (pss_one (ps_ret pe_int))), ?_⟩
  walk_at "rd"
  refine ⟨_, .inl ⟨_, hL, rfl⟩, ?_⟩
  rw [List.length_map]
  by_cases c : k < (xs.length : Int)
  · rw [if_pos c]
    have e : (xs.map V.int)[k.toNat]? = some (V.int (xs[k.toNat]'(by omega))) := by
      rw [List.getElem?_map, List.getElem?_eq_getElem (by omega)]
      rfl
    have e2 := atI_nat e
    rw [show ((k.toNat : Nat) : Int) = k by omega] at e2
    exact .inl ⟨_, hL, _, e2, q _⟩
  · rw [if_neg c]
    exact q _
def spBag : Sp := fun vs H Q _ => ∃ (c n : Int), vs = [.int c, .int n] ∧ 0 ≤ n ∧ n ≤ 1000 ∧ ∀ (x y : Int) b, 0 ≤ x → 0 ≤ y → y < 2 ^ 128 → H b = none → Q (.ref b) (upd H b (.lst [.int x, .int y, .int 0]))
theorem sc__law_bag : FnScope ["cell", "nth"] ["cell", "nth"] (defScope s__law_bag) := ⟨rfl, rfl, rfl, by decide +kernel, rfl, by decide +kernel, by decide +kernel⟩
theorem ok__law_bag (T : Hd w K mg)  : Dn P w K mg base 1 "_law_bag" (spBag) := by
  obtain ⟨fd, F⟩ := T.fn__law_bag
  refine dn_mk F T.g__law_bag (F.binds (ps := ["cell", "nth"]) fun _ _ _ _ _ _ us hl => match us, hl with | [_, _], _ => rfl) sc__law_bag (fun vs H Q E h => ?_) (fun cdv A outer s H vs Q E hr tk h => ?_)
  · obtain ⟨c, n, rfl, h0, h1, q⟩ := h
    rfl
  obtain ⟨c, n, rfl, h0, h1, q⟩ := h
  refine ⟨_, (pss_one (ps_ret (pe_lst (pa_cons (pe_callB (call_max2 rfl) (by rfl) T.f_max (by decide +kernel) (pa_cons pe_int (pa_cons (pe_op op_sub (pv 0) (pe_op op_powW pe_int pe_int)) pa_nil))) (pa_cons (pe_op op_add (pe_op op_modN (pv 0) pe_int) (pe_op op_mulW pe_int (pv 1))) (pa_cons pe_int pa_nil)))))), ?_⟩
  walk_at "rd"
  refine ⟨pow_big (by decide) (by decide) (by decide), by decide, mul_big (by decide) (by omega), by rw [sizeLine_eq]; omega, fun b hb => ?_⟩
  refine q _ _ b ?_ ?_ ?_ hb
  · split <;> omega
  · have := Int.fmod_nonneg_of_pos c (b := 170141183460469231731687303715884105727) (by decide)
    omega
  · have := Int.fmod_lt_of_pos c (b := 170141183460469231731687303715884105727) (by decide)
    omega
def spDraw : Sp := fun vs H Q _ => ∃ (b : Addr) (m x y n : Int), vs = [.ref b, .int m] ∧ H b = some (.lst [.int x, .int y, .int n]) ∧ 0 < m ∧ m ≤ 1000 ∧ 0 ≤ x ∧ 0 ≤ y ∧ y < 2 ^ 128 ∧ 0 ≤ n ∧ n ≤ 100000 ∧ ∀ r x' n', 0 ≤ r → r < m → 0 ≤ x' → 0 ≤ n' → n' ≤ n + 1 → Q (.int r) (upd H b (.lst [.int x', .int y, .int n']))
theorem sc__law_draw : FnScope ["bag", "many", "mixed", "found"] ["bag", "many"] (defScope s__law_draw) := ⟨rfl, rfl, rfl, by decide +kernel, rfl, by decide +kernel, by decide +kernel⟩
theorem ok__law_draw (T : Hd w K mg)  : Dn P w K mg base 1 "_law_draw" (spDraw) := by
  obtain ⟨fd, F⟩ := T.fn__law_draw
  refine dn_mk F T.g__law_draw (F.binds (ps := ["bag", "many"]) fun _ _ _ _ _ _ us hl => match us, hl with | [_, _], _ => rfl) sc__law_draw (fun vs H Q E h => ?_) (fun cdv A outer s H vs Q E hr tk h => ?_)
  · obtain ⟨b, m, x, y, n, rfl, hb, hm, hm2, hx, hy, hy2, hn, hn2, q⟩ := h
    rfl
  obtain ⟨b, m, x, y, n, rfl, hb, hm, hm2, hx, hy, hy2, hn, hn2, q⟩ := h
  refine ⟨_, (pss_cons (ps_if (pt_cmpR op_gt (pe_ix ix_list (pv 0) pe_int (fun _ _ => rfl)) pe_int (nomark _)) (pss_cons (ps_set (i := 3) sc__law_draw.nd rfl (by first | exact Or.inl rfl | exact Or.inr rfl) (pe_op op_modN (pe_ix ix_list (pv 0) pe_int (fun _ _ => rfl)) (pv 1))) (pss_cons (ps_asg (pe_op op_fdivW (pe_ix ix_list (pv 0) pe_int (fun _ _ => rfl)) (pv 1)) (pg_sub (pv 0) pe_int set_list)) (pss_one (ps_ret (pv 3))))) pss_nil) (pss_cons (ps_asg (pe_op op_add (pe_ix ix_list (pv 0) pe_int (fun _ _ => rfl)) pe_int) (pg_sub (pv 0) pe_int set_list)) (pss_cons (ps_set (i := 2) sc__law_draw.nd rfl (by first | exact Or.inl rfl | exact Or.inr rfl) (pe_op op_modN (pe_op op_powW (pe_op op_add (pe_ix ix_list (pv 0) pe_int (fun _ _ => rfl)) (pe_op op_mulW pe_int (pe_ix ix_list (pv 0) pe_int (fun _ _ => rfl)))) pe_int) pe_int)) (pss_cons (ps_set (i := 2) sc__law_draw.nd rfl (by first | exact Or.inl rfl | exact Or.inr rfl) (pe_op op_modN (pe_op op_powW (pe_op op_add (pv 2) (pe_op op_mulW pe_int (pe_ix ix_list (pv 0) pe_int (fun _ _ => rfl)))) pe_int) pe_int)) (pss_one (ps_ret (pe_op op_modN (pe_op op_fdivW (pv 2) pe_int) (pv 1)))))))), ?_⟩
  walk_at "rd"
  refine ⟨_, SqL.of hb, _, atI_nat (j := 0) rfl, x, rfl, ?_⟩
  by_cases c : 1 < x
  · rw [if_pos c]
    refine ⟨_, SqL.of hb, _, atI_nat (j := 0) rfl, x, rfl, by omega, _, SqL.of hb, _, atI_nat (j := 0) rfl, x, rfl, ⟨hm, ?_⟩, ?_⟩
    · exact Nat.lt_of_le_of_lt (Nat.log2_le_self _) (by omega)
    unfold gSub rSetL
    walk_at "rd"
    refine ⟨_, hb, 0, rfl, ?_⟩
    exact q _ _ _ (Int.fmod_nonneg_of_pos x hm) (Int.fmod_lt_of_pos x hm) (Int.ediv_nonneg hx (by omega)) hn (by omega)
  · rw [if_neg c]
    refine ⟨_, SqL.of hb, _, atI_nat (j := 2) rfl, n, rfl, ?_⟩
    unfold gSub rSetL
    walk_at "rd"
    refine ⟨_, hb, 2, rfl, ?_⟩
    have hL : SqL K (upd H b (.lst ([V.int x, V.int y, V.int n].set 2 (V.int (n + 1))))) b [V.int x, V.int y, V.int (n + 1)] := SqL.of upd_same
    refine ⟨_, hL, _, atI_nat (j := 1) rfl, _, hL, _, atI_nat (j := 2) rfl, n + 1, rfl, mul_big (by decide) (by omega), y, rfl, pow_big (by omega) (by decide) (by decide), by decide, _, hL, _, atI_nat (j := 2) rfl, n + 1, rfl, mul_big (by decide) (by omega), pow_big ?_ (by decide) (by decide), by decide, ⟨by decide, by decide +kernel⟩, by omega, ?_⟩
    · have h1 := Int.fmod_nonneg_of_pos ((y + 67867967 * (n + 1)) ^ Int.toNat 3) (b := 170141183460469231731687303715884105727) (by decide)
      have h2 := Int.fmod_lt_of_pos ((y + 67867967 * (n + 1)) ^ Int.toNat 3) (b := 170141183460469231731687303715884105727) (by decide)
      omega
    · exact q _ x (n + 1) (Int.fmod_nonneg_of_pos _ hm) (Int.fmod_lt_of_pos _ hm) hx (by omega) (by omega)
end
end Sk

/-! ## C11 -/
namespace Sk
open PySem PySem.Spec PyProof.Rows L2
set_option hygiene false in
local macro_rules | `(tactic| walk_at "rd") => `(tactic| simp only [tVar, tC, tB, tAnd, tOr, tNot, tAndV, tOrV, tNotV, tIf, tNext, tSeq, tBreak, tCont, tDrop, tRet, tRetN, tIfS, tAsg, tAug, tOp, tUn, tTest, tChain, tFld, sFldAug, sFld, rAdd, tNil, tCons, tTup, tLst, tCB, tNoPart, tPart, tSl, tBM0, tBM, tYes, tM0, tM1, CwR.tReplC, tCallS, tMethS, tMakeS, gName, wipe, tyV, gTup, gCons, gNil,
  rI, rI0, rEq, rNe, scal, rPlus, rPlusI, rPlusS, rCat, rCatA, rIx, rIxL, rIxT, rIxS, rSl, rSlS, rSlL, rSlA, iPlus, iPlusI, iPlusS, ipI, rAll, rAny, LenV, WE, E0, rAppend,
  L2.start, List.map_cons, List.map_nil, List.length_cons, List.length_nil, Nat.zero_add, Nat.add_zero, Nat.reduceAdd, Nat.reduceSub, Nat.sub_self, List.replicate_zero, List.replicate_succ, List.append_nil, List.nil_append, List.cons_append, List.getElem?_cons_zero, List.getElem?_cons_succ, List.set_cons_zero, List.set_cons_succ, Option.some.injEq,
  V.int.injEq, V.str.injEq, V.bl.injEq, V.ref.injEq, V.ty.injEq, HO.ins.injEq, HO.lst.injEq, HO.tup.injEq, List.cons.injEq, reduceCtorEq, false_and, and_false, true_and, and_true, and_assoc, exists_const, exists_false, false_or, or_false, exists_eq_left', exists_eq_left, exists_eq_right, exists_eq_right', exists_and_left, ↓reduceIte, decide_eq_true_eq, Bool.not_eq_true', decide_eq_false_iff_not, if_true, if_false, cxOf, and_self, Bool.not_true, Bool.not_false, Bool.false_eq_true,
  sf_signs, sf_spot, sf_put, T.cl_Source, T.na_Source_signs, T.na_Source_spot, sg_inj, upd_same, rIsS, tyN, kb1, kb2, kb3, kb4, kb5, kb6, kb7, kb8, kb9, kb10, kb11, kb12, kb13, kb14, kb15, kb16, kb17, kb18, kb19, kb20, kb21, tDNewK, rPowW])
section
variable {X : Cx} {x n : Str} {c : Value} {i : Nat} {body suite : List Stmt} {b₀ : Stmt} {np pos pos' : Pos} {tb : WX → TS} {C : Value → Option Addr → Prop} {ts : Addr → TS} {Wout : WX}
theorem try_when (hs : X.stack = X.env :: X.outer) (hf : X.env.frame = some X.env.locals) (hN : X.N.Nodup) (hi : X.N[i]? = some n) (hln : X.env.kindOf n = some .local) (hc : Names X x c) (tk : L2N.Takes X Wout)
    (hb : ∀ (W : WX) (pn : List (Addr × Obj)) (xe : Value → Shared → Prop), L2N.Takes (X.tr pn xe) W → PassesOwn (model X.prog X.w) X.A X.env xe → PSs (X.tr pn xe) body (tb W))
    (hsu : ∀ (a : Addr) (oe : Obj) (cls : Value) (d : Option Addr) (pn : List (Addr × Obj)), L2N.Zn cls d oe → (∃ vs, oe.data = .fields vs) → C cls d → PSs (X.suite a ((a, oe) :: pn)) (b₀ :: suite) (ts a)) :
    PS X (.Try body [.ExceptHandler (some (.Name x np)) (some n) (b₀ :: suite) pos'] [] [] pos) (fun D σ H => tb (wAs X.K c i (fun a cls d D σ H => C cls d ∧ ts a D σ H) Wout D) D σ H) :=
  L2N.ps_try_as hs hf hN hi hln hc tk hb fun a oe cls d pn hz hf => PSs.when fun hC => hsu a oe cls d pn hz hf hC
end
section
variable {X : Cx} {k : Nat} {f : Addr} {fd : FuncData} {ps : List Str} {sp : Addr → Sp} {E : SS → XK} {x : Str} {q pos : Pos} {e : Expr} {es : List Expr} {t : TA} {Z : Obj → Prop}
theorem pe_callZ2 {p : Addr × Obj} {spp : Sp} (F : ∃ (Z : Obj → Prop) (sp : Addr → Sp), FnZ X.prog X.w X.K X.mg X.base Z k f fd ps sp ∧ Z p.2 ∧ sp p.1 = spp) (room : L2H.RoomH k X.A) (hot : L2H.Hot1 X.A p) (hp : p ∈ X.pn) (hg : Gl X x) (hm : X.mg x = some (.ref f)) (hk : PySem.W.keepIn X.K (.ref f) = true) (hb : Binds X.K fd ps [])
    (hx : ∀ σ, PassesAt (L2N.CX X.prog X.w) X σ (E σ)) (ha : PA X (e :: es) t) (hdb : (x == ("__debug__" : Str)) = false := by decide) (he : starEach (e :: es) X.env = (false, eval e X.env) :: starEach es X.env := by rfl)
    (hpl : (backTo pos (starEach es X.env)).any (·.1) = false := by rfl) : PE X (.Call (.Name x q) (e :: es) [] pos) (tCallS spp E t) := by
  obtain ⟨Z, sp, F, hz, rfl⟩ := F
  exact pe_callZ F room hot hz hp hg hm hk hb hx ha hdb he hpl
end
section
variable {P : Program} {w : World} {K : PySem.W.Frag} {mg : Str → Option Value} {base : Heap}
def spOnly : Addr → Sp := fun a vs H Q _ => vs = [.ref a] ∧ ∀ H', Same H H' → Q (.bl true) H'
abbrev ZNT (K : PySem.W.Frag) : Obj → Prop := Zc (.ref (He.ga K "NoText")) none
theorem hot_of {cls : Value} {d : Option Addr} {oe : Obj} (hz : L2N.Zn cls d oe) (hf : ∃ vs, oe.data = .fields vs) : ∃ vs : Array Value, oe.data = .fields vs ∧ vs[2]? = some .none := by
  obtain ⟨vs, hv⟩ := hf
  exact ⟨vs, hv, hz.2.2 vs hv⟩
theorem z_of {cls : Value} {d : Option Addr} {oe : Obj} (hz : L2N.Zn cls d oe) (hC : cls = .ref (He.ga K "NoText") ∧ d = none) : ZNT K oe := by
  obtain ⟨rfl, rfl⟩ := hC
  exact hz.zc
theorem sc__law_only_no_text : FnScope ["e"] ["e"] (defScope s__law_only_no_text) := ⟨rfl, rfl, rfl, by decide +kernel, rfl, by decide +kernel, by decide +kernel⟩
theorem only_ok (T : Hd w K mg) : ∃ fd, FnZ P w K mg base (ZNT K) 1 (He.ga K "_law_only_no_text") fd ["e"] spOnly ∧ PySem.W.keepIn K (.ref (He.ga K "_law_only_no_text")) = true ∧ Binds K fd ["e"] [] := by
  obtain ⟨fd, F⟩ := T.fn__law_only_no_text
  refine ⟨fd, fnZ_mk F sc__law_only_no_text (fun a vs H Q E h => by obtain ⟨rfl, _⟩ := h; rfl) (fun cdv A outer s H vs Q E p hot hz hr h => ?_), F.kp, F.binds (ps := ["e"]) fun _ _ _ _ _ _ us hl => match us, hl with | [_], _ => rfl⟩
  obtain ⟨rfl, q⟩ := h
  have hf : ∃ vs, p.2.data = .fields vs := by
    obtain ⟨_, vs, hv, _⟩ := hot
    exact ⟨vs, hv⟩
  refine ⟨_, (pss_cons (ps_if (pt_val (pe_callB (call_isZ (p := p) T.nt.xc (List.mem_singleton.mpr rfl) hz hf) (by rfl) T.f_isinstance (by decide +kernel) (pa_cons (pv 0) (pa_cons (pe_tup (pa_cons (C8.pe_gc (v := .ref (He.ga K "Erring")) (by rfl) ⟨_, T.g_Erring, rfl⟩) (pa_cons (C8.pe_gc (v := .ref (He.ga K "Held")) (by rfl) ⟨_, T.g_Held, rfl⟩) (pa_cons (C8.pe_gc (v := .ref (He.ga K "NoDealing")) (by rfl) ⟨_, T.g_NoDealing, rfl⟩) (pa_cons (C8.pe_gc (v := .ref (He.ga K "NoHead")) (by rfl) ⟨_, T.g_NoHead, rfl⟩) (pa_cons (C8.pe_gc (v := .ref (He.ga K "NoJob")) (by rfl) ⟨_, T.g_NoJob, rfl⟩) (pa_cons (C8.pe_gc (v := .ref (He.ga K "NoLabel")) (by rfl) ⟨_, T.g_NoLabel, rfl⟩) (pa_cons (C8.pe_gc (v := .ref (He.ga K "NoLock")) (by rfl) ⟨_, T.g_NoLock, rfl⟩) pa_nil)))))))) pa_nil)))) (pss_one (ps_ret pe_bl)) pss_nil) (pss_cons (ps_if (pt_val (pe_callB (call_isZ (p := p) T.nt.xc (List.mem_singleton.mpr rfl) hz hf) (by rfl) T.f_isinstance (by decide +kernel) (pa_cons (pv 0) (pa_cons (pe_tup (pa_cons (C8.pe_gc (v := .ref (He.ga K "NoProgram")) (by rfl) ⟨_, T.g_NoProgram, rfl⟩) (pa_cons (C8.pe_gc (v := .ref (He.ga K "NoRef")) (by rfl) ⟨_, T.g_NoRef, rfl⟩) (pa_cons (C8.pe_gc (v := .ref (He.ga K "NoWorth")) (by rfl) ⟨_, T.g_NoWorth, rfl⟩) (pa_cons (C8.pe_gc (v := .ref (He.ga K "TooDeep")) (by rfl) ⟨_, T.g_TooDeep, rfl⟩) (pa_cons (C8.pe_gc (v := .ref (He.ga K "TooLong")) (by rfl) ⟨_, T.g_TooLong, rfl⟩) (pa_cons (C8.pe_gc (v := .ref (He.ga K "Waiting")) (by rfl) ⟨_, T.g_Waiting, rfl⟩) (pa_cons (C8.pe_gc (v := .ref (He.ga K "Within")) (by rfl) ⟨_, T.g_Within, rfl⟩) pa_nil)))))))) pa_nil)))) (pss_one (ps_ret pe_bl)) pss_nil) (pss_one (ps_ret (pe_and (pe_callB (call_isZ (p := p) T.nt.xc (List.mem_singleton.mpr rfl) hz hf) (by rfl) T.f_isinstance (by decide +kernel) (pa_cons (pv 0) (pa_cons (C8.pe_gc (v := .ref (He.ga K "NoText")) (by rfl) ⟨_, T.g_NoText, rfl⟩) pa_nil))) (pe_one (pe_callB (call_isZ (p := p) T.nt.xc (List.mem_singleton.mpr rfl) hz hf) (by rfl) T.f_isinstance (by decide +kernel) (pa_cons (pv 0) (pa_cons (pe_bltn (v := .ty "ValueError") (u := .type "ValueError") (by rfl) T.f_ValueError (by decide +kernel) rfl) pa_nil))))))))), ?_⟩
  walk_at "rd"
  have nt := T.nt
  refine ⟨by rw [sizeLine_eq]; omega, fun a1 n1 => .inr ⟨a1, _, _, false, rfl, upd_same, .cons (.own _) (.cons (.own _) (.cons (.own _) (.cons (.own _) (.cons (.own _) (.cons (.own _) (.cons (.own _) .nil)))))), ?_, false, rfl, ?_⟩⟩
  · exact kitAny_cons nt.no_Erring (fun _ => kitAny_cons nt.no_Held (fun _ => kitAny_cons nt.no_NoDealing (fun _ => kitAny_cons nt.no_NoHead (fun _ => kitAny_cons nt.no_NoJob (fun _ => kitAny_cons nt.no_NoLabel (fun _ => kitAny_cons nt.no_NoLock (fun _ => kitAny_nil) nofun) nofun) nofun) nofun) nofun) nofun) nofun
  rw [if_neg (by decide)]
  refine ⟨by rw [sizeLine_eq]; omega, fun a2 n2 => .inr ⟨a2, _, _, false, rfl, upd_same, .cons (.own _) (.cons (.own _) (.cons (.own _) (.cons (.own _) (.cons (.own _) (.cons (.own _) (.cons (.own _) .nil)))))), ?_, false, rfl, ?_⟩⟩
  · exact kitAny_cons nt.no_NoProgram (fun _ => kitAny_cons nt.no_NoRef (fun _ => kitAny_cons nt.no_NoWorth (fun _ => kitAny_cons nt.no_TooDeep (fun _ => kitAny_cons nt.no_TooLong (fun _ => kitAny_cons nt.no_Waiting (fun _ => kitAny_cons nt.no_Within (fun _ => kitAny_nil) nofun) nofun) nofun) nofun) nofun) nofun) nofun
  rw [if_neg (by decide)]
  refine .inl ⟨_, _, true, rfl, .own _, nt.yes, true, rfl, ?_⟩
  rw [if_pos rfl]
  exact .inl ⟨_, _, true, rfl, .ty _, nt.ve, q _ ((same_new n1).trans (same_new n2))⟩
/-- what is refused by all three -/
def bad (K : PySem.W.Frag) (H : Hp) (v : V) : Prop := (∃ z, v = .str z ∧ z.length ≤ 5000000 ∧ (∀ e, exR 40 (tl z) ≠ some (e, [])) ∧ progR (tl z) = none ∧ ∀ q, nodeR (tl z) ≠ some (q, [])) ∨ notStr K H v
def spRef (K : PySem.W.Frag) : Sp := fun vs H Q _ => ∃ v door, vs = [v, .int door] ∧ bad K H v ∧ ∀ H', Same H H' → Q (.bl true) H'
theorem sc__law_refused : FnScope ["thing", "door", "e"] ["thing", "door"] (defScope s__law_refused) := ⟨rfl, rfl, rfl, by decide +kernel, rfl, by decide +kernel, by decide +kernel⟩
theorem ok__law_refused (T : Hd w K mg) {k : Nat} {fdo : FuncData} (hk : 1 ≤ k) (F_only : FnZ P w K mg base (ZNT K) 1 (He.ga K "_law_only_no_text") fdo ["e"] spOnly) (k_only : PySem.W.keepIn K (.ref (He.ga K "_law_only_no_text")) = true) (b_only : Binds K fdo ["e"] []) (D_read_expression : Dn P w K mg base k "read_expression" (spRE K)) (D_read_program : Dn P w K mg base k "read_program" (spRP K)) (D_read_arrays : Dn P w K mg base k "read_arrays" (spRA K)) : Dn P w K mg base (k + 1) "_law_refused" (spRef K) := by
  obtain ⟨fd, F⟩ := T.fn__law_refused
  refine dn_mk F T.g__law_refused (F.binds (ps := ["thing", "door"]) fun _ _ _ _ _ _ us hl => match us, hl with | [_, _], _ => rfl) sc__law_refused (fun vs H Q E h => ?_) (fun cdv A outer s H vs Q E hr tk h => ?_)
  · obtain ⟨v, door, rfl, hb, q⟩ := h
    rfl
  obtain ⟨v, door, rfl, hb, q⟩ := h
  refine ⟨_, (pss_cons (try_when (C := fun cls d => cls = .ref (He.ga K "NoText") ∧ d = none) (i := 2) rfl rfl sc__law_refused.nd rfl rfl ⟨(by rfl), (by decide +kernel), .inl T.g_StemError⟩ tk (fun W pn xe tk own => (pss_one (ps_if (pt_cmpR op_eq (pv 1) pe_int (nomark _)) (pss_one (ps_expr (pe_d D_read_expression hr (by first | decide | omega) (fun σ => L2N.passAt tk σ) (by rfl) (pa_cons (pv 0) pa_nil)))) (pss_one (ps_if (pt_cmpR op_eq (pv 1) pe_int (nomark _)) (pss_one (ps_expr (pe_d D_read_program hr (by first | decide | omega) (fun σ => L2N.passAt tk σ) (by rfl) (pa_cons (pv 0) pa_nil)))) (pss_one (ps_expr (pe_d D_read_arrays hr (by first | decide | omega) (fun σ => L2N.passAt tk σ) (by rfl) (pa_cons (pe_lst (pa_cons (pv 0) pa_nil)) pa_nil))))))))) (fun a oe cls d pn hz hf hC => (pss_one (ps_ret (pe_callZ2 (spp := spOnly a) (p := (a, oe)) ⟨_, _, F_only, z_of hz hC, rfl⟩ ⟨(L2H.roomH_of (hr.mono hk)).dp, (L2H.roomH_of (hr.mono hk)).un⟩ ⟨rfl, hot_of hz hf⟩ List.mem_cons_self (by rfl) T.g__law_only_no_text k_only b_only (fun σ => passN σ) (pa_cons (pv 2) pa_nil)))))) (pss_one (ps_ret pe_bl))), ?_⟩
  walk_at "rd"
  have hE : ∀ H', Same H H' → WE (wAs K (Value.ref (He.ga K "StemError")) 2 (fun a cls d D σ H => cls = Value.ref (He.ga K "NoText") ∧ d = none ∧ ∃ v, σ[2]? = some (some v) ∧ spOnly a [v] H D.rt E0) (fun cls d x H => E cls d H) { nx := tRet (tC (V.bl false)) { nx := fun x H' => Q V.non H', rt := Q }, rt := Q }) [some v, some (V.int door), none] (exNT K) none H' :=
    fun H' s => ⟨true, T.e_NoText_StemError, fun _ a ha => ⟨rfl, rfl, .ref a, rfl, rfl, fun H'' s' => q H'' (s.trans s')⟩, fun h => by cases h⟩
  by_cases d0 : door = 0
  · rw [if_pos d0]
    rcases hb with ⟨z, rfl, hz, h1, h2, h3⟩ | hn
    · exact ⟨_, rfl, .inl ⟨z, rfl, hz, fun e he => absurd he (h1 e), fun _ => hE⟩⟩
    · exact ⟨_, rfl, .inr ⟨hn, hE⟩⟩
  rw [if_neg d0]
  by_cases d1 : door = 1
  · rw [if_pos d1]
    rcases hb with ⟨z, rfl, hz, h1, h2, h3⟩ | hn
    · exact ⟨_, rfl, .inl ⟨z, rfl, hz, h2⟩, hE⟩
    · exact ⟨_, rfl, .inr hn, hE⟩
  rw [if_neg d1]
  refine ⟨by rw [sizeLine_eq]; omega, fun p np => ⟨_, rfl, .inr ⟨p, v, [], rfl, SqL.of upd_same, ?_⟩, fun H' s => hE H' ((same_new np).trans s)⟩⟩
  rcases hb with ⟨z, rfl, hz, h1, h2, h3⟩ | hn
  · exact .inl ⟨z, rfl, hz, h3⟩
  · exact .inr (hn.same (same_new np))
end
end Sk

/-! ## C12 -/
namespace Sk
open PySem PySem.Spec PyProof.Rows L2
set_option hygiene false in
local macro_rules | `(tactic| walk_at "rd") => `(tactic| simp only [tVar, tC, tB, tAnd, tOr, tNot, tAndV, tOrV, tNotV, tIf, tNext, tSeq, tBreak, tCont, tDrop, tRet, tRetN, tIfS, tAsg, tAug, tOp, tUn, tTest, tChain, tFld, sFldAug, sFld, rAdd, tNil, tCons, tTup, tLst, tCB, tNoPart, tPart, tSl, tBM0, tBM, tYes, tM0, tM1, CwR.tReplC, tCallS, tMethS, tMakeS, gName, wipe, tyV, gTup, gCons, gNil,
  rI, rI0, rEq, rNe, scal, rPlus, rPlusI, rPlusS, rCat, rCatA, rIx, rIxL, rIxT, rIxS, rSl, rSlS, rSlL, rSlA, iPlus, iPlusI, iPlusS, ipI, rAll, rAny, LenV, WE, E0, rAppend,
  L2.start, List.map_cons, List.map_nil, List.length_cons, List.length_nil, Nat.zero_add, Nat.add_zero, Nat.reduceAdd, Nat.reduceSub, Nat.sub_self, List.replicate_zero, List.replicate_succ, List.append_nil, List.nil_append, List.cons_append, List.getElem?_cons_zero, List.getElem?_cons_succ, List.set_cons_zero, List.set_cons_succ, Option.some.injEq,
  V.int.injEq, V.str.injEq, V.bl.injEq, V.ref.injEq, V.ty.injEq, HO.ins.injEq, HO.lst.injEq, HO.tup.injEq, List.cons.injEq, reduceCtorEq, false_and, and_false, true_and, and_true, and_assoc, exists_const, exists_false, false_or, or_false, exists_eq_left', exists_eq_left, exists_eq_right, exists_eq_right', exists_and_left, ↓reduceIte, decide_eq_true_eq, Bool.not_eq_true', decide_eq_false_iff_not, if_true, if_false, cxOf, and_self, Bool.not_true, Bool.not_false, Bool.false_eq_true,
  sf_signs, sf_spot, sf_put, T.cl_Source, T.na_Source_signs, T.na_Source_spot, sg_inj, upd_same, rIsS, tyN, kb1, kb2, kb3, kb4, kb5, kb6, kb7, kb8, kb9, kb10, kb11, kb12, kb13, kb14, kb15, kb16, kb17, kb18, kb19, kb20, kb21, tDNewK, rPowW])
section
variable {P : Program} {w : World} {K : PySem.W.Frag} {mg : Str → Option Value} {base : Heap}
theorem ok_refused (T : Hd w K mg) : Dn P w K mg base 215 "_law_refused" (spRef K) := by
  have R := rds (P := P) (base := base) T
  obtain ⟨_, h40, hpl⟩ := ex_chain (P := P) (base := base) T 40
  have hpa := ok_parts_read T (by omega) R.goes_past R.skips h40
  have hsp := ok_some_parts_read T (by omega) R.comes_next hpa
  have hfo := ok_for_read T (by omega) R.goes_past R.name_read h40
  have hns := ok_names_read T R.skips R.name_read
  have hde := ok_deed_read T (k := 210) (by omega) R.run_of R.comes_next R.goes_past R.name_read hns (hfo.mono (by omega)) (hpl.mono (by omega)) hsp (h40.mono (by omega))
  have hro := ok_row_read T (by omega) R.skips R.comes_next R.goes_past hde
  have hla := ok_label_read T (by omega) R.skips R.goes_past R.name_read hns hro
  have kS := ok_Source___init__ (P := P) (base := base) T
  have kA := ok_Arrays___init__ (P := P) (base := base) T
  have hre := ok_read_expression T (by omega) kS R.at_end h40
  have hrp := ok_read_program T (by omega) kS R.at_end hla (Dn.false_is_program T _)
  have hno := ok_node_read T R.skips R.goes_past R.name_read R.worth_read R.quoted_read
  have hra := ok_read_arrays T kS kA R.at_end hno (Mt.false_put T _) (Dn.false_is_key T _) (Dn.false_show_arrays T _)
  obtain ⟨fdo, F, k, b⟩ := only_ok (P := P) (base := base) T
  exact ok__law_refused T (k := 214) (by omega) F k b (hre.mono (by omega)) hrp (hra.mono (by omega))
/-- the ends that leave a text unwritten -/
def ends5 : List Str := ["?", "!", "=", "?|", "\n"]
theorem bad_text {H : Hp} {x e : Str} (he : e ∈ ends5) (hl : (x ++ e).length ≤ 5000000) : bad K H (.str (x ++ e)) := by
  have g : ∀ (l : Tx) (r : Nat), good r = true → ∀ c : Tx, l ++ tl e = c ++ [r] → False := fun l r hg c h => by
    have h2 := congrArg List.getLast? h
    simp only [ends5, List.mem_cons, List.not_mem_nil, or_false] at he
    rcases he with rfl | rfl | rfl | rfl | rfl
    · rw [show tl (Str.ofString "?") = [63] by decide +kernel] at h2
      simp at h2
      subst h2
      exact absurd hg (by decide +kernel)
    · rw [show tl (Str.ofString "!") = [33] by decide +kernel] at h2
      simp at h2
      subst h2
      exact absurd hg (by decide +kernel)
    · rw [show tl (Str.ofString "=") = [61] by decide +kernel] at h2
      simp at h2
      subst h2
      exact absurd hg (by decide +kernel)
    · rw [show tl (Str.ofString "?|") = [63, 124] by decide +kernel] at h2
      simp at h2
      subst h2
      exact absurd hg (by decide +kernel)
    · rw [show tl (Str.ofString "\n") = [10] by decide +kernel] at h2
      simp at h2
      subst h2
      exact absurd hg (by decide +kernel)
  refine .inl ⟨_, rfl, hl, fun ex h => ?_, ?_, fun q h => ?_⟩
  · obtain ⟨c, r, hc, hr⟩ := exR_en 40 _ _ _ h
    rw [tl_app] at hc
    exact g _ r hr c hc
  · cases hp : progR (tl (x ++ e)) with
    | none => rfl
    | some ds =>
      rcases progT_en _ _ _ hp with h | ⟨c, r, hc, hr⟩
      · rw [tl_app] at h
        have h2 := congrArg List.length h
        simp only [ends5, List.mem_cons, List.not_mem_nil, or_false] at he
        rcases he with rfl | rfl | rfl | rfl | rfl <;> (rw [List.append_eq_nil_iff] at h; exact absurd h.2 (by decide +kernel))
      · rw [tl_app] at hc
        have h2 := congrArg List.getLast? hc
        have h3 := congrArg (fun l => l.dropLast.getLast?) hc
        simp only [ends5, List.mem_cons, List.not_mem_nil, or_false] at he
        rcases he with rfl | rfl | rfl | rfl | rfl
        · rw [show tl (Str.ofString "?") = [63] by decide +kernel] at h2
          simp at h2
        · rw [show tl (Str.ofString "!") = [33] by decide +kernel] at h2
          simp at h2
        · rw [show tl (Str.ofString "=") = [61] by decide +kernel] at h2
          simp at h2
        · rw [show tl (Str.ofString "?|") = [63, 124] by decide +kernel] at hc
          have hc2 : (tl x ++ [63]) ++ [124] = (c ++ [r]) ++ [124] := by simpa using hc
          have hc3 := (List.append_inj' hc2 rfl).1
          have hc4 := (List.append_inj' hc3 rfl).2
          have hc5 : 63 = r := by simpa using hc4
          subst hc5
          exact absurd hr (by decide +kernel)
        · rw [show tl (Str.ofString "\n") = [10] by decide +kernel] at h2
          simp at h2
  · obtain ⟨c, hc⟩ := nodeR_34 h
    rw [tl_app] at hc
    exact g _ 34 (by decide) c hc
end
end Sk

/-! ## C13 -/
namespace Sk
open PySem PySem.Spec PyProof.Rows L2
set_option hygiene false in
local macro_rules | `(tactic| walk_at "rd") => `(tactic| simp only [tVar, tC, tB, tAnd, tOr, tNot, tAndV, tOrV, tNotV, tIf, tNext, tSeq, tBreak, tCont, tDrop, tRet, tRetN, tIfS, tAsg, tAug, tOp, tUn, tTest, tChain, tFld, sFldAug, sFld, rAdd, tNil, tCons, tTup, tLst, tCB, tNoPart, tPart, tSl, tBM0, tBM, tYes, tM0, tM1, CwR.tReplC, tCallS, tMethS, tMakeS, gName, wipe, tyV, gTup, gCons, gNil,
  rI, rI0, rEq, rNe, scal, rPlus, rPlusI, rPlusS, rCat, rCatA, rIx, rIxL, rIxT, rIxS, rSl, rSlS, rSlL, rSlA, iPlus, iPlusI, iPlusS, ipI, rAll, rAny, LenV, WE, E0, rAppend,
  L2.start, List.map_cons, List.map_nil, List.length_cons, List.length_nil, Nat.zero_add, Nat.add_zero, Nat.reduceAdd, Nat.reduceSub, Nat.sub_self, List.replicate_zero, List.replicate_succ, List.append_nil, List.nil_append, List.cons_append, List.getElem?_cons_zero, List.getElem?_cons_succ, List.set_cons_zero, List.set_cons_succ, Option.some.injEq,
  V.int.injEq, V.str.injEq, V.bl.injEq, V.ref.injEq, V.ty.injEq, HO.ins.injEq, HO.lst.injEq, HO.tup.injEq, List.cons.injEq, reduceCtorEq, false_and, and_false, true_and, and_true, and_assoc, exists_const, exists_false, false_or, or_false, exists_eq_left', exists_eq_left, exists_eq_right, exists_eq_right', exists_and_left, ↓reduceIte, decide_eq_true_eq, Bool.not_eq_true', decide_eq_false_iff_not, if_true, if_false, cxOf, and_self, Bool.not_true, Bool.not_false, Bool.false_eq_true,
  sf_signs, sf_spot, sf_put, T.cl_Source, T.na_Source_signs, T.na_Source_spot, sg_inj, upd_same, rIsS, tyN, kb1, kb2, kb3, kb4, kb5, kb6, kb7, kb8, kb9, kb10, kb11, kb12, kb13, kb14, kb15, kb16, kb17, kb18, kb19, kb20, kb21, tDNewK, rPowW])
section
variable {P : Program} {w : World} {K : PySem.W.Frag} {mg : Str → Option Value} {base : Heap}
def spLaw (K : PySem.W.Frag) : Sp := fun vs H Q _ => ∃ (a : Addr) (xs : List Int), vs = [.ref a] ∧ SqL K H a (xs.map V.int) ∧ ∀ H', Q (.bl true) H'
def S29 : List Str := ["(", "'(", "-(", "-", "'", "$length(", "$piece(", "^(", "^a(", "a(", "1+(", "$other(a,", "$order(^(", ")", "()", "\"", "\"\"", ",", "1,", "a=", "set a=", "a|", "  ", "  a; ", "do a(", "for a=1:", "|", "^a(1,", "1+"]
theorem S29_len : ∀ s ∈ S29, s.length ≤ 9 := by decide +kernel
theorem two_new {H : Hp} {p1 p2 : Addr} {u1 u2 : HO} (n2 : upd H p1 u1 p2 = none) : upd (upd H p1 u1) p2 u2 p1 = some u1 := by
  rw [upd_ne (ne_of_none upd_same n2)]
  exact upd_same
theorem for_rng {ta : TA} {g : TG} {tb : TS} {D : L2.Ends} {σ : SS} {H : Hp} (n : Nat) (h : ∀ R : List V → Hp → Prop, R [.int n] H → ta σ H R) (hn : n < 2 ^ 62) (Pv : Nat → SS → Hp → Prop) (h0 : Pv 0 σ H)
    (hs : ∀ (i : Nat) σ H, i < n → Pv i σ H → g (.int i) σ H fun σ2 H2 => tb { D with nx := Pv (i + 1), ct := Pv (i + 1), bk := D.nx } σ2 H2) (hd : ∀ σ H, Pv n σ H → D.nx σ H) : tFor (iRng1 ta) g tb D σ H := by
  refine h _ ⟨n, rfl, by omega, by omega, ?_⟩
  exact for_range (lo := 0) Pv h0 (fun i σ H hi p => by rw [Int.zero_add]; exact hs i σ H hi p) hd
theorem same_updN {H0 H : Hp} {b : Addr} {u : HO} (s : Same H0 H) (n : H0 b = none) : Same H0 (upd H b u) := fun c o h => by
  rw [upd_ne (ne_of_none h n)]
  exact s c o h
theorem draw1 {H0 Hk : Hp} {b : Addr} {x y n m : Int} {Q : VK} {E : XK} (hb : Hk b = some (.lst [.int x, .int y, .int n])) (hm : 0 < m) (hm2 : m ≤ 1000) (hx : 0 ≤ x) (hy : 0 ≤ y) (hy2 : y < 2 ^ 128) (hn : 0 ≤ n) (hn2 : n ≤ 1000) (s : Same H0 Hk) (nb : H0 b = none)
    (h : ∀ r x' n' H2, 0 ≤ r → r < m → 0 ≤ x' → 0 ≤ n' → n' ≤ n + 1 → Same H0 H2 → H2 b = some (.lst [.int x', .int y, .int n']) → (∀ c, c ≠ b → H2 c = Hk c) → Q (.int r) H2) : spDraw [.ref b, .int m] Hk Q E :=
  ⟨b, m, x, y, n, rfl, hb, hm, hm2, hx, hy, hy2, hn, by omega, fun r x' n' h1 h2 h3 h4 h5 => h r x' n' _ h1 h2 h3 h4 h5 (same_updN s nb) upd_same fun c hc => upd_ne hc⟩
theorem ix_str1 {S : List Str} {r : Int} (h0 : 0 ≤ r) (h1 : r < (S.length : Int)) : ∃ s, s ∈ S ∧ atI (S.map V.str) r = some (V.str s) := by
  have hl : r.toNat < S.length := by omega
  refine ⟨S[r.toNat], List.getElem_mem hl, ?_⟩
  have e : (S.map V.str)[r.toNat]? = some (V.str S[r.toNat]) := by
    rw [List.getElem?_map, List.getElem?_eq_getElem hl]
    rfl
  have e2 := atI_nat e
  rwa [show ((r.toNat : Nat) : Int) = r by omega] at e2
theorem ix_any {L : List V} {r : Int} (h0 : 0 ≤ r) (h1 : r < (L.length : Int)) : ∃ v, v ∈ L ∧ atI L r = some v := by
  have hl : r.toNat < L.length := by omega
  refine ⟨L[r.toNat], List.getElem_mem hl, ?_⟩
  have e : L[r.toNat]? = some L[r.toNat] := List.getElem?_eq_getElem hl
  have e2 := atI_nat e
  rwa [show ((r.toNat : Nat) : Int) = r by omega] at e2
def B5 : List Str := ["", "a|  write ", "a|  set a=", "1+", "^a("]
theorem B5_len : ∀ s ∈ B5, s.length ≤ 20 := by decide +kernel
theorem mul_len (n : Nat) (l : Tx) : (⟨((List.replicate n l).flatten).toArray⟩ : Str).length = n * l.length := by
  simp [Str.length]
theorem cutS_le (z : Str) (j : Option Int) : (cutS z none j).length ≤ z.length := by
  unfold cutS
  rw [← tl_len, ← tl_len]
  show (List.take _ (List.drop _ (tl z))).length ≤ _
  rw [List.length_take, List.length_drop]
  omega
def P28 (τ : V → Option V → SS) (HF : Hp) (σ : SS) (H'' : Hp) : Prop := ∃ (v : Addr) (d : Option V), σ = τ (.ref v) d ∧ (∃ ys, dif HF H'' v = some (.lst ys)) ∧ Same HF H''
def P3 (K : PySem.W.Frag) (τ : Option V → SS) (H0 HK : Hp) (b : Addr) (y N : Int) (σ : SS) (H'' : Hp) : Prop := ∃ (d : Option V) (x n : Int), σ = τ d ∧ But b HK H'' ∧ Same H0 H'' ∧ H'' b = some (.lst [.int x, .int y, .int n]) ∧ 0 ≤ x ∧ 0 ≤ n ∧ n ≤ N
theorem notTy.dif {K : PySem.W.Frag} {H H1 H2 : Hp} {n : String} {v : V} (na : ∀ c, H1 c ≠ none → H2 c = H1 c) (h : notTy K (dif H H1) n v) : notTy K (dif H H2) n v := h.same fun c o e => by
  obtain ⟨e1, e2⟩ := dif_eq.mp e
  exact dif_eq.mpr ⟨e1, by rw [na c (by rw [e2]; nofun)]; exact e2⟩
theorem sc_law : FnScope ["script", "stretches", "k", "bag", "stretch", "many", "begin", "text", "door", "deep", "turn", "things"] ["script"] (defScope s_law) := ⟨rfl, rfl, rfl, by decide +kernel, rfl, by decide +kernel, by decide +kernel⟩
theorem fn_law (T : Hd w K mg) {fd : FuncData} (F : Fun K "law" "law" s_law (He.ga K "law") fd) (D__law_cell_at : Dn P w K mg base 1 "_law_cell_at" (spCell K)) (D__law_bag : Dn P w K mg base 1 "_law_bag" spBag) (D__law_draw : Dn P w K mg base 1 "_law_draw" spDraw) (D__law_refused : Dn P w K mg base 215 "_law_refused" (spRef K)) : FnOk P w K mg base (L2N.CX P w) 216 (He.ga K "law") fd ["script"] (spLaw K) := by
  refine okN F sc_law (fun vs H Q E h => ?_) (fun cdv A outer s H vs Q E hr tk h => ?_)
  · obtain ⟨a, xs, rfl, hL, q⟩ := h
    rfl
  obtain ⟨a, xs, rfl, hL, q⟩ := h
  refine ⟨_, (pss_cons (ps_set (i := 1) sc_law.nd rfl (by first | exact Or.inl rfl | exact Or.inr rfl) (pe_lst (pa_cons pe_str (pa_cons pe_str (pa_cons pe_str (pa_cons pe_str (pa_cons pe_str (pa_cons pe_str (pa_cons pe_str (pa_cons pe_str (pa_cons pe_str (pa_cons pe_str (pa_cons pe_str (pa_cons pe_str pa_nil)))))))))))))) (pss_cons (ps_set (i := 1) sc_law.nd rfl (by first | exact Or.inl rfl | exact Or.inr rfl) (pe_op op_cat (pv 1) (pe_lst (pa_cons pe_str (pa_cons pe_str (pa_cons pe_str (pa_cons pe_str (pa_cons pe_str (pa_cons pe_str (pa_cons pe_str (pa_cons pe_str (pa_cons pe_str (pa_cons pe_str (pa_cons pe_str (pa_cons pe_str pa_nil))))))))))))))) (pss_cons (ps_set (i := 1) sc_law.nd rfl (by first | exact Or.inl rfl | exact Or.inr rfl) (pe_op op_cat (pv 1) (pe_lst (pa_cons pe_str (pa_cons pe_str (pa_cons pe_str (pa_cons pe_str (pa_cons pe_str pa_nil)))))))) (pss_cons (ps_for (passes_of rfl) rfl (pi_range1 (by rfl) T.f_range (pa_cons (pe_callB (call_max2 rfl) (by rfl) T.f_max (by decide +kernel) (pa_cons pe_int (pa_cons (pe_callB (call_min2 rfl) (by rfl) T.f_min (by decide +kernel) (pa_cons pe_int (pa_cons (pe_callB call_len (by rfl) T.f_len (by decide +kernel) (pa_cons (pv 0) pa_nil)) pa_nil))) pa_nil))) pa_nil)) (pg_name (i := 2) sc_law.nd rfl (by first | exact Or.inl rfl | exact Or.inr rfl)) (pss_cons (ps_set (i := 3) sc_law.nd rfl (by first | exact Or.inl rfl | exact Or.inr rfl) (pe_d D__law_bag hr (by first | decide | omega) (fun σ => L2N.passAt tk σ) (by rfl) (pa_cons (pe_d D__law_cell_at hr (by first | decide | omega) (fun σ => L2N.passAt tk σ) (by rfl) (pa_cons (pv 0) (pa_cons (pv 2) pa_nil))) (pa_cons (pv 2) pa_nil)))) (pss_cons (ps_set (i := 4) sc_law.nd rfl (by first | exact Or.inl rfl | exact Or.inr rfl) (pe_ix ix_list (pv 1) (pe_d D__law_draw hr (by first | decide | omega) (fun σ => L2N.passAt tk σ) (by rfl) (pa_cons (pv 3) (pa_cons pe_int pa_nil))) (fun _ _ => rfl))) (pss_cons (ps_set (i := 5) sc_law.nd rfl (by first | exact Or.inl rfl | exact Or.inr rfl) (pe_ix ix_list (pe_lst (pa_cons pe_int (pa_cons (pe_d D__law_draw hr (by first | decide | omega) (fun σ => L2N.passAt tk σ) (by rfl) (pa_cons (pv 3) (pa_cons pe_int pa_nil))) (pa_cons pe_int pa_nil)))) (pe_d D__law_draw hr (by first | decide | omega) (fun σ => L2N.passAt tk σ) (by rfl) (pa_cons (pv 3) (pa_cons pe_int pa_nil))) (fun _ _ => rfl))) (pss_cons (ps_set (i := 6) sc_law.nd rfl (by first | exact Or.inl rfl | exact Or.inr rfl) (pe_ix ix_list (pe_lst (pa_cons pe_str (pa_cons pe_str (pa_cons pe_str (pa_cons pe_str (pa_cons pe_str pa_nil)))))) (pe_d D__law_draw hr (by first | decide | omega) (fun σ => L2N.passAt tk σ) (by rfl) (pa_cons (pv 3) (pa_cons pe_int pa_nil))) (fun _ _ => rfl))) (pss_cons (ps_set (i := 7) sc_law.nd rfl (by first | exact Or.inl rfl | exact Or.inr rfl) (pe_op op_add_str (pe_slice sl_str (pe_op op_add_str (pv 6) (pe_op op_mulS (pv 4) (pv 5))) po_none (po_some pe_int)) (pe_ix ix_list (pe_lst (pa_cons pe_str (pa_cons pe_str (pa_cons pe_str (pa_cons pe_str (pa_cons pe_str pa_nil)))))) (pe_d D__law_draw hr (by first | decide | omega) (fun σ => L2N.passAt tk σ) (by rfl) (pa_cons (pv 3) (pa_cons pe_int pa_nil))) (fun _ _ => rfl)))) (pss_cons (ps_for (passes_of rfl) rfl (pi_range1 (by rfl) T.f_range (pa_cons pe_int pa_nil)) (pg_name (i := 8) sc_law.nd rfl (by first | exact Or.inl rfl | exact Or.inr rfl)) (pss_one (ps_if (pt_not (pt_val (pe_d D__law_refused hr (by first | decide | omega) (fun σ => L2N.passAt tk σ) (by rfl) (pa_cons (pv 7) (pa_cons (pv 8) pa_nil))))) (pss_one (ps_ret pe_bl)) pss_nil))) (pss_cons (ps_set (i := 9) sc_law.nd rfl (by first | exact Or.inl rfl | exact Or.inr rfl) (pe_lst pa_nil)) (pss_cons (ps_for (passes_of rfl) rfl (pi_range1 (by rfl) T.f_range (pa_cons pe_int pa_nil)) (pg_name (i := 10) sc_law.nd rfl (by first | exact Or.inl rfl | exact Or.inr rfl)) (pss_one (ps_set (i := 9) sc_law.nd rfl (by first | exact Or.inl rfl | exact Or.inr rfl) (pe_lst (pa_cons (pv 9) pa_nil))))) (pss_cons (ps_set (i := 11) sc_law.nd rfl (by first | exact Or.inl rfl | exact Or.inr rfl) (pe_lst (pa_cons pe_non (pa_cons pe_int (pa_cons pe_bl (pa_cons (pe_lst pa_nil) (pa_cons (pe_lst (pa_cons pe_str pa_nil)) (pa_cons (pe_tup (pa_cons pe_str (pa_cons pe_str pa_nil))) (pa_cons pe_dnewK (pa_cons (pv 9) (pa_cons (pe_tup (pa_cons (pv 9) pa_nil)) pa_nil))))))))))) (pss_one (ps_for (passes_of rfl) rfl (pi_range1 (by rfl) T.f_range (pa_cons pe_int pa_nil)) (pg_name (i := 8) sc_law.nd rfl (by first | exact Or.inl rfl | exact Or.inr rfl)) (pss_one (ps_if (pt_not (pt_val (pe_d D__law_refused hr (by first | decide | omega) (fun σ => L2N.passAt tk σ) (by rfl) (pa_cons (pe_ix ix_list (pv 11) (pe_d D__law_draw hr (by first | decide | omega) (fun σ => L2N.passAt tk σ) (by rfl) (pa_cons (pv 3) (pa_cons pe_int pa_nil))) (fun _ _ => rfl)) (pa_cons (pv 8) pa_nil))))) (pss_one (ps_ret pe_bl)) pss_nil)))))))))))))) (pss_one (ps_ret pe_bl)))))), ?_⟩
  walk_at "rd"
  refine ⟨by rw [sizeLine_eq]; omega, fun p1 n1 => ⟨by rw [sizeLine_eq]; omega, fun p2 n2 => ⟨_, two_new n2, by rw [sizeLine_eq]; simp only [List.length_cons, List.length_nil]; omega, fun p3 n3 => ⟨by rw [sizeLine_eq]; omega, fun p4 n4 => ⟨_, two_new n4, by rw [sizeLine_eq]; simp only [List.length_cons, List.length_nil, List.length_append]; omega, fun p5 n5 => ?_⟩⟩⟩⟩⟩
  generalize hH5 : upd _ p5 (HO.lst _) = H5
  have h5 : H5 p5 = some (.lst (S29.map V.str)) := by rw [← hH5]; exact upd_same
  have s5 : Same H H5 := by rw [← hH5]; exact (same_new n1).trans ((same_new n2).trans ((same_new n3).trans ((same_new n4).trans (same_new n5))))
  clear hH5 n5 n4 n3 n2 n1
  clear p4 p3 p2 p1
  obtain ⟨N, hN, hN2⟩ : ∃ N : Nat, N ≤ 12 ∧ (if (if ((xs.map V.int).length : Int) < 12 then ((xs.map V.int).length : Int) else 12) > 1 then (if ((xs.map V.int).length : Int) < 12 then ((xs.map V.int).length : Int) else 12) else 1) = (N : Int) := by
    refine ⟨(if (if ((xs.map V.int).length : Int) < 12 then ((xs.map V.int).length : Int) else 12) > 1 then (if ((xs.map V.int).length : Int) < 12 then ((xs.map V.int).length : Int) else 12) else 1).toNat, ?_, ?_⟩
    · split <;> split <;> omega
    · split <;> split <;> omega
  refine for_rng N (fun R h => ?_) (by omega) (fun i σ H' => (∃ c2 c3 c4 c5 c6 c7 c8 c9 c10 c11, σ = [some (V.ref a), some (V.ref p5), c2, c3, c4, c5, c6, c7, c8, c9, c10, c11]) ∧ Same H5 H') ⟨⟨_, _, _, _, _, _, _, _, _, _, rfl⟩, Same.refl _⟩ ?_ ?_
  · walk_at "rd"
    refine ⟨_, .inl ⟨_, s5.seq hL, rfl⟩, ?_⟩
    rw [hN2]
    exact h
  · rintro i σ H' hi ⟨⟨c2, c3, c4, c5, c6, c7, c8, c9, c10, c11, rfl⟩, s6⟩
    walk_at "rd"
    have hL6 := s6.seq (s5.seq hL)
    have h6 := s6 _ _ h5
    refine ⟨a, xs, i, rfl, hL6, by omega, fun c => ⟨c, i, rfl, by omega, by omega, fun x y b hx hy hy2 nb => ?_⟩⟩
    have hne : p5 ≠ b := ne_of_none h6 nb
    refine draw1 upd_same (by decide) (by decide) hx hy hy2 (by decide) (by decide) (same_new nb) nb fun r1 x1 n1 HA hr0 hr1 hx1 hn0 hn1 sA hA kA => ?_
    obtain ⟨st, hst, est⟩ := ix_str1 (S := S29) hr0 hr1
    refine ⟨_, r1, rfl, SqL.of (sA _ _ h6), _, est, ?_⟩
    refine draw1 hA (by decide) (by decide) hx1 hy hy2 hn0 (by omega) sA nb fun r2 x2 n2 HB hr20 hr21 hx2 hn20 hn21 sB hB kB => ?_
    refine ⟨by rw [sizeLine_eq]; omega, fun p1 np1 => ?_⟩
    have hbp1 : p1 ≠ b := fun e => by rw [e, hB] at np1; cases np1
    refine draw1 (Hk := upd HB p1 _) (by rw [upd_ne hbp1.symm]; exact hB) (by decide) (by decide) hx2 hy hy2 hn20 (by omega) (sB.trans (same_new np1)) nb fun r3 x3 n3 HC hr30 hr31 hx3 hn30 hn31 sC hC kC => ?_
    obtain ⟨mv, hmv, emv⟩ := ix_any (L := [V.int 1, V.int r2, V.int 3000]) hr30 (by simpa using hr31)
    obtain ⟨mm, rfl, hm0, hm1⟩ : ∃ mm : Int, mv = .int mm ∧ 0 ≤ mm ∧ mm ≤ 3000 := by
      simp only [List.mem_cons, List.not_mem_nil, or_false] at hmv
      rcases hmv with rfl | rfl | rfl
      · exact ⟨_, rfl, by decide, by decide⟩
      · exact ⟨_, rfl, hr20, by omega⟩
      · exact ⟨_, rfl, by decide, by decide⟩
    refine ⟨_, r3, rfl, SqL.of (by rw [kC _ hbp1]; exact upd_same), _, emv, ?_⟩
    refine ⟨by rw [sizeLine_eq]; omega, fun p2 np2 => ?_⟩
    have hbp2 : p2 ≠ b := fun e => by rw [e, hC] at np2; cases np2
    refine draw1 (Hk := upd HC p2 _) (by rw [upd_ne hbp2.symm]; exact hC) (by decide) (by decide) hx3 hy hy2 hn30 (by omega) (sC.trans (same_new np2)) nb fun r4 x4 n4 HD hr40 hr41 hx4 hn40 hn41 sD hD kD => ?_
    obtain ⟨be, hbe, ebe⟩ := ix_str1 (S := B5) hr40 hr41
    refine ⟨_, r4, rfl, SqL.of (by rw [kD _ hbp2]; exact upd_same), _, ebe, ?_⟩
    have hsl := S29_len st hst
    have hbl := B5_len be hbe
    have hml := mul_len mm.toNat st.cps.toList
    have hml2 : mm.toNat * st.cps.toList.length ≤ 3000 * 9 := Nat.mul_le_mul (by omega) (by have : st.cps.toList.length = st.length := tl_len st; omega)
    have hst2 : st.length * mm.toNat ≤ sizeLine := by
      rw [sizeLine_eq, Nat.mul_comm]
      have : st.cps.toList.length = st.length := tl_len st
      rw [← this]
      omega
    refine ⟨st, mm, rfl, rfl, hm0, by omega, hst2, be, rfl, _, rfl, by rw [hml, sizeLine_eq]; omega, ?_, by rw [sizeLine_eq]; omega, fun p3 np3 => ?_⟩
    · rw [← tl_len, tl_app, List.length_append, tl_len, tl_len, hml, sizeLine_eq]
      omega
    have hcl := cutS_le (be ++ ⟨((List.replicate mm.toNat st.cps.toList).flatten).toArray⟩) (some 2990)
    rw [← tl_len (be ++ _), tl_app, List.length_append, tl_len, tl_len, hml] at hcl
    generalize cutS (be ++ ⟨((List.replicate mm.toNat st.cps.toList).flatten).toArray⟩) none (some 2990) = tx at *
    have hbp3 : p3 ≠ b := fun e => by rw [e, hD] at np3; cases np3
    refine draw1 (Hk := upd HD p3 _) (by rw [upd_ne hbp3.symm]; exact hD) (by decide) (by decide) hx4 hy hy2 hn40 (by omega) (sD.trans (same_new np3)) nb fun r5 x5 n5 HE hr50 hr51 hx5 hn50 hn51 sE hE kE => ?_
    obtain ⟨en, hen, een⟩ := ix_str1 (S := ends5) hr50 hr51
    have hel : en.length ≤ 2 := (show ∀ s ∈ ends5, s.length ≤ 2 by decide +kernel) en hen
    refine ⟨_, r5, rfl, SqL.of (by rw [kE _ hbp3]; exact upd_same), _, een, en, rfl, by rw [sizeLine_eq]; omega, ?_⟩
    have htl : (tx ++ en).length ≤ 5000000 := by
      rw [← tl_len, tl_app, List.length_append, tl_len, tl_len]
      omega
    refine for_rng 3 (fun R h => h) (by decide) (fun d σ H'' => (∃ d8, σ = [some (V.ref a), some (V.ref p5), some (V.int i), some (V.ref b), some (V.str st), some (V.int mm), some (V.str be), some (V.str (tx ++ en)), d8, c9, c10, c11]) ∧ Same HE H'') ⟨⟨_, rfl⟩, Same.refl _⟩ ?_ ?_
    · rintro d σ H'' hd ⟨⟨d8, rfl⟩, sF⟩
      walk_at "rd"
      refine ⟨_, _, rfl, bad_text hen htl, fun H3 s3 => ⟨true, rfl, ?_⟩⟩
      rw [if_neg (by decide)]
      exact ⟨⟨_, rfl⟩, sF.trans s3⟩
    rintro σ HF ⟨⟨d8, rfl⟩, sF⟩
    walk_at "rd"
    refine ⟨Nat.zero_le _, fun pd npd => ?_⟩
    have hFb := sF _ _ hE
    refine for_rng 28 (fun R h => h) (by decide) (fun d σ H'' => P28 (fun u d => [some (V.ref a), some (V.ref p5), some (V.int i), some (V.ref b), some (V.str st), some (V.int mm), some (V.str be), some (V.str (tx ++ en)), d8, some u, d, c11]) HF σ H'') ⟨_, _, rfl, ⟨[], dif_eq.mpr ⟨npd, upd_same⟩⟩, same_new npd⟩ ?_ ?_
    · rintro d σ H'' hd ⟨v, d10, rfl, ⟨ys, hv⟩, sG⟩
      walk_at "rd"
      exact ⟨by rw [sizeLine_eq]; omega, fun pe npe => ⟨_, _, rfl, ⟨_, dif_eq.mpr ⟨sG.free npe, upd_same⟩⟩, sG.trans (same_new npe)⟩⟩
    rintro σ HJ ⟨v, d10, rfl, ⟨ys, hv⟩, sJ⟩
    walk_at "rd"
    refine ⟨Nat.zero_le _, fun q1 m1 => ⟨by rw [sizeLine_eq]; omega, fun q2 m2 => ⟨by rw [sizeLine_eq]; omega, fun q3 m3 => fun q4 m4 => ⟨by rw [sizeLine_eq]; omega, fun q5 m5 => ⟨by rw [sizeLine_eq]; omega, fun q6 m6 => ?_⟩⟩⟩⟩⟩
    have t1 := same_new (u := .lst []) m1
    have t2 := same_new (u := .lst [V.str "1"]) m2
    have t3 := same_new (u := .tup [V.str "is", V.str "1"]) m3
    have t4 := same_new (u := .dK []) m4
    have t5 := same_new (u := .tup [V.ref v]) m5
    have t6 := same_new (u := .lst [V.non, V.int 5, V.bl true, V.ref q1, V.ref q2, V.ref q3, V.ref q4, V.ref v, V.ref q5]) m6
    have f1 := sJ.free m1
    have f2 := (sJ.trans t1).free m2
    have f3 := (sJ.trans (t1.trans t2)).free m3
    have f4 := (sJ.trans (t1.trans (t2.trans t3))).free m4
    have f5 := (sJ.trans (t1.trans (t2.trans (t3.trans t4)))).free m5
    have k1 := (t2.trans (t3.trans (t4.trans (t5.trans t6)))) q1 _ upd_same
    have k2 := ((t3.trans (t4.trans (t5.trans t6)))) q2 _ upd_same
    have k3 := ((t4.trans (t5.trans t6))) q3 _ upd_same
    have k4 := ((t5.trans t6)) q4 _ upd_same
    have k5 := t6 q5 _ upd_same
    have kv := ((t1.trans (t2.trans (t3.trans (t4.trans (t5.trans t6)))))) v _ (dif_eq.mp hv).2
    have sK := (sJ.trans (t1.trans (t2.trans (t3.trans (t4.trans (t5.trans t6))))))
    generalize hHK : upd _ q6 (HO.lst _) = HK at *
    have k6 : HK q6 = some (.lst [V.non, V.int 5, V.bl true, V.ref q1, V.ref q2, V.ref q3, V.ref q4, V.ref v, V.ref q5]) := by rw [← hHK]; exact upd_same
    have hall : ∀ u ∈ [V.non, V.int 5, V.bl true, V.ref q1, V.ref q2, V.ref q3, V.ref q4, V.ref v, V.ref q5], notStr K (dif HF HK) u := by
      intro u hu
      simp only [List.mem_cons, List.not_mem_nil, or_false] at hu
      rcases hu with rfl | rfl | rfl | rfl | rfl | rfl | rfl | rfl | rfl
      · exact ⟨_, .non, kb12, by decide⟩
      · exact ⟨_, .int _, kb10, by decide⟩
      · exact ⟨_, .bl _, kb11, by decide⟩
      · exact ⟨_, .lst (SqL.of (dif_eq.mpr ⟨f1, k1⟩)), kb5, by decide⟩
      · exact ⟨_, .lst (SqL.of (dif_eq.mpr ⟨f2, k2⟩)), kb5, by decide⟩
      · exact ⟨_, .tup (SqT.of (dif_eq.mpr ⟨f3, k3⟩)), kb8, by decide⟩
      · exact ⟨_, .dK (dif_eq.mpr ⟨f4, k4⟩), kb13, by decide⟩
      · exact ⟨_, .lst (SqL.of (dif_eq.mpr ⟨(dif_eq.mp hv).1, kv⟩)), kb5, by decide⟩
      · exact ⟨_, .tup (SqT.of (dif_eq.mpr ⟨f5, k5⟩)), kb8, by decide⟩
    have hKb := sK _ _ hFb
    have hq6b : q6 ≠ b := fun e => by
      rw [e, hKb] at k6
      injection k6 with k6
      injection k6 with k6
      exact absurd k6 (by simp)
    have sHK : Same H' HK := (sE.trans sF).trans sK
    refine for_rng 3 (fun R h => h) (by decide) (fun d σ H'' => P3 K (fun d => [some (V.ref a), some (V.ref p5), some (V.int i), some (V.ref b), some (V.str st), some (V.int mm), some (V.str be), some (V.str (tx ++ en)), d, some (V.ref v), d10, some (V.ref q6)]) H' HK b y (n5 + d) σ H'') ⟨_, x5, n5, rfl, But.refl, sHK, hKb, hx5, hn50, by omega⟩ ?_ ?_
    · rintro d σ H'' hd ⟨d8', x6, n6, rfl, bK, s0, hb6, hx6, hn6, hn6'⟩
      walk_at "rd"
      refine draw1 hb6 (by decide) (by decide) hx6 hy hy2 hn6 (by omega) s0 nb fun r7 x7 n7 HL hr70 hr71 hx7 hn70 hn71 sL hLb kL => ?_
      obtain ⟨tv, htv, etv⟩ := ix_any (L := [V.non, V.int 5, V.bl true, V.ref q1, V.ref q2, V.ref q3, V.ref q4, V.ref v, V.ref q5]) hr70 hr71
      have bL : But b HK HL := fun c o e ne => by rw [kL c ne]; exact bK c o e ne
      refine ⟨_, r7, rfl, SqL.of (bL _ _ k6 hq6b), _, etv, ?_⟩
      have hns : notStr K HL tv := ((hall tv htv).same (dif_more hFb bL)).same dif_sub
      refine ⟨_, _, rfl, .inr hns, fun H3 s3 => ⟨true, rfl, ?_⟩⟩
      rw [if_neg (by decide)]
      exact ⟨_, x7, n7, rfl, bL.trans (But.of s3), sL.trans s3, s3 _ _ hLb, hx7, hn70, by omega⟩
    rintro σ HM ⟨d8', x6, n6, rfl, bK, s0, hb6, hx6, hn6, hn6'⟩
    exact ⟨⟨_, _, _, _, _, _, _, _, _, _, rfl⟩, s6.trans s0⟩
  · rintro σ H' ⟨⟨c2, c3, c4, c5, c6, c7, c8, c9, c10, c11, rfl⟩, s6⟩
    walk_at "rd"
    exact q H'
end
end Sk

/-! ## E57 -/
namespace Sk
open PySem PySem.Spec PyProof.Rows L2
/-- an exception of a call, whatever the world -/
def CXA (P : Program) : CXT := fun outer H s E u s' => ∃ w, L2N.CX P w outer H s E u s'
theorem fn_cxa {P : Program} {w : World} {K : PySem.W.Frag} {mg : Str → Option Value} {base : Heap} {k : Nat} {f : Addr} {fd : FuncData} {ps : List Str} {sp : Sp} (F : FnOk P w K mg base (L2N.CX P w) k f fd ps sp) : FnOk P w K mg base (CXA P) k f fd ps sp := by
  refine ⟨F.len, fun A outer s H args us vs Q E hr e0 hb r hsp => codeAny_mono (F.run A outer s H args us vs Q E hr e0 hb r hsp) fun r s' q => ?_⟩
  cases r with
  | error e => exact ⟨w, q⟩
  | ok fl => cases fl <;> exact q
end Sk
open PySem PySem.W PyProof.Rows
theorem PySem.Challenge.cw_stemkeep_k57_odd_texts_holds : PySem.Challenge.rw_stemkeep_k57_odd_texts.Holds := by
  refine head57 ?_
  refine L2.walk_ofE (l := PySem.Challenge.rw_stemkeep_k57_odd_texts) (n := 63) (k := 216) (x := "script") (CX := Sk.CXA PySem.Challenge.rw_stemkeep_k57_odd_texts.prog) rfl (by decide) (by kernel_rfl) ⟨by decide, by decide, by decide⟩ ?F ?X
  case F =>
    intro w mg fa h Y G hmg0
    obtain ⟨K, KX, T⟩ := Sk.hd57 Y G
    have hmg : mg ("law" : PySem.Str) = some (.ref fa) := by
      have e : (HandSHeadRun.topDef Sk.R.prog 99).name = ("law" : PySem.Str) := by kernel_rfl
      rw [← e]
      exact hmg0
    obtain ⟨fd, F⟩ := T.fn_law
    have e := hmg.symm.trans T.g_law
    injection e with e
    injection e with e
    subst e
    have b : ∀ (s : Shared) (v : Value), BindsTo s fd ⟨[v], []⟩ [("script", v)] := by
      obtain ⟨_, _, _, _, _, _, _, _, _, rfl, _, _⟩ := F.ex
      exact fun s v => .of_eq rfl
    exact ⟨K, fd, Sk.spLaw _, KX, b, fun H a ns hl _ hS => ⟨a, ns, rfl, hS, fun _ => rfl⟩, fun base _ _ => Sk.fn_cxa (Sk.fn_law T F (Sk.ok__law_cell_at T) (Sk.ok__law_bag T) (Sk.ok__law_draw T) (Sk.ok_refused T))⟩
  case X =>
    rintro H s e s' ⟨w, a, B, H', cls, d, _, _, _, _, _, _, _, q⟩
    exact q
