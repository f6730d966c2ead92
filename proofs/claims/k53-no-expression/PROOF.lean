import PyProof.Rows.All
import Wide.All
import OpenK.AllK
import Wide.FinOn
import KE.KStateDown
import Lean
import HandS.ForMost
import HandS.ForExc
import HandS.StrMore
import HandS.Replace
import HandS.FStr
import HandS.IsInst
import HandS.ExcIs
import HandS.TryMany
import HandS.ExcCtx
import HandS.Hot
import HandS.HotCalls
import HandS.Wide
import HandS.TupAny
import HandS.Codes
import HandS.Flow
import HandS.Defaults
import HandS.HeadEnd
import HandS.HeadHook1
import HandS.HeadHook2
import HandS.HeadHook3
import HandS.HeadNt
import HandS.ReplaceLit
import HandS.ReplaceList
import HandS.Base
import HandS.Call
import HandS.Exc
import HandS.Head0
import HandS.Head1
import HandS.Head2
import KE.KUnpackStar
import KE.GoesEnum
import HandS.Zip
import HandS.NoneIn
import HandS.Strs
import HandS.Set
import HandS.SetTxt0
import HandS.TupSets
import HandS.Comp
import HandS.Style
import HandS.Steps
import PySem.Challenge.RW_stemkeep_k53_texts_of_no_expression
set_option Elab.async false
set_option linter.all false
set_option maxRecDepth 100000
set_option maxHeartbeats 0
/-! ## SkA -/
namespace Sk
open PySem PySem.Spec PyProof.Rows L2
abbrev SS := L2.St

/-! ### defs and methods that may be called -/
abbrev XC (P : Program) (w : World) : CXT := L2N.CX P w
section
variable (P : Program) (w : World) (K : PySem.W.Frag) (mg : Str → Option Value) (base : Heap)
structure Dn (k : Nat) (x : Str) (sp : Sp) : Prop where
  ex : ∃ (f : Addr) (fd : FuncData) (ps : List Str), FnOk P w K mg base (L2N.CX P w) k f fd ps sp ∧ mg x = some (.ref f) ∧ PySem.W.keepIn K (.ref f) = true ∧ Binds K fd ps []
structure Mt (k : Nat) (C : Addr) (m : Str) (sp : Sp) : Prop where
  ex : ∃ (f : Addr) (fd : FuncData) (ps : List Str), Cls K C ∧ Meth K C m f ∧ FnOk P w K mg base (L2N.CX P w) k f fd ps sp ∧ Binds K fd ps []
structure Mn (k : Nat) (x : Str) (C : Addr) (sp : Sp) : Prop where
  ex : ∃ (f : Addr) (fd : FuncData) (ps : List Str), Mk K C f ∧ FnOk P w K mg base (L2N.CX P w) k f fd ps sp ∧ mg x = some (.ref C) ∧ Binds K fd ps []
end
section
variable {P : Program} {w : World} {K : PySem.W.Frag} {mg : Str → Option Value} {base : Heap}
theorem Dn.mono {j k : Nat} {x : Str} {sp : Sp} (D : Dn P w K mg base j x sp) (h : j ≤ k) : Dn P w K mg base k x sp := by
  obtain ⟨f, fd, ps, F, a, b, c⟩ := D.ex
  exact ⟨f, fd, ps, F.mono h, a, b, c⟩
theorem Dn.imp {k : Nat} {x : Str} {sp sp' : Sp} (D : Dn P w K mg base k x sp) (h : ∀ vs H Q E, sp' vs H Q E → sp vs H Q E) : Dn P w K mg base k x sp' := by
  obtain ⟨f, fd, ps, F, a, b, c⟩ := D.ex
  exact ⟨f, fd, ps, F.imp h, a, b, c⟩
theorem Mt.mono {j k : Nat} {C : Addr} {x : Str} {sp : Sp} (D : Mt P w K mg base j C x sp) (h : j ≤ k) : Mt P w K mg base k C x sp := by
  obtain ⟨f, fd, ps, c, m, F, b⟩ := D.ex
  exact ⟨f, fd, ps, c, m, F.mono h, b⟩
/-- the body's proof is the def's -/
theorem okN {x qual : Str} {st : Stmt} {f : Addr} {fd : FuncData} {N ps : List Str} {k : Nat} {sp : Sp} (F : Fun K x qual st f fd) (S : FnScope N ps (defScope st)) (len : ∀ vs H Q E, sp vs H Q E → vs.length = ps.length)
    (body : ∀ (cdv : Value) (A : Around) (outer : List Env) (s : Shared) (H : Hp) (vs : List V) (Q : VK) (E : XK), Room k (A.deeper (envOfC qual (defScope st) s.heap.objs.size f cdv)) → L2N.Takes (cxOf (L2N.CX P w) P w K mg base N qual (defScope st) f cdv A outer s H E) (fun cls d _ H => E cls d H) → sp vs H Q E →
      ∃ t, PSs (cxOf (L2N.CX P w) P w K mg base N qual (defScope st) f cdv A outer s H E) (defBody st) t ∧ t { nx := fun _ H' => Q .non H', rt := Q } (start N vs) H) : FnOk P w K mg base (L2N.CX P w) (k + 1) f fd ps sp := by
  obtain ⟨_, _, _, _, _, _, cdv, _, _, rfl, hl, hc⟩ := F.ex
  exact fn_of hl hc S len fun A outer s H vs Q E hr h => body cdv A outer s H vs Q E hr (L2N.takes_of rfl rfl rfl rfl) h
/-- a def by its body -/
theorem dn_mk {x : Str} {st : Stmt} {f : Addr} {fd : FuncData} {N ps : List Str} {k : Nat} {sp : Sp} (F : Fun K x x st f fd) (hm : mg x = some (.ref f)) (b : Binds K fd ps []) (S : FnScope N ps (defScope st)) (len : ∀ vs H Q E, sp vs H Q E → vs.length = ps.length)
    (hbody : ∀ (cdv : Value) (A : Around) (outer : List Env) (s : Shared) (H : Hp) (vs : List V) (Q : VK) (E : XK), Room k (A.deeper (envOfC x (defScope st) s.heap.objs.size f cdv)) → L2N.Takes (cxOf (L2N.CX P w) P w K mg base N x (defScope st) f cdv A outer s H E) (fun cls d _ H => E cls d H) → sp vs H Q E →
      ∃ t, PSs (cxOf (L2N.CX P w) P w K mg base N x (defScope st) f cdv A outer s H E) (defBody st) t ∧ t { nx := fun _ H' => Q .non H', rt := Q } (start N vs) H) : Dn P w K mg base (k + 1) x sp :=
  ⟨f, fd, ps, okN F S len hbody, hm, F.kp, b⟩
theorem mt_mk {m qual : Str} {C : Addr} {st : Stmt} {f : Addr} {fd : FuncData} {N ps : List Str} {k : Nat} {sp : Sp} (c : Cls K C) (me : Meth K C m f) (F : Fun K m qual st f fd) (b : Binds K fd ps []) (S : FnScope N ps (defScope st)) (len : ∀ vs H Q E, sp vs H Q E → vs.length = ps.length)
    (hbody : ∀ (cdv : Value) (A : Around) (outer : List Env) (s : Shared) (H : Hp) (vs : List V) (Q : VK) (E : XK), Room k (A.deeper (envOfC qual (defScope st) s.heap.objs.size f cdv)) → L2N.Takes (cxOf (L2N.CX P w) P w K mg base N qual (defScope st) f cdv A outer s H E) (fun cls d _ H => E cls d H) → sp vs H Q E →
      ∃ t, PSs (cxOf (L2N.CX P w) P w K mg base N qual (defScope st) f cdv A outer s H E) (defBody st) t ∧ t { nx := fun _ H' => Q .non H', rt := Q } (start N vs) H) : Mt P w K mg base (k + 1) C m sp :=
  ⟨f, fd, ps, c, me, okN F S len hbody, b⟩
theorem mn_mk {x qual : Str} {C : Addr} {st : Stmt} {f : Addr} {fd : FuncData} {N ps : List Str} {k : Nat} {sp : Sp} (M : Mk K C f) (hm : mg x = some (.ref C)) (F : Fun K "__init__" qual st f fd) (b : Binds K fd ps []) (S : FnScope N ps (defScope st)) (len : ∀ vs H Q E, sp vs H Q E → vs.length = ps.length)
    (hbody : ∀ (cdv : Value) (A : Around) (outer : List Env) (s : Shared) (H : Hp) (vs : List V) (Q : VK) (E : XK), Room k (A.deeper (envOfC qual (defScope st) s.heap.objs.size f cdv)) → L2N.Takes (cxOf (L2N.CX P w) P w K mg base N qual (defScope st) f cdv A outer s H E) (fun cls d _ H => E cls d H) → sp vs H Q E →
      ∃ t, PSs (cxOf (L2N.CX P w) P w K mg base N qual (defScope st) f cdv A outer s H E) (defBody st) t ∧ t { nx := fun _ H' => Q .non H', rt := Q } (start N vs) H) : Mn P w K mg base (k + 1) x C sp :=
  ⟨f, fd, ps, M, okN F S len hbody, hm, b⟩
end
section
variable {X : Cx} {k j : Nat} {C : Addr} {x m : Str} {sp : Sp} {E : SS → XK} {p pos apos : Pos} {e o : Expr} {es : List Expr} {ta : TE} {t : TA}
/-- f(..) -/
theorem pe_d (c : Dn X.prog X.w X.K X.mg X.base k x sp) (hr : Room j X.A) (hk : k ≤ j) (hx : ∀ σ, PassesAt (L2N.CX X.prog X.w) X σ (E σ)) (hg : Gl X x) (ha : PA X (e :: es) t)
    (hdb : (x == ("__debug__" : Str)) = false := by decide) (he : starEach (e :: es) X.env = (false, eval e X.env) :: starEach es X.env := by rfl) (hpl : (backTo pos (starEach es X.env)).any (·.1) = false := by rfl) :
    PE X (.Call (.Name x p) (e :: es) [] pos) (tCallS sp E t) := by
  obtain ⟨f, fd, ps, F, hm, kp, b⟩ := c.ex
  exact pe_callS F (hr.mono hk) hg hm kp b hx ha hdb he hpl
/-- o.m(..) -/
def tMethS (C : Addr) (m : Str) (sp : Sp) (E : SS → XK) (ta : TE) (t : TA) : TE := fun σ H Q => ta σ H fun x H1 => ∃ a dx fs, x = .ref a ∧ H1 a = some (.ins C dx fs) ∧ fs.lookup m = none ∧ t σ H1 fun vs H2 => sp (x :: vs) H2 Q (E σ)
theorem pe_m {pl : Sem Bool} (he : PE X o ta) (c : Mt X.prog X.w X.K X.mg X.base k C m sp) (hr : Room j X.A) (hk : k ≤ j) (hx : ∀ σ, PassesAt (L2N.CX X.prog X.w) X σ (E σ)) (ha : PA X (e :: es) t)
    (hst : starEach (e :: es) X.env = (false, eval e X.env) :: starEach es X.env := by rfl) (hpl : (backTo pos (starEach es X.env)).any (·.1) = false := by rfl)
    (ht : eval (.Call (.Attribute o m apos) (e :: es) [] pos) X.env = (do
      let ov ← eval o X.env
      standAt apos.atName
      let (f, first) ← holding [ov] (getMethod ov m pl)
      callWith pos f first (backTo pos (starEach (e :: es) X.env)) (backToKw pos (keywordEach [] X.env))) := by rfl) :
    PE X (.Call (.Attribute o m apos) (e :: es) [] pos) (tMethS C m sp E ta t) := by
  obtain ⟨f, fd, ps, hc, hm, F, b⟩ := c.ex
  refine ⟨fun pins s σ H Q I h => ?_⟩
  refine PySem.W.methodCall_KW (pl := pl) (thn (he.run pins s σ H _ I h) fun u s1 ⟨x, H1, I1, rx, a, dx, fs, ex, ea, l, q⟩ => ?_) ht
  subst ex
  obtain rfl : u = Value.ref a := rx
  refine getmeth_ok I1 ea hc hm l ?_
  refine PySem.W.callWith_K (first := [.ref a]) (h₀ := X.base) I.ok.mod.kin hm.kp (thn (ha.run pos pins s1 σ H1 _ I1 q) fun us s2 ⟨vs, H2, I2, r, q2⟩ => ⟨I2.kIn, ?_⟩) hst hpl
  exact run_fnS (us := .ref a :: us) (vs := .ref a :: vs) F (hr.mono hk) b (hx σ) I2 (.cons rfl r) q2
theorem pe_m0 {pl : Sem Bool} (he : PE X o ta) (c : Mt X.prog X.w X.K X.mg X.base k C m sp) (hr : Room j X.A) (hk : k ≤ j) (hx : ∀ σ, PassesAt (L2N.CX X.prog X.w) X σ (E σ))
    (ht : eval (.Call (.Attribute o m apos) [] [] pos) X.env = (do
      let ov ← eval o X.env
      standAt apos.atName
      let (f, first) ← holding [ov] (getMethod ov m pl)
      callWith pos f first (backTo pos (starEach [] X.env)) (backToKw pos (keywordEach [] X.env))) := by rfl) :
    PE X (.Call (.Attribute o m apos) [] [] pos) (tMethS C m sp E ta tNil) := by
  obtain ⟨f, fd, ps, hc, hm, F, b⟩ := c.ex
  refine ⟨fun pins s σ H Q I h => ?_⟩
  refine PySem.W.methodCall_KW (pl := pl) (thn (he.run pins s σ H _ I h) fun u s1 ⟨x, H1, I1, rx, a, dx, fs, ex, ea, l, q⟩ => ?_) ht
  subst ex
  obtain rfl : u = Value.ref a := rx
  refine getmeth_ok I1 ea hc hm l ?_
  exact PySem.W.callWith_K0 (first := [.ref a]) I1.kIn hm.kp (run_fnS (us := [.ref a]) (vs := [.ref a]) F (hr.mono hk) b (hx σ) I1 (.cons rfl .nil) q)
/-- C(..) -/
def tMakeS (C : Addr) (sp : Sp) (E : SS → XK) (t : TA) : TE := fun σ H Q => t σ H fun vs H1 => ∀ x dx, H1 x = none → H1 dx = none → dx ≠ x →
  sp (.ref x :: vs) (upd (upd H1 dx (.own x)) x (.ins C dx [])) (fun v H2 => v = .non ∧ Q (.ref x) H2) (E σ)
theorem run_makeS {pins : List (Addr × Obj)} {σ : SS} {H : Hp} {s : Shared} {Q : VK} {us : List Value} {vs : List V} {ps : List Str} {fd : FuncData} {f : Addr} {E : XK} (M : Mk X.K C f) (F : FnOk X.prog X.w X.K X.mg X.base (L2N.CX X.prog X.w) k f fd ps sp) (hr : Room (k + 1) X.A) (hb : Binds X.K fd ps [])
    (hx : PassesAt (L2N.CX X.prog X.w) X σ E) (I : Inv X pins σ H s) (r : Vals vs us)
    (h : ∀ x dx, H x = none → H dx = none → dx ≠ x → sp (.ref x :: vs) (upd (upd H dx (.own x)) x (.ins C dx [])) (fun v H2 => v = .non ∧ Q (.ref x) H2) E) :
    wpAny (model X.prog X.w) X.A (call (.ref C) us) (EP X pins σ Q) X.xe s := by
  have hq := h (s.heap.objs.size + 1) s.heap.objs.size (I.hok.fresh (Nat.le_succ _)) (I.hok.fresh (Nat.le_refl _)) (Nat.ne_of_lt (Nat.lt_succ_self _))
  have I2 := Inv.made (C := C) I
  have r2 : Vals (V.ref (s.heap.objs.size + 1) :: vs) (Value.ref (s.heap.objs.size + 1) :: us) := .cons rfl r
  have hl : (Value.ref (s.heap.objs.size + 1) :: us).length = ps.length := by
    have e := r2.length
    rw [F.len _ _ _ _ hq] at e
    exact e.symm
  have b := hb _ (Value.ref (s.heap.objs.size + 1) :: us) I2.kIn (by rw [List.append_nil]; exact hl)
  rw [List.append_nil] at b
  refine wpAny_call (make_map (f := f) I.kIn M.makes M.init (beq_iff_eq.mp M.fn) (codeAny_mono (F.run _ X.stack _ _ ⟨Value.ref (s.heap.objs.size + 1) :: us, []⟩ (Value.ref (s.heap.objs.size + 1) :: us) _ _ E (hr.make C us [])
    (I2.env0.make C us []) b r2 hq) fun r s' hq' => ?_))
  cases r with
  | error e => exact hx pins _ _ e s' I2 hq'
  | ok fl =>
    cases fl with
    | ret u =>
      obtain ⟨v, H', I3, rv, ev, q3⟩ := I2.after hq'
      subst ev
      exact ⟨rv, ⟨V.ref (s.heap.objs.size + 1), H', I3, rfl, q3⟩⟩
    | next => exact False.elim hq'
    | brk => exact False.elim hq'
    | cont => exact False.elim hq'
theorem pe_k (c : Mn X.prog X.w X.K X.mg X.base k x C sp) (hr : Room j X.A) (hk : k + 1 ≤ j) (hx : ∀ σ, PassesAt (L2N.CX X.prog X.w) X σ (E σ)) (hg : Gl X x) (ha : PA X (e :: es) t)
    (hdb : (x == ("__debug__" : Str)) = false := by decide) (he : starEach (e :: es) X.env = (false, eval e X.env) :: starEach es X.env := by rfl) (hpl : (backTo pos (starEach es X.env)).any (·.1) = false := by rfl) :
    PE X (.Call (.Name x p) (e :: es) [] pos) (tMakeS C sp E t) := by
  obtain ⟨f, fd, ps, M, F, hm, b⟩ := c.ex
  refine ⟨fun pins s σ H Q I h => ?_⟩
  refine wpAny_Call_Name_kw (ld_glob I hg hm ?_ hdb)
  refine PySem.W.callWith_K (h₀ := X.base) I.ok.mod.kin M.kp (thn (ha.run pos pins s σ H _ I h) fun us s1 ⟨vs, H1, I1, r, q⟩ => ⟨I1.kIn, ?_⟩) he hpl
  exact run_makeS M F (hr.mono hk) b (hx σ) I1 r q
theorem pe_k0 (c : Mn X.prog X.w X.K X.mg X.base k x C sp) (hr : Room j X.A) (hk : k + 1 ≤ j) (hx : ∀ σ, PassesAt (L2N.CX X.prog X.w) X σ (E σ)) (hg : Gl X x)
    (hdb : (x == ("__debug__" : Str)) = false := by decide) : PE X (.Call (.Name x p) [] [] pos) (tMakeS C sp E tNil) := by
  obtain ⟨f, fd, ps, M, F, hm, b⟩ := c.ex
  refine ⟨fun pins s σ H Q I h => ?_⟩
  refine wpAny_Call_Name_kw (ld_glob I hg hm ?_ hdb)
  exact PySem.W.callWith_K0 I.kIn M.kp (run_makeS (us := []) M F (hr.mono hk) b (hx σ) I .nil h)
end
/-- nothing is let out where nothing is wished -/
theorem passN {X : Cx} (σ : SS) : PassesAt (L2N.CX X.prog X.w) X σ E0 := fun _ _ _ _ _ _ c => by
  obtain ⟨a, B, H', cls, d, _, _, _, _, _, _, _, w⟩ := c
  exact w.elim

/-! ### joined operators -/
theorem OpR.or {X : Cx} {f : Value → Value → Sem Value} {r r' : R2} (h : OpR X f r) (h' : OpR X f r') : OpR X f (fun x y H Q => r x y H Q ∨ r' x y H Q) :=
  fun pins s σ H x y v u Q I rx ry hq => hq.elim (h pins s σ H x y v u Q I rx ry) (h' pins s σ H x y v u Q I rx ry)
end Sk

/-! ## SkB -/
namespace Sk
open PySem PySem.Spec PyProof.Rows L2

/-! ### operators joined -/
def rPlusI : R2 := rI0 fun i j => .int (i + j)
def rPlusS : R2 := fun x y H Q => ∃ i j, x = .str i ∧ y = .str j ∧ i.length + j.length ≤ sizeLine ∧ Q (.str (i ++ j)) H
def rPlus (K : PySem.W.Frag) : R2 := fun x y H Q => rPlusI x y H Q ∨ (rPlusS x y H Q ∨ (rCat x y H Q ∨ rCatA K x y H Q))
theorem op_plus {X : Cx} : OpR X (binaryOp .Add) (rPlus X.K) := OpR.or op_add (OpR.or op_add_str (OpR.or op_cat op_catA))
def iPlusS : TIp := fun x y H Q => ∃ i j, x = .str i ∧ y = .str j ∧ i.length + j.length ≤ sizeLine ∧ Q (.str (i ++ j)) H
def iPlusI : TIp := ipI fun i j => i + j
theorem ip_plusS1 {X : Cx} : PIp X .Add iPlusS := fun pins s σ H x y v u Q I rx ry h => by
  obtain ⟨i, j, rfl, rfl, hz, q⟩ := h
  obtain ⟨t, rfl⟩ := rx
  obtain ⟨t', rfl⟩ := ry
  exact iadd_str (fun t' tk => ⟨.str (i ++ j), H, I.tok _, ⟨_, rfl⟩, q⟩) hz
def iPlus : TIp := fun x y H Q => iPlusI x y H Q ∨ iPlusS x y H Q
theorem ip_plus {X : Cx} : PIp X .Add iPlus := fun pins s σ H x y v u Q I rx ry h => h.elim (ip_add pins s σ H x y v u Q I rx ry) fun h => by
  obtain ⟨i, j, rfl, rfl, hz, q⟩ := h
  obtain ⟨t, rfl⟩ := rx
  obtain ⟨t', rfl⟩ := ry
  exact iadd_str (fun t' tk => ⟨.str (i ++ j), H, I.tok _, ⟨_, rfl⟩, q⟩) hz
/-- a power of a great number -/
def CPowW (i j : Int) : Prop := 0 ≤ j ∧ j ≤ 100 ∧ i.natAbs < 2 ^ 1300000
def rPowW : R2 := rI CPowW fun i j => .int (i ^ j.toNat)
theorem op_powW {X : Cx} : OpR X (binaryOp .Pow) rPowW := by
  intro pins s σ H x y v u Q I rx ry h
  obtain ⟨i, j, rfl, rfl, ⟨h1, h2, h3⟩, q⟩ := h
  obtain ⟨t, rfl⟩ := rx
  obtain ⟨t', rfl⟩ := ry
  have hb : Builtin.Int.intBits i ≤ 1300000 := intBits_le h3
  have hj : j ≤ 100 := h2
  refine pow_int h1 ?_ ⟨.int _, H, I.tok _, ⟨_, rfl⟩, q⟩
  have h4 : (Builtin.Int.intBits i : Int) * j ≤ 1300000 * j := Int.mul_le_mul_of_nonneg_right (by omega) h1
  omega
/-- text * int -/
def rMulS : R2 := fun x y H Q => ∃ z k, x = .str z ∧ y = .int k ∧ 0 ≤ k ∧ k ≤ 100000 ∧ z.length * k.toNat ≤ sizeLine ∧ Q (.str ⟨((List.replicate k.toNat z.cps.toList).flatten).toArray⟩) H
theorem foldl_rep (l : Array Nat) : ∀ (n : Nat) (acc : Array Nat), ((List.replicate n l).foldl (· ++ ·) acc).toList = acc.toList ++ (List.replicate n l.toList).flatten
  | 0, acc => by simp
  | n + 1, acc => by
    rw [List.replicate_succ, List.foldl_cons, foldl_rep l n, List.replicate_succ, List.flatten_cons, Array.toList_append, List.append_assoc]
theorem op_mulS {X : Cx} : OpR X (binaryOp .Mult) rMulS := by
  intro pins s σ H x y v u Q I rx ry h
  obtain ⟨z, k, rfl, rfl, h0, h1, hz, q⟩ := h
  obtain ⟨t, rfl⟩ := rx
  obtain ⟨t', rfl⟩ := ry
  have hl : sizeLine = 16777216 := sizeLine_eq
  refine PySem.P.mul_str (by rw [decide_eq_false (by omega : ¬ k < -(2 ^ 63 : Int)), decide_eq_false (by omega : ¬ k ≥ 2 ^ 63)]; rfl) (fun a b => ?_) (fun a b => ?_) ?_
  · intro c
    have kp : 0 < k := by omega
    have e : (z.length : Int) * k ≤ 16777216 := by
      have := hz
      have e2 : ((z.length * k.toNat : Nat) : Int) = (z.length : Int) * k := by rw [Int.natCast_mul]; congr 1; omega
      omega
    have e3 : (z.length : Int) ≤ (2 ^ 63 - 1) / k := (Int.le_ediv_iff_mul_le kp).mpr (by omega)
    omega
  · unfold Builtin.Str.tooLong
    exact decide_eq_false (by omega)
  · by_cases c : k < 1
    · rw [if_pos c]
      have e : k = 0 := by omega
      subst e
      exact ⟨by decide, .str _, H, I.tok _, ⟨s.toks, rfl⟩, q⟩
    · rw [if_neg c]
      by_cases c2 : (k == 1 || z.length == 0) = true
      · rw [if_pos c2]
        refine ⟨.str _, H, I, ⟨t, ?_⟩, q⟩
        congr 1
        apply TL.ext_tl
        show z.cps.toList = _
        simp only [Bool.or_eq_true, beq_iff_eq] at c2
        rcases c2 with c2 | c2
        · subst c2
          simp [TL.tl]
        · have e : z.cps.toList = [] := by
            have : z.cps.size = 0 := c2
            exact List.eq_nil_of_length_eq_zero (by simpa using this)
          rw [e]
          simp [TL.tl]
      · rw [if_neg c2]
        have e : (⟨(List.replicate k.toNat z.cps).foldl (· ++ ·) #[]⟩ : Str) = ⟨((List.replicate k.toNat z.cps.toList).flatten).toArray⟩ := by
          apply TL.ext_tl
          show ((List.replicate k.toNat z.cps).foldl (· ++ ·) #[]).toList = _
          rw [foldl_rep]
          simp [TL.tl]
        rw [e]
        refine ⟨?_, .str _, H, I.tok _, ⟨_, rfl⟩, q⟩
        show _ ≤ _
        simp [Str.length]
        rw [Nat.mul_comm]
        simpa [Str.length] using hz
def rMul : R2 := fun x y H Q => rI CMulW (fun i j => .int (i * j)) x y H Q ∨ (rMulS x y H Q ∨ rRep x y H Q)
theorem op_mul3 {X : Cx} : OpR X (binaryOp .Mult) rMul := OpR.or op_mulW (OpR.or op_mulS op_rep)

/-! ### slices, walks -/
def rSl (K : PySem.W.Frag) : V → Option Int → Option Int → Hp → VK → Prop := fun x lo hi H Q => rSlS x lo hi H Q ∨ (rSlL K x lo hi H Q ∨ rSlA K x lo hi H Q)
theorem sl_any {X : Cx} : SlR X (rSl X.K) := sl_str.or (sl_list.or sl_tupA)
theorem PI.or {X : Cx} {tg iter : Expr} {w w' : TI} (h : PI X tg iter w) (h' : PI X tg iter w') : PI X tg iter (fun σ H R => w σ H R ∨ w' σ H R) :=
  ⟨fun pins s σ H R I q => q.elim (h.run pins s σ H R I) (h'.run pins s σ H R I)⟩
def iSeq (K : PySem.W.Frag) (te : TE) : TI := fun σ H R => iList K te σ H R ∨ (iTup K te σ H R ∨ iStr te σ H R)
theorem pi_seq {X : Cx} {tg e : Expr} {te : TE} (he : PE X e te) : PI X tg e (iSeq X.K te) := PI.or (pi_list he) (PI.or (pi_tup he) (pi_str he))

/-! ### '..' op e, where e wants a token -/
theorem pe_strT {X : Cx} {op : Operator} {r : R2} {x : Str} {j : Nat} {p pos : Pos} {f : Expr} {tf : TE} (ho : OpR X (binaryOp op) r) (hb : PET X f tf) : PE X (.BinOp (.Constant (.str x) j p) op f pos) (tOp r (tC (.str x)) tf) := by
  refine ⟨fun pins s σ H Q I h => ?_⟩
  refine wpAny_BinOp (Calls.Constant_str ?_)
  exact thn (hb pins _ σ H _ (by show 1 ≤ s.toks + 1; omega) (I.tok _) h) fun u s2 ⟨y, H2, I2, r2, q2⟩ => ho pins s2 σ H2 (.str x) y _ u Q I2 ⟨_, rfl⟩ r2 q2

/-! ### isinstance by a built-in class -/
def tyN : V → Option String
  | .non => some "NoneType" | .bl _ => some "bool" | .int _ => some "int" | .str _ => some "str"
  | _ => none
def rIsS (K : PySem.W.Frag) : List V → Hp → VK → Prop := fun xs H Q => ∃ x n, xs = [x, .ty n] ∧ ((∃ t b, tyN x = some t ∧ kitB t n = some b ∧ Q (.bl b) H) ∨ (∃ a t b, x = .ref a ∧ TyX K H (.ref a) (.type t) ∧ kitB t n = some b ∧ Q (.bl b) H))
theorem call_isS {X : Cx} : CallR X (.builtin "isinstance") (rIsS X.K) := by
  intro pins s σ H xs us Q I r h
  refine call_isi pins s σ H xs us Q I r ?_
  obtain ⟨x, n, rfl, h⟩ := h
  rcases h with ⟨t, b, ht, hb, q⟩ | ⟨a, t, b, rfl, ht, hb, q⟩
  · refine ⟨x, .ty n, .type t, .type n, b, rfl, .ty n, ?_, kit_ty hb, q⟩
    cases x with
    | non => cases ht; exact .base .non
    | bl y => cases ht; exact .base (.bl y)
    | int y => cases ht; exact .base (.int y)
    | str y => cases ht; exact .base (.str y)
    | _ => cases ht
  · exact ⟨.ref a, .ty n, .type t, .type n, b, rfl, .ty n, ht, kit_ty hb, q⟩
theorem kb1 : kitB "str" "str" = some true := by decide +kernel
theorem kb2 : kitB "str" "list" = some false := by decide +kernel
theorem kb3 : kitB "str" "tuple" = some false := by decide +kernel
theorem kb4 : kitB "list" "list" = some true := by decide +kernel
theorem kb5 : kitB "list" "str" = some false := by decide +kernel
theorem kb6 : kitB "list" "tuple" = some false := by decide +kernel
theorem kb7 : kitB "tuple" "tuple" = some true := by decide +kernel
theorem kb8 : kitB "tuple" "str" = some false := by decide +kernel
theorem kb9 : kitB "tuple" "list" = some false := by decide +kernel
theorem kb10 : kitB "int" "str" = some false := by decide +kernel
theorem kb11 : kitB "bool" "str" = some false := by decide +kernel
theorem kb12 : kitB "NoneType" "str" = some false := by decide +kernel
theorem kb13 : kitB "dict" "str" = some false := by decide +kernel
theorem kb14 : kitB "int" "list" = some false := by decide +kernel
theorem kb15 : kitB "int" "tuple" = some false := by decide +kernel
theorem kb16 : kitB "NoneType" "list" = some false := by decide +kernel
theorem kb17 : kitB "NoneType" "tuple" = some false := by decide +kernel
theorem kb18 : kitB "dict" "list" = some false := by decide +kernel
theorem kb19 : kitB "dict" "tuple" = some false := by decide +kernel
theorem kb20 : kitB "bool" "list" = some false := by decide +kernel
theorem kb21 : kitB "bool" "tuple" = some false := by decide +kernel
theorem kb22 : kitB "bool" "bool" = some true := by decide +kernel
theorem kb23 : kitB "int" "bool" = some false := by decide +kernel
theorem kb24 : kitB "int" "int" = some true := by decide +kernel
theorem kb25 : kitB "bool" "int" = some true := by decide +kernel
theorem kb26 : kitB "str" "bool" = some false := by decide +kernel
theorem kb27 : kitB "str" "int" = some false := by decide +kernel
/-- all(..), any(..) over a list that stands there -/
theorem bl_map {α : Type} (f : α → Bool) (l : List α) : (l.map fun c => V.bl (f c)) = (l.map f).map V.bl := by rw [List.map_map]; rfl

/-! ### a comprehension whose element is reckoned without a change -/
/-- over the signs of a text -/
theorem lc_str {x : Str} {g : TG} {te : TE} {vs : List Nat} {σ : SS} {H1 : Hp} {D : Addr} {Qd : Hp → Prop} (f : Nat → V) (nD : H1 D = none) (hx : x.length ≤ sizeLine)
    (hs : ∀ (i c : Nat) (H : Hp) (Q : VK), x.cps.toList[i]? = some c → Same H1 H → (∀ H', Same H H' → Q (f c) H') → g (.str ⟨#[c]⟩) (wipe σ vs) H fun σ2 H2 => wipe σ2 vs = wipe σ vs ∧ te σ2 H2 Q)
    (hd : ∀ H, Same H1 H → H D = some (.lst (x.cps.toList.map f)) → Qd H)
    (gm : ∀ (v : V) (σ : SS) (H : Hp) (Q Q' : SS → Hp → Prop), (∀ σ H, Q σ H → Q' σ H) → g v σ H Q → g v σ H Q') :
    ∃ W : Nat → Nat → Hp → Prop, (∃ m, W 0 m (upd H1 D (.lst []))) ∧ ∀ i m H, W i m H →
      ((Its x).stop i H ∧ Qd H) ∨ ((Its x).go i H ∧ ∃ Nx : Hp → Prop, (∀ H', Nx H' → ∃ m', m' < m ∧ W (i + 1) m' H') ∧ ∀ y H', (Its x).yld i H y H' → g y (wipe σ vs) H' fun σ2 H2 => wipe σ2 vs = wipe σ vs ∧ tYes σ2 H2 fun b H3 =>
        if b = true then te σ2 H3 fun y H4 => ∃ acc, H4 D = some (.lst acc) ∧ acc.length < sizeLine ∧ Nx (upd H4 D (.lst (acc ++ [y]))) else Nx H3) := by
  have hl : x.cps.size = x.cps.toList.length := by simp
  refine ⟨fun i m H => m = x.cps.size - i ∧ i ≤ x.cps.size ∧ Same H1 H ∧ H D = some (.lst ((x.cps.toList.take i).map f)), ⟨x.cps.size, by simp, Nat.zero_le _, fun b o e => ?_, ?_⟩, ?_⟩
  · rw [upd_ne (ne_of_none e nD)]
    exact e
  · rw [upd_same]
    rfl
  rintro i m H ⟨rfl, hi, s1, hD⟩
  by_cases hlt : i < x.cps.size
  · refine .inr ⟨hlt, fun H' => Same H1 H' ∧ H' D = some (.lst ((x.cps.toList.take (i + 1)).map f)), fun H' h => ⟨x.cps.size - (i + 1), by omega, rfl, hlt, h⟩, fun y H' hy => ?_⟩
    obtain ⟨rfl, c, hc, rfl⟩ := hy
    have hc' : x.cps.toList[i]? = some c := by simpa using hc
    refine gm _ _ _ _ _ ?_ (hs i c H' (fun y H4 => ∃ acc, H4 D = some (.lst acc) ∧ acc.length < sizeLine ∧ (fun H' => Same H1 H' ∧ H' D = some (.lst ((x.cps.toList.take (i + 1)).map f))) (upd H4 D (.lst (acc ++ [y])))) hc' s1 fun H4 s4 => ?_)
    · rintro σ2 H2 ⟨e1, q⟩
      exact ⟨e1, by simp only [tYes, ↓reduceIte]; exact q⟩
    · refine ⟨_, s4 _ _ hD, ?_, fun b o e => ?_, ?_⟩
      · rw [List.length_map, List.length_take]
        have h2 : x.cps.size ≤ sizeLine := hx
        omega
      · rw [upd_ne (ne_of_none e nD)]
        exact s4 _ _ (s1 _ _ e)
      · rw [upd_same, List.take_add_one, hc', List.map_append]
        rfl
  · have e : i = x.cps.size := by omega
    subst e
    refine .inl ⟨Nat.le_refl _, hd H s1 ?_⟩
    rw [hD, hl, List.take_length]
/-- over a list or tuple of values that stand there: xs; ys what comes of them -/
theorem lc_vals {J : It} {xs ys : List V} {g : TG} {te : TE} {vs : List Nat} {σ : SS} {H1 : Hp} {D : Addr} {Qd : Hp → Prop} (nD : H1 D = none) (hx : xs.length ≤ sizeLine) (hl : ys.length = xs.length)
    (hst : ∀ H, Same H1 H → J.stop xs.length H) (hgo : ∀ i H, i < xs.length → Same H1 H → J.go i H) (hy : ∀ i H y H', Same H1 H → J.yld i H y H' → H' = H ∧ xs[i]? = some y)
    (hs : ∀ (i : Nat) (c d : V) (H : Hp) (Q : VK), xs[i]? = some c → ys[i]? = some d → Same H1 H → (∀ H', Same H H' → Q d H') → g c (wipe σ vs) H fun σ2 H2 => wipe σ2 vs = wipe σ vs ∧ te σ2 H2 Q)
    (hd : ∀ H, Same H1 H → H D = some (.lst ys) → Qd H)
    (gm : ∀ (v : V) (σ : SS) (H : Hp) (Q Q' : SS → Hp → Prop), (∀ σ H, Q σ H → Q' σ H) → g v σ H Q → g v σ H Q') :
    ∃ W : Nat → Nat → Hp → Prop, (∃ m, W 0 m (upd H1 D (.lst []))) ∧ ∀ i m H, W i m H →
      (J.stop i H ∧ Qd H) ∨ (J.go i H ∧ ∃ Nx : Hp → Prop, (∀ H', Nx H' → ∃ m', m' < m ∧ W (i + 1) m' H') ∧ ∀ y H', J.yld i H y H' → g y (wipe σ vs) H' fun σ2 H2 => wipe σ2 vs = wipe σ vs ∧ tYes σ2 H2 fun b H3 =>
        if b = true then te σ2 H3 fun y H4 => ∃ acc, H4 D = some (.lst acc) ∧ acc.length < sizeLine ∧ Nx (upd H4 D (.lst (acc ++ [y]))) else Nx H3) := by
  refine ⟨fun i m H => m = xs.length - i ∧ i ≤ xs.length ∧ Same H1 H ∧ H D = some (.lst (ys.take i)), ⟨xs.length, by simp, Nat.zero_le _, fun b o e => ?_, ?_⟩, ?_⟩
  · rw [upd_ne (ne_of_none e nD)]
    exact e
  · rw [upd_same]
    rfl
  rintro i m H ⟨rfl, hi, s1, hD⟩
  by_cases hlt : i < xs.length
  · refine .inr ⟨hgo i H hlt s1, fun H' => Same H1 H' ∧ H' D = some (.lst (ys.take (i + 1))), fun H' h => ⟨xs.length - (i + 1), by omega, rfl, hlt, h⟩, fun y H' hyy => ?_⟩
    obtain ⟨rfl, hc'⟩ := hy i H y H' s1 hyy
    have hd' : ys[i]? = some ys[i] := List.getElem?_eq_getElem (by omega)
    refine gm _ _ _ _ _ ?_ (hs i y ys[i] H' (fun y H4 => ∃ acc, H4 D = some (.lst acc) ∧ acc.length < sizeLine ∧ (fun H' => Same H1 H' ∧ H' D = some (.lst (ys.take (i + 1)))) (upd H4 D (.lst (acc ++ [y])))) hc' hd' s1 fun H4 s4 => ?_)
    · rintro σ2 H2 ⟨e1, q⟩
      exact ⟨e1, by simp only [tYes, ↓reduceIte]; exact q⟩
    · refine ⟨_, s4 _ _ hD, ?_, fun b o e => ?_, ?_⟩
      · rw [List.length_take]
        omega
      · rw [upd_ne (ne_of_none e nD)]
        exact s4 _ _ (s1 _ _ e)
      · rw [upd_same, List.take_add_one, hd']
        rfl
  · have e : i = xs.length := by omega
    subst e
    refine .inl ⟨hst H s1, hd H s1 ?_⟩
    rw [hD, ← hl, List.take_length]
theorem gName_mono {i : Nat} (v : V) (σ : SS) (H : Hp) (Q Q' : SS → Hp → Prop) (h : ∀ σ H, Q σ H → Q' σ H) (q : gName i v σ H Q) : gName i v σ H Q' := h _ _ q

/-- [te for c in x], x a text -/
theorem tLc_str {K : PySem.W.Frag} {te0 te : TE} {i : Nat} {vs : List Nat} {σ : SS} {H : Hp} {Q : VK} (x : Str) (f : Nat → V) (h0 : ∀ R : VK, R (.str x) H → te0 σ H R) (hx : x.length ≤ sizeLine)
    (hs : ∀ (j c : Nat) (H' : Hp) (Q' : VK), x.cps.toList[j]? = some c → Same H H' → (∀ H'', Same H' H'' → Q' (f c) H'') → wipe ((wipe σ vs).set i (some (.str ⟨#[c]⟩))) vs = wipe σ vs ∧ te ((wipe σ vs).set i (some (.str ⟨#[c]⟩))) H' Q')
    (hd : ∀ D H', H D = none → Same H H' → H' D = some (.lst (x.cps.toList.map f)) → Q (.ref D) H') : tLc (iSeq K te0) (gName i) tYes te vs σ H Q := by
  refine .inr (.inr (h0 _ ⟨x, rfl, fun D nD => ?_⟩))
  exact lc_str f nD hx (fun j c H' Q' hc s h => hs j c H' Q' hc s h) (fun H' s h => hd D H' nD s h) gName_mono
theorem tLc_list {K : PySem.W.Frag} {te0 te : TE} {i : Nat} {vs : List Nat} {σ : SS} {H : Hp} {Q : VK} (xs ys : List V) (h0 : ∀ R : VK, (∀ a H1, Same H H1 → SqL K H1 a xs → R (.ref a) H1) → te0 σ H R) (hx : xs.length ≤ sizeLine) (hl : ys.length = xs.length)
    (hs : ∀ (j : Nat) (c d : V) (H' : Hp) (Q' : VK), xs[j]? = some c → ys[j]? = some d → Same H H' → (∀ H'', Same H' H'' → Q' d H'') → wipe ((wipe σ vs).set i (some c)) vs = wipe σ vs ∧ te ((wipe σ vs).set i (some c)) H' Q')
    (hd : ∀ D H', H D = none → Same H H' → H' D = some (.lst ys) → Q (.ref D) H') : tLc (iSeq K te0) (gName i) tYes te vs σ H Q := by
  refine .inl (h0 _ fun a H1 s0 hL => ⟨a, rfl, ⟨xs, hL⟩, fun D nD => ?_⟩)
  refine lc_vals (xs := xs) (ys := ys) nD hx hl (fun H' s => ⟨xs, s.seq hL, Nat.le_refl _⟩) (fun j H' hj s => ⟨xs, xs[j], s.seq hL, List.getElem?_eq_getElem hj⟩) (fun j H' y H'' s hy => ⟨hy.1, hy.2 xs (s.seq hL)⟩) (fun j c d H' Q' hc hd s h => hs j c d H' Q' hc hd (s0.trans s) h) (fun H' s h => hd D H' (s0.free nD) (s0.trans s) h) gName_mono
theorem Same.seqT {K : PySem.W.Frag} {H H' : Hp} {a : Addr} {xs : List V} (e : Same H H') (h : SqT K H a xs) : SqT K H' a xs := by
  rcases h with h | h
  · rcases h with h | ⟨o, h⟩
    · exact .inl (.inl (e _ _ h))
    · exact .inl (.inr ⟨o, e _ _ h⟩)
  · exact .inr h
theorem tLc_tup {K : PySem.W.Frag} {te0 te : TE} {i : Nat} {vs : List Nat} {σ : SS} {H : Hp} {Q : VK} (xs ys : List V) (h0 : ∀ R : VK, (∀ a H1, Same H H1 → SqT K H1 a xs → R (.ref a) H1) → te0 σ H R) (hx : xs.length ≤ sizeLine) (hl : ys.length = xs.length)
    (hs : ∀ (j : Nat) (c d : V) (H' : Hp) (Q' : VK), xs[j]? = some c → ys[j]? = some d → Same H H' → (∀ H'', Same H' H'' → Q' d H'') → wipe ((wipe σ vs).set i (some c)) vs = wipe σ vs ∧ te ((wipe σ vs).set i (some c)) H' Q')
    (hd : ∀ D H', H D = none → Same H H' → H' D = some (.lst ys) → Q (.ref D) H') : tLc (iSeq K te0) (gName i) tYes te vs σ H Q := by
  refine .inr (.inl (h0 _ fun a H1 s0 hL => ⟨a, rfl, ⟨xs, hL⟩, fun D nD => ?_⟩))
  refine lc_vals (xs := xs) (ys := ys) nD hx hl (fun H' s => ⟨xs, Same.seqT s hL, Nat.le_refl _⟩) (fun j H' hj s => ⟨xs, xs[j], Same.seqT s hL, List.getElem?_eq_getElem hj⟩) (fun j H' y H'' s hy => ⟨hy.1, hy.2 xs (Same.seqT s hL)⟩) (fun j c d H' Q' hc hd s h => hs j c d H' Q' hc hd (s0.trans s) h) (fun H' s h => hd D H' (s0.free nD) (s0.trans s) h) gName_mono
mutual
theorem Dp.same {K : PySem.W.Frag} {H H' : Hp} (s : Same H H') : ∀ {d : PyData} {v : V}, Dp K H v d → Dp K H' v d
  | _, _, .non => .non
  | _, _, .bl b => .bl b
  | _, _, .int i => .int i
  | _, _, .str x => .str x
  | _, _, .lst h r => .lst (s.seq h) (DpAll.same s r)
  | _, _, .tup h r => .tup (Same.seqT s h) (DpAll.same s r)
theorem DpAll.same {K : PySem.W.Frag} {H H' : Hp} (s : Same H H') : ∀ {ds : List PyData} {vs : List V}, DpAll K H vs ds → DpAll K H' vs ds
  | _, _, .nil => .nil
  | _, _, .cons h r => .cons (Dp.same s h) (DpAll.same s r)
end
theorem DpAll.len {K : PySem.W.Frag} {H : Hp} : ∀ {vs : List V} {ds : List PyData}, DpAll K H vs ds → vs.length = ds.length
  | _, _, .nil => rfl
  | _, _, .cons _ r => by rw [List.length_cons, List.length_cons, DpAll.len r]
theorem DpAll.at_ {K : PySem.W.Frag} {H : Hp} : ∀ {vs : List V} {ds : List PyData} {i : Nat} {v : V} {d : PyData}, DpAll K H vs ds → vs[i]? = some v → ds[i]? = some d → Dp K H v d
  | _, _, _, _, _, .nil, h, _ => by simp at h
  | _, _, 0, _, _, .cons h _, h1, h2 => by simp at h1 h2; subst h1 h2; exact h
  | _, _, i + 1, _, _, .cons _ r, h1, h2 => DpAll.at_ (i := i) r (by simpa using h1) (by simpa using h2)
theorem all_id {α : Type} (f : α → Bool) (l : List α) : (l.map f).all id = l.all f := by simp
end Sk

/-! ## SkH -/
namespace Sk
open PySem PySem.Spec PyProof.Rows L2 L2H HotX
/-! ### a def that is called while an exception is handled, and is told what it is -/
/-- Z: what the handled object is; the promise may name its address -/
structure FnZ (P : Program) (w : World) (K : PySem.W.Frag) (mg : Str → Option Value) (base : Heap) (Z : Obj → Prop) (k : Nat) (f : Addr) (fd : FuncData) (ps : List Str) (sp : Addr → Sp) : Prop where
  len : ∀ a vs H Q E, sp a vs H Q E → vs.length = ps.length
  run : ∀ (A : Around) (outer : List Env) (s : Shared) (H : Hp) (args : Args) (us : List Value) (vs : List V) (Q : VK) (E : XK) (p : Addr × Obj), RoomH k A → Hot1 A p → Z p.2 → PinOk outer H s p → Env0 P w K mg base A outer s H → BindsTo s fd args (ps.zip us) → Vals vs us → sp p.1 vs H Q E →
    codeAny (model P w) A (.call (.ref f) args) (CR (L2N.CX P w) outer P w H s Q E) s
section
variable {P : Program} {w : World} {K : PySem.W.Frag} {mg : Str → Option Value} {base : Heap}
theorem fnZ_mk {x qual : Str} {st : Stmt} {f : Addr} {fd : FuncData} {N ps : List Str} {k : Nat} {sp : Addr → Sp} {Z : Obj → Prop} (F : Fun K x qual st f fd) (S : FnScope N ps (defScope st)) (hlen : ∀ a vs H Q E, sp a vs H Q E → vs.length = ps.length)
    (body : ∀ (cdv : Value) (A : Around) (outer : List Env) (s : Shared) (H : Hp) (vs : List V) (Q : VK) (E : XK) (p : Addr × Obj), Hot1 A p → Z p.2 → RoomH k (A.deeper (envOfC qual (defScope st) s.heap.objs.size f cdv)) → sp p.1 vs H Q E →
      ∃ t, PSs (cxH (L2N.CX P w) P w K mg base N qual (defScope st) f cdv A outer s H E p) (defBody st) t ∧ t { nx := fun _ H' => Q .non H', rt := Q } (L2.start N vs) H) : FnZ P w K mg base Z (k + 1) f fd ps sp := by
  obtain ⟨_, _, _, _, _, _, cdv, _, _, rfl, hfun, hcode⟩ := F.ex
  refine ⟨hlen, fun A outer s H args us vs Q E p room hot hz pin e0 binds rel hsp => ?_⟩
  have inK : K.In s.heap := e0.mod.kin.keeps fun b o z => (e0.bs b o z).1
  have kinds : ∀ y ∈ ps.zip us, (defScope st).names.lookup y.1 = some .local ∨ ((defScope st).names.lookup y.1 = some .cell ∧ ((cellsFrom (s.heap.objs.size + 1) (defScope st).names []).lookup y.1).isSome = true) := by
    intro y hy
    have := S.par y.1 (List.of_mem_zip (a := y.1) (b := y.2) hy).1
    exact this.imp id fun c => ⟨c, PySem.W.cellsFrom_some _ _ _ (.inl c)⟩
  refine codeAny_call_function room.depth (inK _ _ hfun) rfl S.co S.gen rfl (PySem.W.codeRec_of inK hcode) (binds _ _ _ _ ?_)
  refine wpAny_newFunctionEnv_cells S.kind kinds fun env he s1 made => ?_
  cases he
  refine ⟨(e0.mod.nolimit.keeps fun b o z => (e0.bs b o z).1).keeps made.toInCall.keep, codeAny_func ?_⟩
  obtain ⟨t, run, wish⟩ := body cdv A outer s H vs Q E p hot hz (room.deeper _) hsp
  refine wpAny_mono (run.run [] s1 _ H _ (inv_startH S pin e0 (hlen _ _ _ _ _ hsp) rel made) wish) (fun fl s' out => ?_) fun _ _ out => out
  match fl, out with
  | .ret _, ⟨v, _, H', J, rv, q⟩ => exact ⟨v, H', J.os, J.bare, J.base, J.hok, rv, q⟩
  | .next, ⟨_, H', J, q⟩ => exact ⟨V.non, H', J.os, J.bare, J.base, J.hok, rfl, q⟩
  | .brk, ⟨_, _, _, q⟩ => exact q.elim
  | .cont, ⟨_, _, _, q⟩ => exact q.elim
end
section
variable {X : Cx} {k : Nat} {f : Addr} {fd : FuncData} {ps : List Str} {sp : Addr → Sp} {E : SS → XK} {x : Str} {q pos : Pos} {e : Expr} {es : List Expr} {t : TA} {Z : Obj → Prop} {p : Addr × Obj}
theorem pe_callZ (F : FnZ X.prog X.w X.K X.mg X.base Z k f fd ps sp) (room : RoomH k X.A) (hot : Hot1 X.A p) (hz : Z p.2) (hp : p ∈ X.pn) (hg : Gl X x) (hm : X.mg x = some (.ref f)) (hk : PySem.W.keepIn X.K (.ref f) = true) (hb : Binds X.K fd ps [])
    (hx : ∀ σ, PassesAt (L2N.CX X.prog X.w) X σ (E σ)) (ha : PA X (e :: es) t) (hdb : (x == ("__debug__" : Str)) = false := by decide) (he : starEach (e :: es) X.env = (false, eval e X.env) :: starEach es X.env := by rfl)
    (hpl : (backTo pos (starEach es X.env)).any (·.1) = false := by rfl) : PE X (.Call (.Name x q) (e :: es) [] pos) (tCallS (sp p.1) E t) := by
  refine ⟨fun pins s σ H Q I h => wpAny_Call_Name_kw (ld_glob I hg hm ?_ hdb)⟩
  refine PySem.W.callWith_K (h₀ := X.base) I.ok.mod.kin hk (thn (ha.run pos pins s σ H _ I h) ?_) he hpl
  rintro us s1 ⟨vs, H1, I1, rel, hsp⟩
  refine ⟨I1.kIn, wpAny_call ?_⟩
  have P1 := I1.pin p (List.mem_append_left _ hp)
  have pin : PinOk X.stack H1 s1 p := ⟨P1.1, P1.2.1, fun hm => (List.mem_cons.mp (I1.stkSub p.1 hm)).elim P1.2.2.1 P1.2.2.2.1, P1.2.2.2.2⟩
  have b := hb s1 us I1.kIn (by rw [List.append_nil, ← rel.length]; exact F.len _ _ _ _ _ hsp)
  rw [List.append_nil] at b
  refine codeAny_mono (F.run X.A X.stack s1 H1 ⟨us, []⟩ us vs Q (E σ) p room hot hz pin I1.env0 b rel hsp) fun r s' out => ?_
  match r, out with
  | .error u, out => exact hx σ pins H1 s1 u s' I1 out
  | .ok (.ret _), out => exact I1.after out
end
/-! ### isinstance of the handled exception -/
section
variable {X : Cx} {p : Addr × Obj} {D : Addr}
theorem inst_pin (hp : p ∈ X.pn) (hz : Zc (.ref D) none p.2) (hf : ∃ vs, p.2.data = .fields vs) {pins : List (Addr × Obj)} {σ : SS} {H : Hp} {s : Shared} (I : Inv X pins σ H s) : PySem.W.InstAt s.heap p.1 p.2 D none := by
  obtain ⟨a, oc, od, dt, sl⟩ := p
  obtain ⟨rfl, rfl⟩ := hz
  obtain ⟨vs, hv⟩ := hf
  dsimp only at hv
  subst hv
  exact ⟨(I.pin _ (List.mem_append_left _ hp)).1, rfl, rfl, trivial⟩
def rIsZ (K : PySem.W.Frag) (D a : Addr) : List V → Hp → VK → Prop := fun xs H Q => (∃ c u b, xs = [.ref a, c] ∧ ClsV c u ∧ PySem.W.kitOne K (.ref D) u = some b ∧ Q (.bl b) H) ∨
  ∃ tp cs us b, xs = [.ref a, .ref tp] ∧ H tp = some (.tup cs) ∧ Paired ClsV cs us ∧ PySem.W.kitAny K (.ref D) us = some b ∧ Q (.bl b) H
theorem call_isZ (C : ExcC X.K D) (hp : p ∈ X.pn) (hz : Zc (.ref D) none p.2) (hf : ∃ vs, p.2.data = .fields vs) : CallR X (.builtin "isinstance") (rIsZ X.K D p.1) := by
  intro pins s σ H xs us Q I rel h
  have J := inst_pin hp hz hf I
  have kit := PySem.W.handS_kitx_exc (x := p.1) (ox := p.2) C.hg C.hk C.hs C.hd C.ha C.hn C.ht C.hm
  rcases h with ⟨c, u, b, rfl, hc, e, q⟩ | ⟨tp, cs, cl, b, rfl, ht, hc, e, q⟩
  · obtain ⟨u1, u2, rfl, r1, r2⟩ := vals2 rel
    cases r1
    cases hc.eq r2
    exact PySem.W.kia_one kit I.kIn J e (fun z => nomatch z) fun tk => ⟨.bl b, H, I.kept (t' := tk) fun _ _ z => z, rfl, q⟩
  · obtain ⟨u1, u2, rfl, r1, r2⟩ := vals2 rel
    cases r1
    cases r2
    obtain ⟨_, its, rv, ⟨oc, od, dt, sl⟩, at_, h2, n, h3⟩ := (show ObjOk X.prog X.w H s.heap tp (.tup cs) from I.hok tp _ ht)
    cases ClsV.all hc rv
    dsimp only at h2 h3
    subst h2 h3
    exact PySem.W.kia_tup kit I.kIn J at_ e (fun z => nomatch z) fun tk => ⟨.bl b, H, I.kept (t' := tk) fun _ _ z => z, rfl, q⟩
end
/-- a body that is served under a condition -/
theorem PSs.when {X : Cx} {b : List Stmt} {C : Prop} {t : TS} (h : C → PSs X b t) : PSs X b (fun D σ H => C ∧ t D σ H) :=
  ⟨fun pins s σ H D I q => (h q.1).run pins s σ H D I q.2⟩
end Sk

/-! ## Hd53 -/
namespace Sk
open PySem PySem.Spec PyProof.Rows L2
def top (i : Nat) : Stmt := PySem.Challenge.pw_stemkeep_k53_texts_of_no_expression.main.body.getD i (.Pass ⟨0, 0, 0, 0⟩)
abbrev s_is_worth : Stmt := top 22
abbrev s_is_name : Stmt := top 23
abbrev s_signs_ahead : Stmt := top 24
abbrev s_is_number_text : Stmt := top 25
abbrev s_quoted : Stmt := top 31
abbrev s_shown_worth : Stmt := top 32
abbrev s_joined : Stmt := top 33
abbrev s_shown_parts : Stmt := top 34
abbrev s_shown_under : Stmt := top 35
abbrev s_show_expression : Stmt := top 36
abbrev s_name_read : Stmt := top 38
abbrev s_quoted_read : Stmt := top 39
abbrev s_worth_read : Stmt := top 40
abbrev s_parts_read : Stmt := top 41
abbrev s_some_parts_read : Stmt := top 42
abbrev s_place_read : Stmt := top 43
abbrev s_call_read : Stmt := top 44
abbrev s_under_read : Stmt := top 45
abbrev s_single_read : Stmt := top 46
abbrev s_is_within : Stmt := top 47
abbrev s_expression_from : Stmt := top 48
abbrev s_read_expression : Stmt := top 49
abbrev s__law_cell_at : Stmt := top 51
abbrev s__law_bag : Stmt := top 52
abbrev s__law_draw : Stmt := top 53
abbrev s__law_signs : Stmt := top 54
abbrev s__law_text : Stmt := top 55
abbrev s__law_name : Stmt := top 56
abbrev s__law_parts : Stmt := top 57
abbrev s__law_place : Stmt := top 58
abbrev s__law_expr : Stmt := top 59
abbrev s__law_is_own : Stmt := top 60
abbrev s__law_worth_shown : Stmt := top 61
abbrev s__law_parts_shown : Stmt := top 62
abbrev s__law_under_shown : Stmt := top 63
abbrev s__law_shown : Stmt := top 64
abbrev s__law_run : Stmt := top 65
abbrev s__law_quoted : Stmt := top 66
abbrev s__law_worth_in : Stmt := top 67
abbrev s__law_name_in : Stmt := top 68
abbrev s__law_parts_in : Stmt := top 69
abbrev s__law_place_in : Stmt := top 70
abbrev s__law_call_in : Stmt := top 71
abbrev s__law_under_in : Stmt := top 72
abbrev s__law_single_in : Stmt := top 73
abbrev s__law_expr_in : Stmt := top 74
abbrev s__law_depth : Stmt := top 75
abbrev s__law_only_no_text : Stmt := top 76
abbrev s__law_changed : Stmt := top 77
abbrev s__law_right : Stmt := top 78
abbrev s_law : Stmt := top 79
abbrev s_Source___init__ : Stmt := inClass (top 37) 0
abbrev s_Source_comes_next : Stmt := inClass (top 37) 1
abbrev s_Source_skips : Stmt := inClass (top 37) 2
abbrev s_Source_goes_past : Stmt := inClass (top 37) 3
abbrev s_Source_run_of : Stmt := inClass (top 37) 4
abbrev s_Source_next_sign : Stmt := inClass (top 37) 5
abbrev s_Source_at_end : Stmt := inClass (top 37) 6
/-- isinstance of a NoText -/
structure KtNT (K : PySem.W.Frag) : Prop where
  xc : ExcC K (He.ga K "NoText")
  no_Erring : PySem.W.kitOne K (.ref (He.ga K "NoText")) (.ref (He.ga K "Erring")) = some false
  no_Held : PySem.W.kitOne K (.ref (He.ga K "NoText")) (.ref (He.ga K "Held")) = some false
  no_NoDealing : PySem.W.kitOne K (.ref (He.ga K "NoText")) (.ref (He.ga K "NoDealing")) = some false
  no_NoHead : PySem.W.kitOne K (.ref (He.ga K "NoText")) (.ref (He.ga K "NoHead")) = some false
  no_NoJob : PySem.W.kitOne K (.ref (He.ga K "NoText")) (.ref (He.ga K "NoJob")) = some false
  no_NoLabel : PySem.W.kitOne K (.ref (He.ga K "NoText")) (.ref (He.ga K "NoLabel")) = some false
  no_NoLock : PySem.W.kitOne K (.ref (He.ga K "NoText")) (.ref (He.ga K "NoLock")) = some false
  no_NoProgram : PySem.W.kitOne K (.ref (He.ga K "NoText")) (.ref (He.ga K "NoProgram")) = some false
  no_NoRef : PySem.W.kitOne K (.ref (He.ga K "NoText")) (.ref (He.ga K "NoRef")) = some false
  no_NoWorth : PySem.W.kitOne K (.ref (He.ga K "NoText")) (.ref (He.ga K "NoWorth")) = some false
  no_TooDeep : PySem.W.kitOne K (.ref (He.ga K "NoText")) (.ref (He.ga K "TooDeep")) = some false
  no_TooLong : PySem.W.kitOne K (.ref (He.ga K "NoText")) (.ref (He.ga K "TooLong")) = some false
  no_Waiting : PySem.W.kitOne K (.ref (He.ga K "NoText")) (.ref (He.ga K "Waiting")) = some false
  no_Within : PySem.W.kitOne K (.ref (He.ga K "NoText")) (.ref (He.ga K "Within")) = some false
  yes : PySem.W.kitOne K (.ref (He.ga K "NoText")) (.ref (He.ga K "NoText")) = some true
  ve : PySem.W.kitOne K (.ref (He.ga K "NoText")) (.type "ValueError") = some true
/-- what the top leaves -/
structure Hd (w : World) (K : PySem.W.Frag) (mg : Str → Option Value) : Prop where
  f_ValueError : mg "ValueError" = none
  f_all : mg "all" = none
  f_int : mg "int" = none
  f_isinstance : mg "isinstance" = none
  f_len : mg "len" = none
  f_list : mg "list" = none
  f_max : mg "max" = none
  f_min : mg "min" = none
  f_range : mg "range" = none
  f_str : mg "str" = none
  f_tuple : mg "tuple" = none
  c_LETTERS : ∃ u, mg "LETTERS" = some u ∧ RelV (.str "abcdefghijklmnopqrstuvwxyz") u
  c_FIGURES : ∃ u, mg "FIGURES" = some u ∧ RelV (.str "0123456789") u
  c_MOST_LETTERS : ∃ u, mg "MOST_LETTERS" = some u ∧ RelV (.int 8) u
  c_SIGNS : ∃ u, mg "SIGNS" = some u ∧ RelV (.str " !\"#$&'()*+,-./0123456789:;<=>?@ABCDEFGHIJKLMNOPQRSTUVWXYZ[\\]^_`abcdefghijklmnopqrstuvwxyz{|}~") u
  c_OPS : ∃ u, mg "OPS" = some u ∧ RelV (.str "+-*/#<>=_[]&!") u
  c_MOST_LEVELS : ∃ u, mg "MOST_LEVELS" = some u ∧ RelV (.int 40) u
  c_PLACES : ∃ u, mg "PLACES" = some u ∧ RelV (.ref (He.ga K "PLACES")) u
  tt_PLACES : ∀ H, SqT K H (He.ga K "PLACES") [.str "order", .str "back", .str "data"]
  c_CALLS : ∃ u, mg "CALLS" = some u ∧ RelV (.ref (He.ga K "CALLS")) u
  kd_CALLS : ∃ es n, KDict K w (He.ga K "CALLS") es n
  kk_CALLS : He.dicW K (He.ga K "CALLS") = some (He.keysIn w.params ["length", "piece", "part"])
  kv_CALLS : He.valsB K (He.ga K "CALLS") [("length", .int 1), ("piece", .int 3), ("part", .int 3)] = true
  nt : KtNT K
  x_NoText : PySem.W.excIn K (He.ga K "NoText") He.veBase "ValueError.__new__" = true
  k_NoText : PySem.W.keepIn K (.ref (He.ga K "NoText")) = true
  b_NoText : PySem.W.subIn K (.ref (He.ga K "NoText")) (.type "BaseException") = some true
  t_NoText : PySem.W.typeIn K (.ref (He.ga K "NoText")) = some (.type "type")
  e_NoText_StemError : PySem.W.exmOne K (.ref (He.ga K "NoText")) (.ref (He.ga K "StemError")) = some true
  g_StemError : mg "StemError" = some (.ref (He.ga K "StemError"))
  g_NoRef : mg "NoRef" = some (.ref (He.ga K "NoRef"))
  g_NoWorth : mg "NoWorth" = some (.ref (He.ga K "NoWorth"))
  g_Within : mg "Within" = some (.ref (He.ga K "Within"))
  g_TooDeep : mg "TooDeep" = some (.ref (He.ga K "TooDeep"))
  g_NoHead : mg "NoHead" = some (.ref (He.ga K "NoHead"))
  g_NoJob : mg "NoJob" = some (.ref (He.ga K "NoJob"))
  g_Waiting : mg "Waiting" = some (.ref (He.ga K "Waiting"))
  g_NoLock : mg "NoLock" = some (.ref (He.ga K "NoLock"))
  g_Held : mg "Held" = some (.ref (He.ga K "Held"))
  g_NoDealing : mg "NoDealing" = some (.ref (He.ga K "NoDealing"))
  g_Erring : mg "Erring" = some (.ref (He.ga K "Erring"))
  g_NoProgram : mg "NoProgram" = some (.ref (He.ga K "NoProgram"))
  g_NoLabel : mg "NoLabel" = some (.ref (He.ga K "NoLabel"))
  g_TooLong : mg "TooLong" = some (.ref (He.ga K "TooLong"))
  g_NoText : mg "NoText" = some (.ref (He.ga K "NoText"))
  g_Source : mg "Source" = some (.ref (He.ga K "Source"))
  cl_Source : Cls K (He.ga K "Source")
  mk_Source : Mk K (He.ga K "Source") (He.ma K (He.ga K "Source") "__init__")
  na_Source_signs : NoAttr K (He.ga K "Source") "signs"
  na_Source_spot : NoAttr K (He.ga K "Source") "spot"
  fn_Source___init__ : ∃ fd, Fun K "__init__" "Source.__init__" s_Source___init__ (He.ma K (He.ga K "Source") "__init__") fd
  me_Source_comes_next : Meth K (He.ga K "Source") "comes_next" (He.ma K (He.ga K "Source") "comes_next")
  fn_Source_comes_next : ∃ fd, Fun K "comes_next" "Source.comes_next" s_Source_comes_next (He.ma K (He.ga K "Source") "comes_next") fd
  me_Source_skips : Meth K (He.ga K "Source") "skips" (He.ma K (He.ga K "Source") "skips")
  fn_Source_skips : ∃ fd, Fun K "skips" "Source.skips" s_Source_skips (He.ma K (He.ga K "Source") "skips") fd
  me_Source_goes_past : Meth K (He.ga K "Source") "goes_past" (He.ma K (He.ga K "Source") "goes_past")
  fn_Source_goes_past : ∃ fd, Fun K "goes_past" "Source.goes_past" s_Source_goes_past (He.ma K (He.ga K "Source") "goes_past") fd
  me_Source_run_of : Meth K (He.ga K "Source") "run_of" (He.ma K (He.ga K "Source") "run_of")
  fn_Source_run_of : ∃ fd, Fun K "run_of" "Source.run_of" s_Source_run_of (He.ma K (He.ga K "Source") "run_of") fd
  me_Source_next_sign : Meth K (He.ga K "Source") "next_sign" (He.ma K (He.ga K "Source") "next_sign")
  fn_Source_next_sign : ∃ fd, Fun K "next_sign" "Source.next_sign" s_Source_next_sign (He.ma K (He.ga K "Source") "next_sign") fd
  me_Source_at_end : Meth K (He.ga K "Source") "at_end" (He.ma K (He.ga K "Source") "at_end")
  fn_Source_at_end : ∃ fd, Fun K "at_end" "Source.at_end" s_Source_at_end (He.ma K (He.ga K "Source") "at_end") fd
  g_is_worth : mg "is_worth" = some (.ref (He.ga K "is_worth"))
  fn_is_worth : ∃ fd, Fun K "is_worth" "is_worth" s_is_worth (He.ga K "is_worth") fd
  g_is_name : mg "is_name" = some (.ref (He.ga K "is_name"))
  fn_is_name : ∃ fd, Fun K "is_name" "is_name" s_is_name (He.ga K "is_name") fd
  g_signs_ahead : mg "signs_ahead" = some (.ref (He.ga K "signs_ahead"))
  fn_signs_ahead : ∃ fd, Fun K "signs_ahead" "signs_ahead" s_signs_ahead (He.ga K "signs_ahead") fd
  g_is_number_text : mg "is_number_text" = some (.ref (He.ga K "is_number_text"))
  fn_is_number_text : ∃ fd, Fun K "is_number_text" "is_number_text" s_is_number_text (He.ga K "is_number_text") fd
  g_quoted : mg "quoted" = some (.ref (He.ga K "quoted"))
  fn_quoted : ∃ fd, Fun K "quoted" "quoted" s_quoted (He.ga K "quoted") fd
  g_shown_worth : mg "shown_worth" = some (.ref (He.ga K "shown_worth"))
  fn_shown_worth : ∃ fd, Fun K "shown_worth" "shown_worth" s_shown_worth (He.ga K "shown_worth") fd
  g_joined : mg "joined" = some (.ref (He.ga K "joined"))
  fn_joined : ∃ fd, Fun K "joined" "joined" s_joined (He.ga K "joined") fd
  g_shown_parts : mg "shown_parts" = some (.ref (He.ga K "shown_parts"))
  fn_shown_parts : ∃ fd, Fun K "shown_parts" "shown_parts" s_shown_parts (He.ga K "shown_parts") fd
  g_shown_under : mg "shown_under" = some (.ref (He.ga K "shown_under"))
  fn_shown_under : ∃ fd, Fun K "shown_under" "shown_under" s_shown_under (He.ga K "shown_under") fd
  g_show_expression : mg "show_expression" = some (.ref (He.ga K "show_expression"))
  fn_show_expression : ∃ fd, Fun K "show_expression" "show_expression" s_show_expression (He.ga K "show_expression") fd
  g_name_read : mg "name_read" = some (.ref (He.ga K "name_read"))
  fn_name_read : ∃ fd, Fun K "name_read" "name_read" s_name_read (He.ga K "name_read") fd
  g_quoted_read : mg "quoted_read" = some (.ref (He.ga K "quoted_read"))
  fn_quoted_read : ∃ fd, Fun K "quoted_read" "quoted_read" s_quoted_read (He.ga K "quoted_read") fd
  g_worth_read : mg "worth_read" = some (.ref (He.ga K "worth_read"))
  fn_worth_read : ∃ fd, Fun K "worth_read" "worth_read" s_worth_read (He.ga K "worth_read") fd
  g_parts_read : mg "parts_read" = some (.ref (He.ga K "parts_read"))
  fn_parts_read : ∃ fd, Fun K "parts_read" "parts_read" s_parts_read (He.ga K "parts_read") fd
  g_some_parts_read : mg "some_parts_read" = some (.ref (He.ga K "some_parts_read"))
  fn_some_parts_read : ∃ fd, Fun K "some_parts_read" "some_parts_read" s_some_parts_read (He.ga K "some_parts_read") fd
  g_place_read : mg "place_read" = some (.ref (He.ga K "place_read"))
  fn_place_read : ∃ fd, Fun K "place_read" "place_read" s_place_read (He.ga K "place_read") fd
  g_call_read : mg "call_read" = some (.ref (He.ga K "call_read"))
  fn_call_read : ∃ fd, Fun K "call_read" "call_read" s_call_read (He.ga K "call_read") fd
  g_under_read : mg "under_read" = some (.ref (He.ga K "under_read"))
  fn_under_read : ∃ fd, Fun K "under_read" "under_read" s_under_read (He.ga K "under_read") fd
  g_single_read : mg "single_read" = some (.ref (He.ga K "single_read"))
  fn_single_read : ∃ fd, Fun K "single_read" "single_read" s_single_read (He.ga K "single_read") fd
  g_is_within : mg "is_within" = some (.ref (He.ga K "is_within"))
  fn_is_within : ∃ fd, Fun K "is_within" "is_within" s_is_within (He.ga K "is_within") fd
  g_expression_from : mg "expression_from" = some (.ref (He.ga K "expression_from"))
  fn_expression_from : ∃ fd, Fun K "expression_from" "expression_from" s_expression_from (He.ga K "expression_from") fd
  g_read_expression : mg "read_expression" = some (.ref (He.ga K "read_expression"))
  fn_read_expression : ∃ fd, Fun K "read_expression" "read_expression" s_read_expression (He.ga K "read_expression") fd
  g__law_cell_at : mg "_law_cell_at" = some (.ref (He.ga K "_law_cell_at"))
  fn__law_cell_at : ∃ fd, Fun K "_law_cell_at" "_law_cell_at" s__law_cell_at (He.ga K "_law_cell_at") fd
  g__law_bag : mg "_law_bag" = some (.ref (He.ga K "_law_bag"))
  fn__law_bag : ∃ fd, Fun K "_law_bag" "_law_bag" s__law_bag (He.ga K "_law_bag") fd
  g__law_draw : mg "_law_draw" = some (.ref (He.ga K "_law_draw"))
  fn__law_draw : ∃ fd, Fun K "_law_draw" "_law_draw" s__law_draw (He.ga K "_law_draw") fd
  g__law_signs : mg "_law_signs" = some (.ref (He.ga K "_law_signs"))
  fn__law_signs : ∃ fd, Fun K "_law_signs" "_law_signs" s__law_signs (He.ga K "_law_signs") fd
  g__law_text : mg "_law_text" = some (.ref (He.ga K "_law_text"))
  fn__law_text : ∃ fd, Fun K "_law_text" "_law_text" s__law_text (He.ga K "_law_text") fd
  g__law_name : mg "_law_name" = some (.ref (He.ga K "_law_name"))
  fn__law_name : ∃ fd, Fun K "_law_name" "_law_name" s__law_name (He.ga K "_law_name") fd
  g__law_parts : mg "_law_parts" = some (.ref (He.ga K "_law_parts"))
  fn__law_parts : ∃ fd, Fun K "_law_parts" "_law_parts" s__law_parts (He.ga K "_law_parts") fd
  g__law_place : mg "_law_place" = some (.ref (He.ga K "_law_place"))
  fn__law_place : ∃ fd, Fun K "_law_place" "_law_place" s__law_place (He.ga K "_law_place") fd
  g__law_expr : mg "_law_expr" = some (.ref (He.ga K "_law_expr"))
  fn__law_expr : ∃ fd, Fun K "_law_expr" "_law_expr" s__law_expr (He.ga K "_law_expr") fd
  g__law_is_own : mg "_law_is_own" = some (.ref (He.ga K "_law_is_own"))
  fn__law_is_own : ∃ fd, Fun K "_law_is_own" "_law_is_own" s__law_is_own (He.ga K "_law_is_own") fd
  g__law_worth_shown : mg "_law_worth_shown" = some (.ref (He.ga K "_law_worth_shown"))
  fn__law_worth_shown : ∃ fd, Fun K "_law_worth_shown" "_law_worth_shown" s__law_worth_shown (He.ga K "_law_worth_shown") fd
  g__law_parts_shown : mg "_law_parts_shown" = some (.ref (He.ga K "_law_parts_shown"))
  fn__law_parts_shown : ∃ fd, Fun K "_law_parts_shown" "_law_parts_shown" s__law_parts_shown (He.ga K "_law_parts_shown") fd
  g__law_under_shown : mg "_law_under_shown" = some (.ref (He.ga K "_law_under_shown"))
  fn__law_under_shown : ∃ fd, Fun K "_law_under_shown" "_law_under_shown" s__law_under_shown (He.ga K "_law_under_shown") fd
  g__law_shown : mg "_law_shown" = some (.ref (He.ga K "_law_shown"))
  fn__law_shown : ∃ fd, Fun K "_law_shown" "_law_shown" s__law_shown (He.ga K "_law_shown") fd
  g__law_run : mg "_law_run" = some (.ref (He.ga K "_law_run"))
  fn__law_run : ∃ fd, Fun K "_law_run" "_law_run" s__law_run (He.ga K "_law_run") fd
  g__law_quoted : mg "_law_quoted" = some (.ref (He.ga K "_law_quoted"))
  fn__law_quoted : ∃ fd, Fun K "_law_quoted" "_law_quoted" s__law_quoted (He.ga K "_law_quoted") fd
  g__law_worth_in : mg "_law_worth_in" = some (.ref (He.ga K "_law_worth_in"))
  fn__law_worth_in : ∃ fd, Fun K "_law_worth_in" "_law_worth_in" s__law_worth_in (He.ga K "_law_worth_in") fd
  g__law_name_in : mg "_law_name_in" = some (.ref (He.ga K "_law_name_in"))
  fn__law_name_in : ∃ fd, Fun K "_law_name_in" "_law_name_in" s__law_name_in (He.ga K "_law_name_in") fd
  g__law_parts_in : mg "_law_parts_in" = some (.ref (He.ga K "_law_parts_in"))
  fn__law_parts_in : ∃ fd, Fun K "_law_parts_in" "_law_parts_in" s__law_parts_in (He.ga K "_law_parts_in") fd
  g__law_place_in : mg "_law_place_in" = some (.ref (He.ga K "_law_place_in"))
  fn__law_place_in : ∃ fd, Fun K "_law_place_in" "_law_place_in" s__law_place_in (He.ga K "_law_place_in") fd
  g__law_call_in : mg "_law_call_in" = some (.ref (He.ga K "_law_call_in"))
  fn__law_call_in : ∃ fd, Fun K "_law_call_in" "_law_call_in" s__law_call_in (He.ga K "_law_call_in") fd
  g__law_under_in : mg "_law_under_in" = some (.ref (He.ga K "_law_under_in"))
  fn__law_under_in : ∃ fd, Fun K "_law_under_in" "_law_under_in" s__law_under_in (He.ga K "_law_under_in") fd
  g__law_single_in : mg "_law_single_in" = some (.ref (He.ga K "_law_single_in"))
  fn__law_single_in : ∃ fd, Fun K "_law_single_in" "_law_single_in" s__law_single_in (He.ga K "_law_single_in") fd
  g__law_expr_in : mg "_law_expr_in" = some (.ref (He.ga K "_law_expr_in"))
  fn__law_expr_in : ∃ fd, Fun K "_law_expr_in" "_law_expr_in" s__law_expr_in (He.ga K "_law_expr_in") fd
  g__law_depth : mg "_law_depth" = some (.ref (He.ga K "_law_depth"))
  fn__law_depth : ∃ fd, FunD K "_law_depth" "_law_depth" (defArgs s__law_depth) (defBody s__law_depth) (defScope s__law_depth) [V.int 7] [] (He.ga K "_law_depth") fd
  g__law_only_no_text : mg "_law_only_no_text" = some (.ref (He.ga K "_law_only_no_text"))
  fn__law_only_no_text : ∃ fd, Fun K "_law_only_no_text" "_law_only_no_text" s__law_only_no_text (He.ga K "_law_only_no_text") fd
  g__law_changed : mg "_law_changed" = some (.ref (He.ga K "_law_changed"))
  fn__law_changed : ∃ fd, Fun K "_law_changed" "_law_changed" s__law_changed (He.ga K "_law_changed") fd
  g__law_right : mg "_law_right" = some (.ref (He.ga K "_law_right"))
  fn__law_right : ∃ fd, Fun K "_law_right" "_law_right" s__law_right (He.ga K "_law_right") fd
  g_law : mg "law" = some (.ref (He.ga K "law"))
  fn_law : ∃ fd, Fun K "law" "law" s_law (He.ga K "law") fd
end Sk

/-! ## SkHk -/
namespace Sk
open PySem PySem.Spec PyProof.Rows L2 He
/-! ### a Hook over all objects, in a form that the kernel compares quickly (lists by two maps of different names) -/
def mp {α β : Type} (f : α → β) : List α → List β
  | [] => []
  | a :: l => f a :: mp f l
theorem mp_eq {α β : Type} (f : α → β) : ∀ l : List α, mp f l = l.map f
  | [] => rfl
  | a :: l => by rw [List.map_cons, mp, mp_eq f l]
def allB {α : Type} (f : α → Bool) : List α → Bool
  | [] => true
  | a :: l => match f a with
    | true => allB f l
    | false => false
theorem allB_mem {α : Type} {f : α → Bool} : ∀ {l : List α}, allB f l = true → ∀ a ∈ l, f a = true
  | [], _, _, h => nomatch h
  | b :: l, h, a, ha => by
    unfold allB at h
    cases e : f b with
    | false => rw [e] at h; cases h
    | true =>
      rw [e] at h
      cases ha with
      | head => exact e
      | tail _ ha => exact allB_mem h a ha
abbrev AlB : Type := Bool × List FnW × List (Option (List (Option (Str × Int))))
def obsK (fa : List Fa) (fn : List DefD) (ts : List Tab) (ex : List (PySem.W.Frag → Bool)) (K : PySem.W.Frag) : AlB := (match allB (fun f : Fa => f.ok K) fa with
  | true => (match allB (fun d : DefD => d.ok K) fn with
    | true => allB (fun x : PySem.W.Frag → Bool => x K) ex
    | false => false)
  | false => false, mp (fun d : DefD => fnW K d.at_) fn, mp (fun t : Tab => dicW K (t.1 K)) ts)
def obsB (N : Nat) (fa : List Fa) (fn : List DefD) (ts : List Tab) (ex : List (PySem.W.Frag → Bool)) (g : Addr → Option Obj) : AlB := obsK fa fn ts ex (frG g (List.range N))
def valB (fn : List DefD) (ts : List Tab) (w : World) : AlB := (true, fn.map DefD.val, ts.map fun t => some (keysIn w.params t.2))
structure SaysB (fa : List Fa) (fn : List DefD) (ts : List Tab) (ex : List (PySem.W.Frag → Bool)) (w : World) (K : PySem.W.Frag) : Prop where
  d : SaysD fa fn K
  tab : ∀ t ∈ ts, dicW K (t.1 K) = some (keysIn w.params t.2)
  ex : ∀ x ∈ ex, x K = true
theorem map_same {α β : Type} {f g : α → β} : ∀ {l : List α}, l.map f = l.map g → ∀ a ∈ l, f a = g a
  | [], _, _, h => nomatch h
  | b :: l, h, a, ha => by
    rw [List.map_cons, List.map_cons] at h
    injection h with h1 h2
    cases ha with
    | head => exact h1
    | tail _ ha => exact map_same h2 a ha
theorem saysB_of {fa : List Fa} {fn : List DefD} {ts : List Tab} {ex : List (PySem.W.Frag → Bool)} {w : World} {K : PySem.W.Frag} (e : obsK fa fn ts ex K = valB fn ts w) : SaysB fa fn ts ex w K := by
  have e1 : (match allB (fun f : Fa => f.ok K) fa with
    | true => (match allB (fun d : DefD => d.ok K) fn with
      | true => allB (fun x : PySem.W.Frag → Bool => x K) ex
      | false => false)
    | false => false) = true := congrArg (fun z : AlB => z.1) e
  have e2 : mp (fun d : DefD => fnW K d.at_) fn = fn.map DefD.val := congrArg (fun z : AlB => z.2.1) e
  have e3 : mp (fun t : Tab => dicW K (t.1 K)) ts = ts.map fun t => some (keysIn w.params t.2) := congrArg (fun z : AlB => z.2.2) e
  rw [mp_eq] at e2 e3
  cases a1 : allB (fun f : Fa => f.ok K) fa with
  | false => rw [a1] at e1; cases e1
  | true =>
    rw [a1] at e1
    cases a2 : allB (fun d : DefD => d.ok K) fn with
    | false => rw [a2] at e1; cases e1
    | true =>
      rw [a2] at e1
      refine ⟨?_, map_same e3, allB_mem (show allB (fun x : PySem.W.Frag → Bool => x K) ex = true from e1)⟩
      have b1 : (fa.all fun f => f.ok K) = true := List.all_eq_true.mpr (allB_mem a1)
      have b2 : (fn.all fun d => d.ok K) = true := List.all_eq_true.mpr (allB_mem a2)
      show obsD fa fn K = valD fn
      unfold obsD valD
      rw [b1, b2, e2]
      rfl
def hookB (N : Nat) (fa : List Fa) (fn : List DefD) (ts : List Tab) (ex : List (PySem.W.Frag → Bool)) : PySem.W.Hook where
  α := AlB
  obs := fun s => obsB N fa fn ts ex s.heap.get?
  val := fun w => valB fn ts w
  says := fun w h => ∃ K : PySem.W.Frag, K.In h ∧ SaysB fa fn ts ex w K
  of := fun _ _ e => ⟨_, frG_in, saysB_of e⟩
  keeps := fun _ _ _ ⟨K, hK, c⟩ k => ⟨K, PySem.W.Frag.In.keeps hK k, c⟩
theorem obsB_eq {N : Nat} {fa : List Fa} {fn : List DefD} {ts : List Tab} {ex : List (PySem.W.Frag → Bool)} {g : Addr → Option Obj} {s : Shared} (h : ∀ a, g a = s.heap.get? a) : obsB N fa fn ts ex g = (hookB N fa fn ts ex).obs s := by
  have e : g = s.heap.get? := funext h
  rw [e] <;> rfl
theorem SaysB.exl {fa : List Fa} {fn : List DefD} {ts : List Tab} {ex : List (PySem.W.Frag → Bool)} {w : World} {K : PySem.W.Frag} (c : SaysB fa fn ts ex w K) (i : Nat) {x : PySem.W.Frag → Bool} (h : ex[i]? = some x) : x K = true := c.ex x (List.mem_of_getElem? h)
theorem SaysB.tabs {fa : List Fa} {fn : List DefD} {ts : List Tab} {ex : List (PySem.W.Frag → Bool)} {w : World} {K : PySem.W.Frag} (c : SaysB fa fn ts ex w K) (i : Nat) {t : Tab} (h : ts[i]? = some t) : dicW K (t.1 K) = some (keysIn w.params t.2) := c.tab t (List.mem_of_getElem? h)
/-- what the top leaves, looked at -/
def RunA (r : PySem.W.OpenRow) (q : Program) (M : Nat) (loose : List PySem.Str) (w : World) : Prop :=
  ∀ os : OsState, (HandSHeadRun.endF (HandSHeadRun.stepQ (HandSHeadRun.denQ HandSHeadRun.tabQ) r.prog w) M r.prog w os).map (fun s => (HandSHeadRun.looksF r.prog (PySem.W.boot_heap w.params) s.abs, HandSHeadRun.seenQ q loose (importedModules r.prog.main.body) (fun s => PySem.W.xlAt q [] s && PySem.W.recOk r.toRowW.records s) s.abs)) = some (true, PySem.W.openGood q loose)
def RunB (r : PySem.W.OpenRow) (H : PySem.W.Hook) (ob : PySem.W.SharedT → H.α) (M : Nat) (w : World) : Prop :=
  ∀ os : OsState, (HandSHeadRun.endF (HandSHeadRun.stepQ (HandSHeadRun.denQ HandSHeadRun.tabQ) r.prog w) M r.prog w os).map ob = some (H.val w)
/-- a run's equation from two -/
theorem map_two {α β γ δ : Type} {o : Option α} {f : α → β} {g : α → γ} {k : α → δ} {a : β} {b : γ} {c : δ} (h1 : o.map (fun s => (f s, g s)) = some (a, b)) (h2 : o.map k = some c) : o.map (fun s => (f s, g s, k s)) = some (a, b, c) := by
  cases o with
  | none => cases h1
  | some s =>
    injection h1 with h1
    injection h2 with h2
    injection h1 with h1 h3
    show some (f s, g s, k s) = some (a, b, c)
    rw [h1, h2, h3]
theorem run_two {r : PySem.W.OpenRow} {q : Program} {H : PySem.W.Hook} {ob : PySem.W.SharedT → H.α} {M : Nat} {loose : List PySem.Str} {w : World} (h1 : RunA r q M loose w) (h2 : RunB r H ob M w) : HandSHeadRun.RunEq r q H ob M loose w := fun os => map_two (h1 os) (h2 os)
end Sk

/-! ## HR53 -/
namespace Sk
open PySem PySem.Spec PyProof.Rows L2
def dd_Source___init__ : He.DefD := ⟨("Source", some "__init__"), "__init__", "Source.__init__", defArgs s_Source___init__, defBody s_Source___init__, defScope s_Source___init__, [], []⟩
def dd_Source_comes_next : He.DefD := ⟨("Source", some "comes_next"), "comes_next", "Source.comes_next", defArgs s_Source_comes_next, defBody s_Source_comes_next, defScope s_Source_comes_next, [], []⟩
def dd_Source_skips : He.DefD := ⟨("Source", some "skips"), "skips", "Source.skips", defArgs s_Source_skips, defBody s_Source_skips, defScope s_Source_skips, [], []⟩
def dd_Source_goes_past : He.DefD := ⟨("Source", some "goes_past"), "goes_past", "Source.goes_past", defArgs s_Source_goes_past, defBody s_Source_goes_past, defScope s_Source_goes_past, [], []⟩
def dd_Source_run_of : He.DefD := ⟨("Source", some "run_of"), "run_of", "Source.run_of", defArgs s_Source_run_of, defBody s_Source_run_of, defScope s_Source_run_of, [], []⟩
def dd_Source_next_sign : He.DefD := ⟨("Source", some "next_sign"), "next_sign", "Source.next_sign", defArgs s_Source_next_sign, defBody s_Source_next_sign, defScope s_Source_next_sign, [], []⟩
def dd_Source_at_end : He.DefD := ⟨("Source", some "at_end"), "at_end", "Source.at_end", defArgs s_Source_at_end, defBody s_Source_at_end, defScope s_Source_at_end, [], []⟩
def dd_is_worth : He.DefD := ⟨("is_worth", none), "is_worth", "is_worth", defArgs s_is_worth, defBody s_is_worth, defScope s_is_worth, [], []⟩
def dd_is_name : He.DefD := ⟨("is_name", none), "is_name", "is_name", defArgs s_is_name, defBody s_is_name, defScope s_is_name, [], []⟩
def dd_signs_ahead : He.DefD := ⟨("signs_ahead", none), "signs_ahead", "signs_ahead", defArgs s_signs_ahead, defBody s_signs_ahead, defScope s_signs_ahead, [], []⟩
def dd_is_number_text : He.DefD := ⟨("is_number_text", none), "is_number_text", "is_number_text", defArgs s_is_number_text, defBody s_is_number_text, defScope s_is_number_text, [], []⟩
def dd_quoted : He.DefD := ⟨("quoted", none), "quoted", "quoted", defArgs s_quoted, defBody s_quoted, defScope s_quoted, [], []⟩
def dd_shown_worth : He.DefD := ⟨("shown_worth", none), "shown_worth", "shown_worth", defArgs s_shown_worth, defBody s_shown_worth, defScope s_shown_worth, [], []⟩
def dd_joined : He.DefD := ⟨("joined", none), "joined", "joined", defArgs s_joined, defBody s_joined, defScope s_joined, [], []⟩
def dd_shown_parts : He.DefD := ⟨("shown_parts", none), "shown_parts", "shown_parts", defArgs s_shown_parts, defBody s_shown_parts, defScope s_shown_parts, [], []⟩
def dd_shown_under : He.DefD := ⟨("shown_under", none), "shown_under", "shown_under", defArgs s_shown_under, defBody s_shown_under, defScope s_shown_under, [], []⟩
def dd_show_expression : He.DefD := ⟨("show_expression", none), "show_expression", "show_expression", defArgs s_show_expression, defBody s_show_expression, defScope s_show_expression, [], []⟩
def dd_name_read : He.DefD := ⟨("name_read", none), "name_read", "name_read", defArgs s_name_read, defBody s_name_read, defScope s_name_read, [], []⟩
def dd_quoted_read : He.DefD := ⟨("quoted_read", none), "quoted_read", "quoted_read", defArgs s_quoted_read, defBody s_quoted_read, defScope s_quoted_read, [], []⟩
def dd_worth_read : He.DefD := ⟨("worth_read", none), "worth_read", "worth_read", defArgs s_worth_read, defBody s_worth_read, defScope s_worth_read, [], []⟩
def dd_parts_read : He.DefD := ⟨("parts_read", none), "parts_read", "parts_read", defArgs s_parts_read, defBody s_parts_read, defScope s_parts_read, [], []⟩
def dd_some_parts_read : He.DefD := ⟨("some_parts_read", none), "some_parts_read", "some_parts_read", defArgs s_some_parts_read, defBody s_some_parts_read, defScope s_some_parts_read, [], []⟩
def dd_place_read : He.DefD := ⟨("place_read", none), "place_read", "place_read", defArgs s_place_read, defBody s_place_read, defScope s_place_read, [], []⟩
def dd_call_read : He.DefD := ⟨("call_read", none), "call_read", "call_read", defArgs s_call_read, defBody s_call_read, defScope s_call_read, [], []⟩
def dd_under_read : He.DefD := ⟨("under_read", none), "under_read", "under_read", defArgs s_under_read, defBody s_under_read, defScope s_under_read, [], []⟩
def dd_single_read : He.DefD := ⟨("single_read", none), "single_read", "single_read", defArgs s_single_read, defBody s_single_read, defScope s_single_read, [], []⟩
def dd_is_within : He.DefD := ⟨("is_within", none), "is_within", "is_within", defArgs s_is_within, defBody s_is_within, defScope s_is_within, [], []⟩
def dd_expression_from : He.DefD := ⟨("expression_from", none), "expression_from", "expression_from", defArgs s_expression_from, defBody s_expression_from, defScope s_expression_from, [], []⟩
def dd_read_expression : He.DefD := ⟨("read_expression", none), "read_expression", "read_expression", defArgs s_read_expression, defBody s_read_expression, defScope s_read_expression, [], []⟩
def dd__law_cell_at : He.DefD := ⟨("_law_cell_at", none), "_law_cell_at", "_law_cell_at", defArgs s__law_cell_at, defBody s__law_cell_at, defScope s__law_cell_at, [], []⟩
def dd__law_bag : He.DefD := ⟨("_law_bag", none), "_law_bag", "_law_bag", defArgs s__law_bag, defBody s__law_bag, defScope s__law_bag, [], []⟩
def dd__law_draw : He.DefD := ⟨("_law_draw", none), "_law_draw", "_law_draw", defArgs s__law_draw, defBody s__law_draw, defScope s__law_draw, [], []⟩
def dd__law_signs : He.DefD := ⟨("_law_signs", none), "_law_signs", "_law_signs", defArgs s__law_signs, defBody s__law_signs, defScope s__law_signs, [], []⟩
def dd__law_text : He.DefD := ⟨("_law_text", none), "_law_text", "_law_text", defArgs s__law_text, defBody s__law_text, defScope s__law_text, [], []⟩
def dd__law_name : He.DefD := ⟨("_law_name", none), "_law_name", "_law_name", defArgs s__law_name, defBody s__law_name, defScope s__law_name, [], []⟩
def dd__law_parts : He.DefD := ⟨("_law_parts", none), "_law_parts", "_law_parts", defArgs s__law_parts, defBody s__law_parts, defScope s__law_parts, [], []⟩
def dd__law_place : He.DefD := ⟨("_law_place", none), "_law_place", "_law_place", defArgs s__law_place, defBody s__law_place, defScope s__law_place, [], []⟩
def dd__law_expr : He.DefD := ⟨("_law_expr", none), "_law_expr", "_law_expr", defArgs s__law_expr, defBody s__law_expr, defScope s__law_expr, [], []⟩
def dd__law_is_own : He.DefD := ⟨("_law_is_own", none), "_law_is_own", "_law_is_own", defArgs s__law_is_own, defBody s__law_is_own, defScope s__law_is_own, [], []⟩
def dd__law_worth_shown : He.DefD := ⟨("_law_worth_shown", none), "_law_worth_shown", "_law_worth_shown", defArgs s__law_worth_shown, defBody s__law_worth_shown, defScope s__law_worth_shown, [], []⟩
def dd__law_parts_shown : He.DefD := ⟨("_law_parts_shown", none), "_law_parts_shown", "_law_parts_shown", defArgs s__law_parts_shown, defBody s__law_parts_shown, defScope s__law_parts_shown, [], []⟩
def dd__law_under_shown : He.DefD := ⟨("_law_under_shown", none), "_law_under_shown", "_law_under_shown", defArgs s__law_under_shown, defBody s__law_under_shown, defScope s__law_under_shown, [], []⟩
def dd__law_shown : He.DefD := ⟨("_law_shown", none), "_law_shown", "_law_shown", defArgs s__law_shown, defBody s__law_shown, defScope s__law_shown, [], []⟩
def dd__law_run : He.DefD := ⟨("_law_run", none), "_law_run", "_law_run", defArgs s__law_run, defBody s__law_run, defScope s__law_run, [], []⟩
def dd__law_quoted : He.DefD := ⟨("_law_quoted", none), "_law_quoted", "_law_quoted", defArgs s__law_quoted, defBody s__law_quoted, defScope s__law_quoted, [], []⟩
def dd__law_worth_in : He.DefD := ⟨("_law_worth_in", none), "_law_worth_in", "_law_worth_in", defArgs s__law_worth_in, defBody s__law_worth_in, defScope s__law_worth_in, [], []⟩
def dd__law_name_in : He.DefD := ⟨("_law_name_in", none), "_law_name_in", "_law_name_in", defArgs s__law_name_in, defBody s__law_name_in, defScope s__law_name_in, [], []⟩
def dd__law_parts_in : He.DefD := ⟨("_law_parts_in", none), "_law_parts_in", "_law_parts_in", defArgs s__law_parts_in, defBody s__law_parts_in, defScope s__law_parts_in, [], []⟩
def dd__law_place_in : He.DefD := ⟨("_law_place_in", none), "_law_place_in", "_law_place_in", defArgs s__law_place_in, defBody s__law_place_in, defScope s__law_place_in, [], []⟩
def dd__law_call_in : He.DefD := ⟨("_law_call_in", none), "_law_call_in", "_law_call_in", defArgs s__law_call_in, defBody s__law_call_in, defScope s__law_call_in, [], []⟩
def dd__law_under_in : He.DefD := ⟨("_law_under_in", none), "_law_under_in", "_law_under_in", defArgs s__law_under_in, defBody s__law_under_in, defScope s__law_under_in, [], []⟩
def dd__law_single_in : He.DefD := ⟨("_law_single_in", none), "_law_single_in", "_law_single_in", defArgs s__law_single_in, defBody s__law_single_in, defScope s__law_single_in, [], []⟩
def dd__law_expr_in : He.DefD := ⟨("_law_expr_in", none), "_law_expr_in", "_law_expr_in", defArgs s__law_expr_in, defBody s__law_expr_in, defScope s__law_expr_in, [], []⟩
def dd__law_depth : He.DefD := ⟨("_law_depth", none), "_law_depth", "_law_depth", defArgs s__law_depth, defBody s__law_depth, defScope s__law_depth, [.int 7], []⟩
def dd__law_only_no_text : He.DefD := ⟨("_law_only_no_text", none), "_law_only_no_text", "_law_only_no_text", defArgs s__law_only_no_text, defBody s__law_only_no_text, defScope s__law_only_no_text, [], []⟩
def dd__law_changed : He.DefD := ⟨("_law_changed", none), "_law_changed", "_law_changed", defArgs s__law_changed, defBody s__law_changed, defScope s__law_changed, [], []⟩
def dd__law_right : He.DefD := ⟨("_law_right", none), "_law_right", "_law_right", defArgs s__law_right, defBody s__law_right, defScope s__law_right, [], []⟩
def dd_law : He.DefD := ⟨("law", none), "law", "law", defArgs s_law, defBody s_law, defScope s_law, [], []⟩
def dfn : List He.DefD := [dd_Source___init__, dd_Source_comes_next, dd_Source_skips, dd_Source_goes_past, dd_Source_run_of, dd_Source_next_sign, dd_Source_at_end, dd_is_worth, dd_is_name, dd_signs_ahead, dd_is_number_text, dd_quoted, dd_shown_worth, dd_joined, dd_shown_parts, dd_shown_under, dd_show_expression, dd_name_read, dd_quoted_read, dd_worth_read, dd_parts_read, dd_some_parts_read, dd_place_read, dd_call_read, dd_under_read, dd_single_read, dd_is_within, dd_expression_from, dd_read_expression, dd__law_cell_at, dd__law_bag, dd__law_draw, dd__law_signs, dd__law_text, dd__law_name, dd__law_parts, dd__law_place, dd__law_expr, dd__law_is_own, dd__law_worth_shown, dd__law_parts_shown, dd__law_under_shown, dd__law_shown, dd__law_run, dd__law_quoted, dd__law_worth_in, dd__law_name_in, dd__law_parts_in, dd__law_place_in, dd__law_call_in, dd__law_under_in, dd__law_single_in, dd__law_expr_in, dd__law_depth, dd__law_only_no_text, dd__law_changed, dd__law_right, dd_law]
def fac : List He.Fa := [.free "ValueError", .free "all", .free "int", .free "isinstance", .free "len", .free "list", .free "max", .free "min", .free "range", .free "str", .free "tuple", .str "LETTERS" "abcdefghijklmnopqrstuvwxyz", .str "FIGURES" "0123456789", .int "MOST_LETTERS" 8, .str "SIGNS" " !\"#$&'()*+,-./0123456789:;<=>?@ABCDEFGHIJKLMNOPQRSTUVWXYZ[\\]^_`abcdefghijklmnopqrstuvwxyz{|}~", .str "OPS" "+-*/#<>=_[]&!", .int "MOST_LEVELS" 40, .glo "PLACES", .glo "CALLS", .exc "NoText", .glo "NoText", .exm "NoText" "StemError" true, .glo "StemError", .glo "NoRef", .glo "NoWorth", .glo "Within", .glo "TooDeep", .glo "NoHead", .glo "NoJob", .glo "Waiting", .glo "NoLock", .glo "Held", .glo "NoDealing", .glo "Erring", .glo "NoProgram", .glo "NoLabel", .glo "TooLong", .glo "Source", .cls "Source", .mkr "Source", .noat "Source" "signs", .noat "Source" "spot", .meth "Source" "comes_next", .meth "Source" "skips", .meth "Source" "goes_past", .meth "Source" "run_of", .meth "Source" "next_sign", .meth "Source" "at_end", .glo "is_worth", .glo "is_name", .glo "signs_ahead", .glo "is_number_text", .glo "quoted", .glo "shown_worth", .glo "joined", .glo "shown_parts", .glo "shown_under", .glo "show_expression", .glo "name_read", .glo "quoted_read", .glo "worth_read", .glo "parts_read", .glo "some_parts_read", .glo "place_read", .glo "call_read", .glo "under_read", .glo "single_read", .glo "is_within", .glo "expression_from", .glo "read_expression", .glo "_law_cell_at", .glo "_law_bag", .glo "_law_draw", .glo "_law_signs", .glo "_law_text", .glo "_law_name", .glo "_law_parts", .glo "_law_place", .glo "_law_expr", .glo "_law_is_own", .glo "_law_worth_shown", .glo "_law_parts_shown", .glo "_law_under_shown", .glo "_law_shown", .glo "_law_run", .glo "_law_quoted", .glo "_law_worth_in", .glo "_law_name_in", .glo "_law_parts_in", .glo "_law_place_in", .glo "_law_call_in", .glo "_law_under_in", .glo "_law_single_in", .glo "_law_expr_in", .glo "_law_depth", .glo "_law_only_no_text", .glo "_law_changed", .glo "_law_right", .glo "law"]
theorem hd_mk {w : World} {K : PySem.W.Frag} {h : Heap} {mg : Str → Option Value} (X : K.In h) (G : h.Ns mainGlobals mg) (c : He.SaysD fac dfn K) (knt : KtNT K) (x_PLACES : He.tupB K "PLACES" [.str "order", .str "back", .str "data"] = true) (y_CALLS : He.dicW K (He.ga K "CALLS") = some (He.keysIn w.params ["length", "piece", "part"])) (z_CALLS : He.valsB K (He.ga K "CALLS") [("length", .int 1), ("piece", .int 3), ("part", .int 3)] = true) : Hd w K mg where
  f_ValueError := He.free_ok X G (c.fact 0 (f := .free "ValueError") rfl)
  f_all := He.free_ok X G (c.fact 1 (f := .free "all") rfl)
  f_int := He.free_ok X G (c.fact 2 (f := .free "int") rfl)
  f_isinstance := He.free_ok X G (c.fact 3 (f := .free "isinstance") rfl)
  f_len := He.free_ok X G (c.fact 4 (f := .free "len") rfl)
  f_list := He.free_ok X G (c.fact 5 (f := .free "list") rfl)
  f_max := He.free_ok X G (c.fact 6 (f := .free "max") rfl)
  f_min := He.free_ok X G (c.fact 7 (f := .free "min") rfl)
  f_range := He.free_ok X G (c.fact 8 (f := .free "range") rfl)
  f_str := He.free_ok X G (c.fact 9 (f := .free "str") rfl)
  f_tuple := He.free_ok X G (c.fact 10 (f := .free "tuple") rfl)
  c_LETTERS := (let ⟨t, e⟩ := He.str_ok X G (c.fact 11 (f := .str "LETTERS" "abcdefghijklmnopqrstuvwxyz") rfl); ⟨_, e, t, rfl⟩)
  c_FIGURES := (let ⟨t, e⟩ := He.str_ok X G (c.fact 12 (f := .str "FIGURES" "0123456789") rfl); ⟨_, e, t, rfl⟩)
  c_MOST_LETTERS := (let ⟨t, e⟩ := He.int_ok X G (c.fact 13 (f := .int "MOST_LETTERS" 8) rfl); ⟨_, e, t, rfl⟩)
  c_SIGNS := (let ⟨t, e⟩ := He.str_ok X G (c.fact 14 (f := .str "SIGNS" " !\"#$&'()*+,-./0123456789:;<=>?@ABCDEFGHIJKLMNOPQRSTUVWXYZ[\\]^_`abcdefghijklmnopqrstuvwxyz{|}~") rfl); ⟨_, e, t, rfl⟩)
  c_OPS := (let ⟨t, e⟩ := He.str_ok X G (c.fact 15 (f := .str "OPS" "+-*/#<>=_[]&!") rfl); ⟨_, e, t, rfl⟩)
  c_MOST_LEVELS := (let ⟨t, e⟩ := He.int_ok X G (c.fact 16 (f := .int "MOST_LEVELS" 40) rfl); ⟨_, e, t, rfl⟩)
  c_PLACES := ⟨_, He.glo_ok X G (c.fact 17 (f := .glo "PLACES") rfl), rfl⟩
  tt_PLACES := (fun H => He.tupB_ok (vs := [.str "order", .str "back", .str "data"]) x_PLACES H)
  c_CALLS := ⟨_, He.glo_ok X G (c.fact 18 (f := .glo "CALLS") rfl), rfl⟩
  kd_CALLS := He.dicW_ok y_CALLS
  kk_CALLS := y_CALLS
  kv_CALLS := z_CALLS
  nt := knt
  x_NoText := (He.exc_ok (c.fact 19 (f := .exc "NoText") rfl)).1
  k_NoText := (He.exc_ok (c.fact 19 (f := .exc "NoText") rfl)).2.1
  b_NoText := (He.exc_ok (c.fact 19 (f := .exc "NoText") rfl)).2.2.1
  t_NoText := (He.exc_ok (c.fact 19 (f := .exc "NoText") rfl)).2.2.2
  e_NoText_StemError := He.exm_ok (c.fact 21 (f := .exm "NoText" "StemError" true) rfl)
  g_StemError := He.glo_ok X G (c.fact 22 (f := .glo "StemError") rfl)
  g_NoRef := He.glo_ok X G (c.fact 23 (f := .glo "NoRef") rfl)
  g_NoWorth := He.glo_ok X G (c.fact 24 (f := .glo "NoWorth") rfl)
  g_Within := He.glo_ok X G (c.fact 25 (f := .glo "Within") rfl)
  g_TooDeep := He.glo_ok X G (c.fact 26 (f := .glo "TooDeep") rfl)
  g_NoHead := He.glo_ok X G (c.fact 27 (f := .glo "NoHead") rfl)
  g_NoJob := He.glo_ok X G (c.fact 28 (f := .glo "NoJob") rfl)
  g_Waiting := He.glo_ok X G (c.fact 29 (f := .glo "Waiting") rfl)
  g_NoLock := He.glo_ok X G (c.fact 30 (f := .glo "NoLock") rfl)
  g_Held := He.glo_ok X G (c.fact 31 (f := .glo "Held") rfl)
  g_NoDealing := He.glo_ok X G (c.fact 32 (f := .glo "NoDealing") rfl)
  g_Erring := He.glo_ok X G (c.fact 33 (f := .glo "Erring") rfl)
  g_NoProgram := He.glo_ok X G (c.fact 34 (f := .glo "NoProgram") rfl)
  g_NoLabel := He.glo_ok X G (c.fact 35 (f := .glo "NoLabel") rfl)
  g_TooLong := He.glo_ok X G (c.fact 36 (f := .glo "TooLong") rfl)
  g_NoText := He.glo_ok X G (c.fact 20 (f := .glo "NoText") rfl)
  g_Source := He.glo_ok X G (c.fact 37 (f := .glo "Source") rfl)
  cl_Source := He.cls_ok (c.fact 38 (f := .cls "Source") rfl)
  mk_Source := He.mkr_ok (c.fact 39 (f := .mkr "Source") rfl)
  na_Source_signs := He.noat_ok (c.fact 40 (f := .noat "Source" "signs") rfl)
  na_Source_spot := He.noat_ok (c.fact 41 (f := .noat "Source" "spot") rfl)
  fn_Source___init__ := (let ⟨fd, F⟩ := c.def_ 0 (d := dd_Source___init__) rfl; ⟨fd, He5.fun_of F⟩)
  me_Source_comes_next := He.meth_ok (c.fact 42 (f := .meth "Source" "comes_next") rfl)
  fn_Source_comes_next := (let ⟨fd, F⟩ := c.def_ 1 (d := dd_Source_comes_next) rfl; ⟨fd, He5.fun_of F⟩)
  me_Source_skips := He.meth_ok (c.fact 43 (f := .meth "Source" "skips") rfl)
  fn_Source_skips := (let ⟨fd, F⟩ := c.def_ 2 (d := dd_Source_skips) rfl; ⟨fd, He5.fun_of F⟩)
  me_Source_goes_past := He.meth_ok (c.fact 44 (f := .meth "Source" "goes_past") rfl)
  fn_Source_goes_past := (let ⟨fd, F⟩ := c.def_ 3 (d := dd_Source_goes_past) rfl; ⟨fd, He5.fun_of F⟩)
  me_Source_run_of := He.meth_ok (c.fact 45 (f := .meth "Source" "run_of") rfl)
  fn_Source_run_of := (let ⟨fd, F⟩ := c.def_ 4 (d := dd_Source_run_of) rfl; ⟨fd, He5.fun_of F⟩)
  me_Source_next_sign := He.meth_ok (c.fact 46 (f := .meth "Source" "next_sign") rfl)
  fn_Source_next_sign := (let ⟨fd, F⟩ := c.def_ 5 (d := dd_Source_next_sign) rfl; ⟨fd, He5.fun_of F⟩)
  me_Source_at_end := He.meth_ok (c.fact 47 (f := .meth "Source" "at_end") rfl)
  fn_Source_at_end := (let ⟨fd, F⟩ := c.def_ 6 (d := dd_Source_at_end) rfl; ⟨fd, He5.fun_of F⟩)
  g_is_worth := He.glo_ok X G (c.fact 48 (f := .glo "is_worth") rfl)
  fn_is_worth := (let ⟨fd, F⟩ := c.def_ 7 (d := dd_is_worth) rfl; ⟨fd, He5.fun_of F⟩)
  g_is_name := He.glo_ok X G (c.fact 49 (f := .glo "is_name") rfl)
  fn_is_name := (let ⟨fd, F⟩ := c.def_ 8 (d := dd_is_name) rfl; ⟨fd, He5.fun_of F⟩)
  g_signs_ahead := He.glo_ok X G (c.fact 50 (f := .glo "signs_ahead") rfl)
  fn_signs_ahead := (let ⟨fd, F⟩ := c.def_ 9 (d := dd_signs_ahead) rfl; ⟨fd, He5.fun_of F⟩)
  g_is_number_text := He.glo_ok X G (c.fact 51 (f := .glo "is_number_text") rfl)
  fn_is_number_text := (let ⟨fd, F⟩ := c.def_ 10 (d := dd_is_number_text) rfl; ⟨fd, He5.fun_of F⟩)
  g_quoted := He.glo_ok X G (c.fact 52 (f := .glo "quoted") rfl)
  fn_quoted := (let ⟨fd, F⟩ := c.def_ 11 (d := dd_quoted) rfl; ⟨fd, He5.fun_of F⟩)
  g_shown_worth := He.glo_ok X G (c.fact 53 (f := .glo "shown_worth") rfl)
  fn_shown_worth := (let ⟨fd, F⟩ := c.def_ 12 (d := dd_shown_worth) rfl; ⟨fd, He5.fun_of F⟩)
  g_joined := He.glo_ok X G (c.fact 54 (f := .glo "joined") rfl)
  fn_joined := (let ⟨fd, F⟩ := c.def_ 13 (d := dd_joined) rfl; ⟨fd, He5.fun_of F⟩)
  g_shown_parts := He.glo_ok X G (c.fact 55 (f := .glo "shown_parts") rfl)
  fn_shown_parts := (let ⟨fd, F⟩ := c.def_ 14 (d := dd_shown_parts) rfl; ⟨fd, He5.fun_of F⟩)
  g_shown_under := He.glo_ok X G (c.fact 56 (f := .glo "shown_under") rfl)
  fn_shown_under := (let ⟨fd, F⟩ := c.def_ 15 (d := dd_shown_under) rfl; ⟨fd, He5.fun_of F⟩)
  g_show_expression := He.glo_ok X G (c.fact 57 (f := .glo "show_expression") rfl)
  fn_show_expression := (let ⟨fd, F⟩ := c.def_ 16 (d := dd_show_expression) rfl; ⟨fd, He5.fun_of F⟩)
  g_name_read := He.glo_ok X G (c.fact 58 (f := .glo "name_read") rfl)
  fn_name_read := (let ⟨fd, F⟩ := c.def_ 17 (d := dd_name_read) rfl; ⟨fd, He5.fun_of F⟩)
  g_quoted_read := He.glo_ok X G (c.fact 59 (f := .glo "quoted_read") rfl)
  fn_quoted_read := (let ⟨fd, F⟩ := c.def_ 18 (d := dd_quoted_read) rfl; ⟨fd, He5.fun_of F⟩)
  g_worth_read := He.glo_ok X G (c.fact 60 (f := .glo "worth_read") rfl)
  fn_worth_read := (let ⟨fd, F⟩ := c.def_ 19 (d := dd_worth_read) rfl; ⟨fd, He5.fun_of F⟩)
  g_parts_read := He.glo_ok X G (c.fact 61 (f := .glo "parts_read") rfl)
  fn_parts_read := (let ⟨fd, F⟩ := c.def_ 20 (d := dd_parts_read) rfl; ⟨fd, He5.fun_of F⟩)
  g_some_parts_read := He.glo_ok X G (c.fact 62 (f := .glo "some_parts_read") rfl)
  fn_some_parts_read := (let ⟨fd, F⟩ := c.def_ 21 (d := dd_some_parts_read) rfl; ⟨fd, He5.fun_of F⟩)
  g_place_read := He.glo_ok X G (c.fact 63 (f := .glo "place_read") rfl)
  fn_place_read := (let ⟨fd, F⟩ := c.def_ 22 (d := dd_place_read) rfl; ⟨fd, He5.fun_of F⟩)
  g_call_read := He.glo_ok X G (c.fact 64 (f := .glo "call_read") rfl)
  fn_call_read := (let ⟨fd, F⟩ := c.def_ 23 (d := dd_call_read) rfl; ⟨fd, He5.fun_of F⟩)
  g_under_read := He.glo_ok X G (c.fact 65 (f := .glo "under_read") rfl)
  fn_under_read := (let ⟨fd, F⟩ := c.def_ 24 (d := dd_under_read) rfl; ⟨fd, He5.fun_of F⟩)
  g_single_read := He.glo_ok X G (c.fact 66 (f := .glo "single_read") rfl)
  fn_single_read := (let ⟨fd, F⟩ := c.def_ 25 (d := dd_single_read) rfl; ⟨fd, He5.fun_of F⟩)
  g_is_within := He.glo_ok X G (c.fact 67 (f := .glo "is_within") rfl)
  fn_is_within := (let ⟨fd, F⟩ := c.def_ 26 (d := dd_is_within) rfl; ⟨fd, He5.fun_of F⟩)
  g_expression_from := He.glo_ok X G (c.fact 68 (f := .glo "expression_from") rfl)
  fn_expression_from := (let ⟨fd, F⟩ := c.def_ 27 (d := dd_expression_from) rfl; ⟨fd, He5.fun_of F⟩)
  g_read_expression := He.glo_ok X G (c.fact 69 (f := .glo "read_expression") rfl)
  fn_read_expression := (let ⟨fd, F⟩ := c.def_ 28 (d := dd_read_expression) rfl; ⟨fd, He5.fun_of F⟩)
  g__law_cell_at := He.glo_ok X G (c.fact 70 (f := .glo "_law_cell_at") rfl)
  fn__law_cell_at := (let ⟨fd, F⟩ := c.def_ 29 (d := dd__law_cell_at) rfl; ⟨fd, He5.fun_of F⟩)
  g__law_bag := He.glo_ok X G (c.fact 71 (f := .glo "_law_bag") rfl)
  fn__law_bag := (let ⟨fd, F⟩ := c.def_ 30 (d := dd__law_bag) rfl; ⟨fd, He5.fun_of F⟩)
  g__law_draw := He.glo_ok X G (c.fact 72 (f := .glo "_law_draw") rfl)
  fn__law_draw := (let ⟨fd, F⟩ := c.def_ 31 (d := dd__law_draw) rfl; ⟨fd, He5.fun_of F⟩)
  g__law_signs := He.glo_ok X G (c.fact 73 (f := .glo "_law_signs") rfl)
  fn__law_signs := (let ⟨fd, F⟩ := c.def_ 32 (d := dd__law_signs) rfl; ⟨fd, He5.fun_of F⟩)
  g__law_text := He.glo_ok X G (c.fact 74 (f := .glo "_law_text") rfl)
  fn__law_text := (let ⟨fd, F⟩ := c.def_ 33 (d := dd__law_text) rfl; ⟨fd, He5.fun_of F⟩)
  g__law_name := He.glo_ok X G (c.fact 75 (f := .glo "_law_name") rfl)
  fn__law_name := (let ⟨fd, F⟩ := c.def_ 34 (d := dd__law_name) rfl; ⟨fd, He5.fun_of F⟩)
  g__law_parts := He.glo_ok X G (c.fact 76 (f := .glo "_law_parts") rfl)
  fn__law_parts := (let ⟨fd, F⟩ := c.def_ 35 (d := dd__law_parts) rfl; ⟨fd, He5.fun_of F⟩)
  g__law_place := He.glo_ok X G (c.fact 77 (f := .glo "_law_place") rfl)
  fn__law_place := (let ⟨fd, F⟩ := c.def_ 36 (d := dd__law_place) rfl; ⟨fd, He5.fun_of F⟩)
  g__law_expr := He.glo_ok X G (c.fact 78 (f := .glo "_law_expr") rfl)
  fn__law_expr := (let ⟨fd, F⟩ := c.def_ 37 (d := dd__law_expr) rfl; ⟨fd, He5.fun_of F⟩)
  g__law_is_own := He.glo_ok X G (c.fact 79 (f := .glo "_law_is_own") rfl)
  fn__law_is_own := (let ⟨fd, F⟩ := c.def_ 38 (d := dd__law_is_own) rfl; ⟨fd, He5.fun_of F⟩)
  g__law_worth_shown := He.glo_ok X G (c.fact 80 (f := .glo "_law_worth_shown") rfl)
  fn__law_worth_shown := (let ⟨fd, F⟩ := c.def_ 39 (d := dd__law_worth_shown) rfl; ⟨fd, He5.fun_of F⟩)
  g__law_parts_shown := He.glo_ok X G (c.fact 81 (f := .glo "_law_parts_shown") rfl)
  fn__law_parts_shown := (let ⟨fd, F⟩ := c.def_ 40 (d := dd__law_parts_shown) rfl; ⟨fd, He5.fun_of F⟩)
  g__law_under_shown := He.glo_ok X G (c.fact 82 (f := .glo "_law_under_shown") rfl)
  fn__law_under_shown := (let ⟨fd, F⟩ := c.def_ 41 (d := dd__law_under_shown) rfl; ⟨fd, He5.fun_of F⟩)
  g__law_shown := He.glo_ok X G (c.fact 83 (f := .glo "_law_shown") rfl)
  fn__law_shown := (let ⟨fd, F⟩ := c.def_ 42 (d := dd__law_shown) rfl; ⟨fd, He5.fun_of F⟩)
  g__law_run := He.glo_ok X G (c.fact 84 (f := .glo "_law_run") rfl)
  fn__law_run := (let ⟨fd, F⟩ := c.def_ 43 (d := dd__law_run) rfl; ⟨fd, He5.fun_of F⟩)
  g__law_quoted := He.glo_ok X G (c.fact 85 (f := .glo "_law_quoted") rfl)
  fn__law_quoted := (let ⟨fd, F⟩ := c.def_ 44 (d := dd__law_quoted) rfl; ⟨fd, He5.fun_of F⟩)
  g__law_worth_in := He.glo_ok X G (c.fact 86 (f := .glo "_law_worth_in") rfl)
  fn__law_worth_in := (let ⟨fd, F⟩ := c.def_ 45 (d := dd__law_worth_in) rfl; ⟨fd, He5.fun_of F⟩)
  g__law_name_in := He.glo_ok X G (c.fact 87 (f := .glo "_law_name_in") rfl)
  fn__law_name_in := (let ⟨fd, F⟩ := c.def_ 46 (d := dd__law_name_in) rfl; ⟨fd, He5.fun_of F⟩)
  g__law_parts_in := He.glo_ok X G (c.fact 88 (f := .glo "_law_parts_in") rfl)
  fn__law_parts_in := (let ⟨fd, F⟩ := c.def_ 47 (d := dd__law_parts_in) rfl; ⟨fd, He5.fun_of F⟩)
  g__law_place_in := He.glo_ok X G (c.fact 89 (f := .glo "_law_place_in") rfl)
  fn__law_place_in := (let ⟨fd, F⟩ := c.def_ 48 (d := dd__law_place_in) rfl; ⟨fd, He5.fun_of F⟩)
  g__law_call_in := He.glo_ok X G (c.fact 90 (f := .glo "_law_call_in") rfl)
  fn__law_call_in := (let ⟨fd, F⟩ := c.def_ 49 (d := dd__law_call_in) rfl; ⟨fd, He5.fun_of F⟩)
  g__law_under_in := He.glo_ok X G (c.fact 91 (f := .glo "_law_under_in") rfl)
  fn__law_under_in := (let ⟨fd, F⟩ := c.def_ 50 (d := dd__law_under_in) rfl; ⟨fd, He5.fun_of F⟩)
  g__law_single_in := He.glo_ok X G (c.fact 92 (f := .glo "_law_single_in") rfl)
  fn__law_single_in := (let ⟨fd, F⟩ := c.def_ 51 (d := dd__law_single_in) rfl; ⟨fd, He5.fun_of F⟩)
  g__law_expr_in := He.glo_ok X G (c.fact 93 (f := .glo "_law_expr_in") rfl)
  fn__law_expr_in := (let ⟨fd, F⟩ := c.def_ 52 (d := dd__law_expr_in) rfl; ⟨fd, He5.fun_of F⟩)
  g__law_depth := He.glo_ok X G (c.fact 94 (f := .glo "_law_depth") rfl)
  fn__law_depth := c.def_ 53 (d := dd__law_depth) rfl
  g__law_only_no_text := He.glo_ok X G (c.fact 95 (f := .glo "_law_only_no_text") rfl)
  fn__law_only_no_text := (let ⟨fd, F⟩ := c.def_ 54 (d := dd__law_only_no_text) rfl; ⟨fd, He5.fun_of F⟩)
  g__law_changed := He.glo_ok X G (c.fact 96 (f := .glo "_law_changed") rfl)
  fn__law_changed := (let ⟨fd, F⟩ := c.def_ 55 (d := dd__law_changed) rfl; ⟨fd, He5.fun_of F⟩)
  g__law_right := He.glo_ok X G (c.fact 97 (f := .glo "_law_right") rfl)
  fn__law_right := (let ⟨fd, F⟩ := c.def_ 56 (d := dd__law_right) rfl; ⟨fd, He5.fun_of F⟩)
  g_law := He.glo_ok X G (c.fact 98 (f := .glo "law") rfl)
  fn_law := (let ⟨fd, F⟩ := c.def_ 57 (d := dd_law) rfl; ⟨fd, He5.fun_of F⟩)
def tbs : List He.Tab := [(fun K => He.ga K "CALLS", ["length", "piece", "part"])]

def exL : List (PySem.W.Frag → Bool) := [
  fun K => He.tupB K "PLACES" [.str "order", .str "back", .str "data"],
  fun K => He.valsB K (He.ga K "CALLS") [("length", .int 1), ("piece", .int 3), ("part", .int 3)],
  fun K => He.eqO (PySem.W.findIn K (.ref (He.ga K "NoText")) "__getattribute__") (some (some (.builtin "BaseException.__getattribute__"))),
  fun K => He.eqO (PySem.W.findIn K (.ref (He.ga K "NoText")) "__getattr__") (some none),
  fun K => decide (PySem.W.subIn K (.ref (He.ga K "NoText")) (.type "BaseException") = some true),
  fun K => PySem.W.hasDictIn K (He.ga K "NoText"),
  fun K => He.eqO (PySem.W.findIn K (.ref (He.ga K "NoText")) "__class__") (some (some (.builtin "object.__class__"))),
  fun K => He.eqO (PySem.W.specialIn K (.builtin "object.__class__") "__get__") (some (some (.builtin "getset_descriptor.__get__"))),
  fun K => decide (PySem.W.takesIn K (.builtin "object.__class__") = some true),
  fun K => decide (PySem.W.mroIn K (He.ga K "NoText") (.type "object") = some true),
  fun K => decide (PySem.W.kitOne K (.ref (He.ga K "NoText")) (.ref (He.ga K "Erring")) = some false),
  fun K => decide (PySem.W.kitOne K (.ref (He.ga K "NoText")) (.ref (He.ga K "Held")) = some false),
  fun K => decide (PySem.W.kitOne K (.ref (He.ga K "NoText")) (.ref (He.ga K "NoDealing")) = some false),
  fun K => decide (PySem.W.kitOne K (.ref (He.ga K "NoText")) (.ref (He.ga K "NoHead")) = some false),
  fun K => decide (PySem.W.kitOne K (.ref (He.ga K "NoText")) (.ref (He.ga K "NoJob")) = some false),
  fun K => decide (PySem.W.kitOne K (.ref (He.ga K "NoText")) (.ref (He.ga K "NoLabel")) = some false),
  fun K => decide (PySem.W.kitOne K (.ref (He.ga K "NoText")) (.ref (He.ga K "NoLock")) = some false),
  fun K => decide (PySem.W.kitOne K (.ref (He.ga K "NoText")) (.ref (He.ga K "NoProgram")) = some false),
  fun K => decide (PySem.W.kitOne K (.ref (He.ga K "NoText")) (.ref (He.ga K "NoRef")) = some false),
  fun K => decide (PySem.W.kitOne K (.ref (He.ga K "NoText")) (.ref (He.ga K "NoWorth")) = some false),
  fun K => decide (PySem.W.kitOne K (.ref (He.ga K "NoText")) (.ref (He.ga K "TooDeep")) = some false),
  fun K => decide (PySem.W.kitOne K (.ref (He.ga K "NoText")) (.ref (He.ga K "TooLong")) = some false),
  fun K => decide (PySem.W.kitOne K (.ref (He.ga K "NoText")) (.ref (He.ga K "Waiting")) = some false),
  fun K => decide (PySem.W.kitOne K (.ref (He.ga K "NoText")) (.ref (He.ga K "Within")) = some false),
  fun K => decide (PySem.W.kitOne K (.ref (He.ga K "NoText")) (.ref (He.ga K "NoText")) = some true),
  fun K => decide (PySem.W.kitOne K (.ref (He.ga K "NoText")) (.type "ValueError") = some true)]
abbrev hk : PySem.W.Hook := hookB 2000 fac dfn tbs exL
def ob (s : PySem.W.SharedT) : AlB := obsB 2000 fac dfn tbs exL (HandSHeadRun.getT s)
theorem ob_eq (s : PySem.W.SharedT) : ob s = hk.obs s.abs := obsB_eq (HandSHeadRun.getT_eq s)
def hnames : List PySem.Str := (["StemError", "NoRef", "NoWorth", "Within", "TooDeep", "NoHead", "NoJob", "Waiting", "NoLock", "Held", "NoDealing", "Erring", "NoProgram", "NoLabel", "TooLong", "NoText"] : List PySem.Str) ++ (["LETTERS", "FIGURES", "MOST_LETTERS", "SIGNS", "is_worth", "is_name", "signs_ahead", "is_number_text", "OPS", "MOST_LEVELS", "PLACES", "CALLS", "quoted", "shown_worth", "joined", "shown_parts"] : List PySem.Str) ++ (["shown_under", "show_expression", "Source", "name_read", "quoted_read", "worth_read", "parts_read", "some_parts_read", "place_read", "call_read", "under_read", "single_read", "is_within", "expression_from", "read_expression", "_law_cell_at"] : List PySem.Str) ++ (["_law_bag", "_law_draw", "_law_signs", "_law_text", "_law_name", "_law_parts", "_law_place", "_law_expr", "_law_is_own", "_law_worth_shown", "_law_parts_shown", "_law_under_shown", "_law_shown", "_law_run", "_law_quoted", "_law_worth_in"] : List PySem.Str) ++ (["_law_name_in", "_law_parts_in", "_law_place_in", "_law_call_in", "_law_under_in", "_law_single_in", "_law_expr_in", "_law_depth", "_law_only_no_text", "_law_changed", "_law_right"] : List PySem.Str)
abbrev R : PySem.W.OpenRow := PySem.W.OpenLaw.row PySem.Challenge.rw_stemkeep_k53_texts_of_no_expression
theorem run_fa (w : World) : RunA R (PySem.W.view R.prog [79]) 8000 hnames (w.withFollow "special-get-raises" false) := by
  intro os
  kernel_rfl
theorem run_fb (w : World) : RunB R hk ob 8000 (w.withFollow "special-get-raises" false) := by
  intro os
  kernel_rfl
theorem run_ta (w : World) : RunA R (PySem.W.view R.prog [79]) 8000 hnames (w.withFollow "special-get-raises" true) := by
  intro os
  kernel_rfl
theorem run_tb (w : World) : RunB R hk ob 8000 (w.withFollow "special-get-raises" true) := by
  intro os
  kernel_rfl
theorem run (w : World) : HandSHeadRun.RunEq R (PySem.W.view R.prog [79]) hk ob 8000 hnames w :=
  PySem.W.byRow2 "special-get-raises" (P := fun w => HandSHeadRun.RunEq R (PySem.W.view R.prog [79]) hk ob 8000 hnames w) (fun w => run_two (run_fa w) (run_fb w)) (fun w => run_two (run_ta w) (run_tb w)) w
theorem hd53 {w : World} {h : Heap} {mg : Str → Option Value} (Y : hk.says w h) (G : h.Ns mainGlobals mg) : ∃ K, K.In h ∧ Hd w K mg := by
  obtain ⟨K, X, c⟩ := Y
  have knt : KtNT K := {
    xc := ⟨He.eqO_ok (c.exl 2 rfl), He.eqO_ok (c.exl 3 rfl), of_decide_eq_true (c.exl 4 rfl), id (c.exl 5 rfl), He.eqO_ok (c.exl 6 rfl), He.eqO_ok (c.exl 7 rfl), of_decide_eq_true (c.exl 8 rfl), of_decide_eq_true (c.exl 9 rfl)⟩
    no_Erring := of_decide_eq_true (c.exl 10 rfl)
    no_Held := of_decide_eq_true (c.exl 11 rfl)
    no_NoDealing := of_decide_eq_true (c.exl 12 rfl)
    no_NoHead := of_decide_eq_true (c.exl 13 rfl)
    no_NoJob := of_decide_eq_true (c.exl 14 rfl)
    no_NoLabel := of_decide_eq_true (c.exl 15 rfl)
    no_NoLock := of_decide_eq_true (c.exl 16 rfl)
    no_NoProgram := of_decide_eq_true (c.exl 17 rfl)
    no_NoRef := of_decide_eq_true (c.exl 18 rfl)
    no_NoWorth := of_decide_eq_true (c.exl 19 rfl)
    no_TooDeep := of_decide_eq_true (c.exl 20 rfl)
    no_TooLong := of_decide_eq_true (c.exl 21 rfl)
    no_Waiting := of_decide_eq_true (c.exl 22 rfl)
    no_Within := of_decide_eq_true (c.exl 23 rfl)
    yes := of_decide_eq_true (c.exl 24 rfl)
    ve := of_decide_eq_true (c.exl 25 rfl) }
  exact ⟨K, X, hd_mk X G c.d knt (c.exl 0 rfl) (c.tabs 0 rfl) (c.exl 1 rfl)⟩
end Sk
open PySem PySem.W PySem.Calls PyProof.Rows
theorem head53 (call : PySem.W.WalkO (PySem.W.view Sk.R.prog [79]) Sk.hnames (XL (PySem.W.view Sk.R.prog [79]) []) Sk.hk.says Sk.R.toRowW (HandSHeadRun.topDef Sk.R.prog 79) [] fun f vs => PySem.call f vs) : PySem.Challenge.rw_stemkeep_k53_texts_of_no_expression.Holds := by
  w_on; o_law
  refine HandSHeadRun.head_any (r := OpenLaw.row PySem.Challenge.rw_stemkeep_k53_texts_of_no_expression) (q := view (OpenLaw.row PySem.Challenge.rw_stemkeep_k53_texts_of_no_expression).prog [79]) (H := Sk.hk) (ob := Sk.ob) (M := 8000) (loose := Sk.hnames) (d := HandSHeadRun.topDef (OpenLaw.row PySem.Challenge.rw_stemkeep_k53_texts_of_no_expression).prog 79) (kwd := []) Sk.ob_eq
    (by kernel_rfl) (fun s => by kernel_rfl) Sk.run (by kernel_rfl) (by kernel_rfl) (by kernel_rfl) (by rfl) (by first | assumption | decide +kernel) (by decide +kernel) ⟨rfl, rfl, rfl, rfl, rfl, by decide +kernel⟩ ?hw ?hc
  case hw => w_witness2
  case hc => exact call

/-! ## SkM -/
namespace Sk
open PySem PySem.Spec PyProof.Rows L2

/-! ### texts as rows of signs -/
abbrev Tx := List Nat
abbrev St (l : Tx) : Str := ⟨l.toArray⟩
def tl (z : Str) : Tx := z.cps.toList
theorem st_tl (z : Str) : St (tl z) = z := rfl
theorem tl_st (l : Tx) : tl (St l) = l := rfl
theorem tl_len (z : Str) : (tl z).length = z.length := by simp [tl, Str.length]
theorem st_inj {a b : Tx} (h : St a = St b) : a = b := congrArg tl h
theorem tl_inj {a b : Str} (h : tl a = tl b) : a = b := by rw [← st_tl a, ← st_tl b, h]
theorem tl_app (a b : Str) : tl (a ++ b) = tl a ++ tl b := TL.tl_append a b
theorem st_app (a b : Tx) : St a ++ St b = St (a ++ b) := tl_inj (by rw [tl_app]; rfl)
/-- what is left of a text from a place on -/
def rem (z : Str) (i : Nat) : Tx := (tl z).drop i
theorem rem_len (z : Str) (i : Nat) : (rem z i).length = z.length - i := by rw [rem, List.length_drop, tl_len]
theorem fromIndex_nat {n i : Nat} (h : i ≤ n) : PySem.fromIndex n (i : Int) = i := by
  unfold PySem.fromIndex
  try split
  all_goals (try simp)
  all_goals omega
theorem subAt_eq (z y : Str) (i : Nat) : Builtin.Str.subAt z y i = ((rem z i).take y.length == tl y) := by
  unfold Builtin.Str.subAt
  rw [Bool.eq_iff_iff, beq_iff_eq, beq_iff_eq]
  have e : (z.cps.extract i (i + y.length)).toList = (rem z i).take y.length := by
    rw [Array.toList_extract]
    simp [rem, tl, List.take_drop, List.extract]
  constructor
  · intro h
    rw [← e, h]
    rfl
  · intro h
    apply Array.toList_inj.mp
    rw [e, h]
    rfl
theorem sw3 {z y : Str} {i : Nat} (h : i ≤ z.length) : Txt.startswith3 z y i = (tl y).isPrefixOf (rem z i) := by
  unfold Txt.startswith3
  rw [fromIndex_nat h, subAt_eq, Bool.eq_iff_iff, Bool.and_eq_true, decide_eq_true_eq, beq_iff_eq, List.isPrefixOf_iff_prefix, ← tl_len y]
  constructor
  · rintro ⟨_, h2⟩
    rw [← h2]
    exact List.take_prefix _ _
  · intro h2
    have h3 := h2.length_le
    rw [rem_len, tl_len] at h3
    refine ⟨by rw [tl_len]; omega, ?_⟩
    obtain ⟨t, ht⟩ := h2
    rw [← ht]
    simp
theorem cutS_mid {z : Str} {i j : Nat} (h1 : i ≤ j) (h2 : j ≤ z.length) : cutS z (some (i : Int)) (some (j : Int)) = St ((rem z i).take (j - i)) := by
  unfold cutS
  have e1 : HT.sIx z.length 0 (some (i : Int)) = i := by rw [HT.sIx_nat]; omega
  have e2 : HT.sIx z.length z.length (some (j : Int)) = j := by rw [HT.sIx_nat]; omega
  rw [e1, e2]
  rfl

/-! ### the mirror: how a text is read -/
def letters : Tx := tl "abcdefghijklmnopqrstuvwxyz"
def figures : Tx := tl "0123456789"
def signsL : Tx := tl " !\"#$&'()*+,-./0123456789:;<=>?@ABCDEFGHIJKLMNOPQRSTUVWXYZ[\\]^_`abcdefghijklmnopqrstuvwxyz{|}~"
def opsL : Tx := tl "+-*/#<>=_[]&!"
def isLet (c : Nat) : Bool := decide (c ∈ letters)
def isFig (c : Nat) : Bool := decide (c ∈ figures)
def isSign (c : Nat) : Bool := decide (c ∈ signsL)
def isOp (c : Nat) : Bool := decide (c ∈ opsL)
def isWorthT (w : Tx) : Bool := w.all isSign
def isNameT (w : Tx) : Bool := decide (1 ≤ w.length ∧ w.length ≤ 8) && w.all isLet
def figsOf (w : Tx) : Tx := if w.take 1 = [45] then w.drop 1 else w
def isNumT (w : Tx) : Bool := if figsOf w = [] ∨ ((figsOf w).takeWhile isFig).length < (figsOf w).length then false else decide (w = [48]) || decide ((figsOf w).take 1 ≠ [48])
def dblQ : Tx → Tx
  | [] => []
  | c :: r => if c = 34 then 34 :: 34 :: dblQ r else c :: dblQ r
def quotedW (w : Tx) : Tx := 34 :: (dblQ w ++ [34])
def shownW (w : Tx) : Tx := if isNumT w && decide (w.take 1 ≠ [45]) then w else quotedW w
def nameR (l : Tx) : Option (Tx × Tx) := if isNameT (l.takeWhile isLet) then some (l.takeWhile isLet, l.dropWhile isLet) else none
/-- behind the opening quote -/
def qBody : Tx → Option (Tx × Tx)
  | [] => none
  | c :: r => if c = 34 then (match r with
    | 34 :: r2 => (qBody r2).map fun p => (34 :: p.1, p.2)
    | r2 => some ([], r2)) else (qBody r).map fun p => (c :: p.1, p.2)
def quotedR (l : Tx) : Option (Tx × Tx) := match l with
  | [] => none
  | c :: r => if c = 34 then (match qBody r with
    | some p => if isWorthT p.1 then some p else none
    | none => none) else none
def worthR (l : Tx) : Option (Tx × Tx) := if l.take 1 = [34] then (match quotedR l with
    | some p => if shownW p.1 = p.1 then none else some p
    | none => none)
  else if isNumT (l.takeWhile isFig) then some (l.takeWhile isFig, l.dropWhile isFig) else none
/-- expressions -/
inductive Ex where
  | is (w : Tx) | var (n : Tx) (ps : List Ex) | at_ (n : Tx) (ps : List Ex) | short (ps : List Ex)
  | op (s : Nat) (a b : Ex) | not (a : Ex) | minus (a : Ex) | call (n : Tx) (ps : List Ex)
/-- .call n ps: length, piece, part, order, back, data, other with their parts -/
def Ex.isOpX : Ex → Bool
  | .op .. => true
  | _ => false
mutual
def Ex.dep : Ex → Nat
  | .is _ => 1
  | .var _ ps => depS ps + 1
  | .at_ _ ps => depS ps + 1
  | .short ps => depS ps + 1
  | .op _ a b => max a.dep b.dep + 1
  | .not a => a.dep + 1
  | .minus a => a.dep + 1
  | .call _ ps => depS ps + 1
def depS : List Ex → Nat
  | [] => 0
  | e :: r => max e.dep (depS r)
end
mutual
def Ex.toD : Ex → PyData
  | .is w => .tuple [.str "is", .str (St w)]
  | .var n ps => .tuple [.str "var", .str (St n), .list (toDs ps)]
  | .at_ n ps => .tuple [.str "at", .str (St n), .list (toDs ps)]
  | .short ps => .tuple [.str "short", .list (toDs ps)]
  | .op s a b => .tuple [.str "op", .str (St [s]), a.toD, b.toD]
  | .not a => .tuple [.str "not", a.toD]
  | .minus a => .tuple [.str "minus", a.toD]
  | .call n ps => .tuple (.str (St n) :: toDs ps)
def toDs : List Ex → List PyData
  | [] => []
  | e :: r => e.toD :: toDs r
end
abbrev Rd1 (α : Type) := Tx → Option (α × Tx)
/-- further parts: ,E -/
def partsTail (E : Rd1 Ex) : Nat → Rd1 (List Ex)
  | 0, _ => none
  | n + 1, l => if l.take 1 = [44] then (match E (l.drop 1) with
      | some (e, r1) => (match partsTail E n r1 with
        | some (es, r2) => some (e :: es, r2)
        | none => none)
      | none => none)
    else some ([], l)
def partsR (E : Rd1 Ex) : Rd1 (List Ex) := fun l => if l.take 1 = [40] then (match E (l.drop 1) with
    | some (e, r1) => (match partsTail E (r1.length + 1) r1 with
      | some (es, r2) => if r2.take 1 = [41] then some (e :: es, r2.drop 1) else none
      | none => none)
    | none => none) else none
def somePartsR (E : Rd1 Ex) : Rd1 (List Ex) := fun l => if l.take 1 = [40] then partsR E l else some ([], l)
/-- a place, its parts by Em -/
def placeR (Em : Rd1 Ex) : Rd1 Ex := fun l => if l.take 1 = [94] then
    (if (l.drop 1).take 1 = [40] then (match partsR Em (l.drop 1) with
      | some (ps, r) => some (.short ps, r)
      | none => none)
    else (match nameR (l.drop 1) with
      | some (n, r) => (match somePartsR Em r with
        | some (ps, r2) => some (.at_ n ps, r2)
        | none => none)
      | none => none))
  else (match nameR l with
    | some (n, r) => (match somePartsR Em r with
      | some (ps, r2) => some (.var n ps, r2)
      | none => none)
    | none => none)
def callsN (w : Tx) : Option Nat := if w = tl "length" then some 1 else if w = tl "piece" then some 3 else if w = tl "part" then some 3 else none
def isPlaceW (w : Tx) : Bool := decide (w = tl "order") || decide (w = tl "back") || decide (w = tl "data")
/-- behind $; E: of the parts; Em: of the parts of a place -/
def callR (E Em : Rd1 Ex) : Rd1 Ex := fun l => match callsN (l.takeWhile isLet) with
  | some k => (match partsR E (l.dropWhile isLet) with
    | some (ps, r) => if ps.length = k then some (.call (l.takeWhile isLet) ps, r) else none
    | none => none)
  | none => if isPlaceW (l.takeWhile isLet) || decide (l.takeWhile isLet = tl "other") then
      (if (l.dropWhile isLet).take 1 = [40] then (match placeR Em ((l.dropWhile isLet).drop 1) with
        | some (p, r) => if l.takeWhile isLet = tl "other" then
            (if r.take 1 = [44] then (match E (r.drop 1) with
              | some (e, r2) => if r2.take 1 = [41] then some (.call (l.takeWhile isLet) [p, e], r2.drop 1) else none
              | none => none) else none)
          else if r.take 1 = [41] then some (.call (l.takeWhile isLet) [p], r.drop 1) else none
        | none => none) else none)
      else none
def underR (S E : Rd1 Ex) : Rd1 Ex := fun l => if l.take 1 = [40] then (match E (l.drop 1) with
    | some (e, r) => if e.isOpX then (if r.take 1 = [41] then some (e, r.drop 1) else none) else none
    | none => none) else S l
/-- S, E: of one level less; Em: of two less -/
def singleR (S E Em : Rd1 Ex) : Rd1 Ex := fun l =>
  if l.take 1 = [34] ∨ (l.take 1).any isFig = true then (match worthR l with
    | some (w, r) => some (.is w, r)
    | none => none)
  else if l.take 1 = [39] then (match underR S E (l.drop 1) with
    | some (e, r) => some (.not e, r)
    | none => none)
  else if l.take 1 = [45] then (match underR S E (l.drop 1) with
    | some (e, r) => some (.minus e, r)
    | none => none)
  else if l.take 1 = [36] then callR E Em (l.drop 1)
  else placeR E l
/-- further signs: k may come -/
def opsTail (U : Rd1 Ex) : Nat → Ex → Rd1 Ex
  | 0, f, l => if (l.take 1).any isOp = true then none else some (f, l)
  | k + 1, f, l => if (l.take 1).any isOp = true then (match U (l.drop 1) with
      | some (e, r) => opsTail U k (.op (l.headD 0) f e) r
      | none => none) else some (f, l)
def exprR (n : Nat) (S U : Rd1 Ex) : Rd1 Ex := fun l => match S l with
  | some (s, r) => if (r.take 1).any isOp = true then (match opsTail U 39 s r with
      | some (f, r2) => if f.dep ≤ n then some (f, r2) else none
      | none => none) else some (s, r)
  | none => none
/-- (single, expression) of n, expression of n - 1 -/
def lvl : Nat → Rd1 Ex × Rd1 Ex × Rd1 Ex
  | 0 => (fun _ => none, fun _ => none, fun _ => none)
  | n + 1 => (singleR (lvl n).1 (lvl n).2.1 (lvl n).2.2, exprR (n + 1) (singleR (lvl n).1 (lvl n).2.1 (lvl n).2.2) (underR (lvl n).1 (lvl n).2.1), (lvl n).2.1)
def sgR (n : Nat) : Rd1 Ex := (lvl n).1
def exR (n : Nat) : Rd1 Ex := (lvl n).2.1
def unR (n : Nat) : Rd1 Ex := underR (sgR n) (exR n)
theorem lvl_m (n : Nat) : (lvl n).2.2 = exR (n - 1) := by cases n <;> rfl
theorem sgR_succ (n : Nat) : sgR (n + 1) = singleR (sgR n) (exR n) (exR (n - 1)) := by rw [← lvl_m]; rfl
theorem exR_succ (n : Nat) : exR (n + 1) = exprR (n + 1) (sgR (n + 1)) (unR n) := rfl
theorem exR_zero : exR 0 = fun _ => none := rfl
theorem sgR_zero : sgR 0 = fun _ => none := rfl
end Sk

/-! ## SkN -/
namespace Sk
open PySem PySem.Spec PyProof.Rows L2
/-! ### what was newly made -/
def dif (H H' : Hp) : Hp := fun b => match H b with
  | none => H' b
  | some _ => none
def difO (H : Hp) (a : Addr) (H' : Hp) : Hp := fun b => if b = a then none else dif H H' b
theorem dif_eq {H H' : Hp} {b : Addr} {o : HO} : dif H H' b = some o ↔ H b = none ∧ H' b = some o := by
  unfold dif
  cases h : H b <;> simp
theorem difO_eq {H H' : Hp} {a b : Addr} {o : HO} : difO H a H' b = some o ↔ b ≠ a ∧ H b = none ∧ H' b = some o := by
  unfold difO
  by_cases h : b = a
  · simp [h]
  · simp [h, dif_eq]
theorem dif_sub {H H' : Hp} : Same (dif H H') H' := fun b o h => (dif_eq.mp h).2
theorem difO_sub {H H' : Hp} {a : Addr} : Same (difO H a H') (dif H H') := fun b o h => dif_eq.mpr (difO_eq.mp h).2
def ButX (p : Addr) (H H' : Hp) : Prop := ∀ b o, H b = some o → b ≠ p → H' b = some o
/-- further on, but for p, which stands there -/
theorem dif_more {p : Addr} {H H1 H2 : Hp} {o : HO} (hp : H p = some o) (b : ButX p H1 H2) : Same (dif H H1) (dif H H2) := fun c u h => by
  obtain ⟨h1, h2⟩ := dif_eq.mp h
  exact dif_eq.mpr ⟨h1, b c u h2 fun e => by subst e; rw [h1] at hp; cases hp⟩
theorem difO_more {p a : Addr} {H H1 H2 : Hp} {o : HO} (hp : H p = some o) (b : ButX p H1 H2) : Same (difO H a H1) (difO H a H2) := fun c u h => by
  obtain ⟨h0, h1, h2⟩ := difO_eq.mp h
  exact difO_eq.mpr ⟨h0, h1, b c u h2 fun e => by subst e; rw [h1] at hp; cases hp⟩
/-- what was made since H1 was made since H -/
theorem dif_back {p : Addr} {H H1 H2 : Hp} {o : HO} (h1 : H1 p = some o) (b : ButX p H H1) : Same (dif H1 H2) (dif H H2) := fun c u h => by
  obtain ⟨h2, h3⟩ := dif_eq.mp h
  refine dif_eq.mpr ⟨?_, h3⟩
  cases e : H c with
  | none => rfl
  | some v =>
    have : c ≠ p := fun e => by subst e; rw [h1] at h2; cases h2
    rw [b c v e this] at h2
    cases h2
theorem difO_back {p a : Addr} {H H1 H2 : Hp} {o u : HO} (h1 : H1 p = some o) (ha : H1 a = some u) (b : ButX p H H1) : Same (dif H1 H2) (difO H a H2) := fun c v h => by
  obtain ⟨h2, h3⟩ := dif_eq.mp h
  obtain ⟨h4, h5⟩ := dif_eq.mp (dif_back h1 b c v h)
  exact difO_eq.mpr ⟨(fun e => by subst e; rw [ha] at h2; cases h2), h4, h5⟩
theorem difO_upd {a : Addr} {H H1 : Hp} {u : HO} : difO H a (upd H1 a u) = difO H a H1 := by
  funext b
  unfold difO
  by_cases h : b = a
  · simp [h]
  · simp only [h, if_false]
    unfold dif
    rw [upd_ne h]
theorem difO_new {a : Addr} {H H1 : Hp} (ha : H1 a = none) : Same (dif H H1) (difO H a H1) := fun c v h => by
  obtain ⟨h4, h5⟩ := dif_eq.mp h
  exact difO_eq.mpr ⟨(fun e => by subst e; rw [ha] at h5; cases h5), h4, h5⟩
theorem DpAll.snoc {K : PySem.W.Frag} {H : Hp} : ∀ {vs : List V} {ds : List PyData} {v : V} {d : PyData}, DpAll K H vs ds → Dp K H v d → DpAll K H (vs ++ [v]) (ds ++ [d])
  | _, _, _, _, .nil, h => .cons h .nil
  | _, _, _, _, .cons h r, h' => .cons h (DpAll.snoc r h')
theorem toDs_snoc : ∀ {es : List Ex} {e : Ex}, toDs (es ++ [e]) = toDs es ++ [e.toD]
  | [], e => by rw [List.nil_append, toDs, toDs]; rfl
  | x :: r, e => by rw [List.cons_append, toDs, toDs_snoc, toDs]; rfl

/-! ### a key of a table with text keys -/
theorem kk_find {P : Params} {z : Str} : ∀ {l : List DictEntry} {ks : List Str}, l.map He.keyOf = He.keysIn P ks →
    ∃ r : Option Value, (match l.find? (·.key.isStr z) with
      | some e => some (some e.val)
      | none => if l.any (·.refKey) then none else some none) = some r ∧ r.isSome = decide (z ∈ ks)
  | [], [], _ => ⟨none, rfl, by simp⟩
  | [], _ :: _, h => by cases h
  | _ :: _, [], h => by cases h
  | e :: l, k :: ks, h => by
    have h1 : He.keyOf e :: l.map He.keyOf = some (k, PyData.keyHash P k) :: He.keysIn P ks := h
    injection h1 with h2 h3
    obtain ⟨r, hr, hi⟩ := kk_find (z := z) h3
    unfold He.keyOf at h2
    split at h2
    · rename_i x t q
      obtain ⟨h5, _⟩ := Prod.mk.inj (Option.some.inj h2)
      subst h5
      rw [List.find?_cons]
      by_cases hx : x = z
      · have e1 : e.key.isStr z = true := by rw [q, hx]; simp [Value.isStr]
        rw [e1]
        exact ⟨some e.val, rfl, by simp [hx]⟩
      · have e1 : e.key.isStr z = false := by rw [q]; simpa [Value.isStr] using hx
        have e2 : e.refKey = false := by unfold DictEntry.refKey; rw [q]
        rw [e1, List.any_cons, e2]
        simp only [Bool.false_or]
        refine ⟨r, hr, ?_⟩
        rw [hi]
        have : ¬ z = x := fun e => hx e.symm
        simp [this]
    · cases h2
theorem kk_in {P : Params} {w : World} {K : PySem.W.Frag} {a : Addr} {ks : List Str} (h : He.dicW K a = some (He.keysIn w.params ks)) (z : Str) : ∃ r, PySem.W.nsIn K a z = some r ∧ r.isSome = decide (z ∈ ks) := by
  obtain ⟨es, n, D⟩ := He.dicW_ok h
  have hl : es.toList.map He.keyOf = He.keysIn w.params ks := by
    unfold He.dicW at h
    rw [D.at_] at h
    simp only at h
    split at h
    · exact Option.some.inj h
    · cases h
  obtain ⟨r, h1, h2⟩ := kk_find (z := z) hl
  refine ⟨r, ?_, h2⟩
  unfold PySem.W.nsIn
  rw [D.at_]
  exact h1
section
variable {X : Cx} {d : Addr} {ks : List Str}
def rInK (d : Addr) (ks : List Str) : R2 := fun x y H Q => ∃ z, x = .str z ∧ y = .ref d ∧ Q (.bl (decide (z ∈ ks))) H
def rNotInK (d : Addr) (ks : List Str) : R2 := fun x y H Q => ∃ z, x = .str z ∧ y = .ref d ∧ Q (.bl (!decide (z ∈ ks))) H
theorem op_in_kk (h : He.dicW X.K d = some (He.keysIn X.w.params ks)) : OpR X (compareOp .In) (rInK d ks) := by
  obtain ⟨es, n, D⟩ := He.dicW_ok h
  intro pins s σ H x y v u Q I rx ry q
  obtain ⟨z, rfl, rfl, q⟩ := q
  obtain ⟨r, h1, h2⟩ := kk_in (P := X.w.params) h z
  exact op_in_kd D pins s σ H _ _ v u Q I rx ry ⟨z, r, rfl, rfl, h1, by rw [h2]; exact q⟩
theorem op_notIn_kk (h : He.dicW X.K d = some (He.keysIn X.w.params ks)) : OpR X (compareOp .NotIn) (rNotInK d ks) := by
  obtain ⟨es, n, D⟩ := He.dicW_ok h
  intro pins s σ H x y v u Q I rx ry q
  obtain ⟨z, rfl, rfl, q⟩ := q
  obtain ⟨r, h1, h2⟩ := kk_in (P := X.w.params) h z
  exact op_notIn_kd D pins s σ H _ _ v u Q I rx ry ⟨z, r, rfl, rfl, h1, by rw [h2]; exact q⟩
end
end Sk

/-! ## SkO -/
namespace Sk
open PySem PySem.Spec PyProof.Rows L2
theorem toDs_len : ∀ es : List Ex, (toDs es).length = es.length
  | [] => by rw [toDs]; rfl
  | e :: r => by rw [toDs, List.length_cons, List.length_cons, toDs_len r]
theorem toDs_at : ∀ {es : List Ex} {i : Nat} {e : Ex}, es[i]? = some e → (toDs es)[i]? = some e.toD
  | [], i, e, h => by simp at h
  | x :: r, 0, e, h => by simp at h; subst h; rw [toDs]; rfl
  | x :: r, i + 1, e, h => by rw [toDs]; simpa using toDs_at (es := r) (i := i) (by simpa using h)
theorem depS_le {n : Nat} : ∀ {es : List Ex}, depS es ≤ n ↔ ∀ e ∈ es, e.dep ≤ n
  | [] => by rw [depS]; simp
  | e :: r => by
    rw [depS]
    have := depS_le (n := n) (es := r)
    simp only [List.mem_cons, forall_eq_or_imp, ← this]
    omega
mutual
def Ex.sz : Ex → Nat
  | .is _ => 1
  | .var _ ps => szS ps + 1
  | .at_ _ ps => szS ps + 1
  | .short ps => szS ps + 1
  | .op _ a b => a.sz + b.sz + 1
  | .not a => a.sz + 1
  | .minus a => a.sz + 1
  | .call _ ps => szS ps + 1
def szS : List Ex → Nat
  | [] => 0
  | e :: r => e.sz + szS r
end
theorem sz_pos (e : Ex) : 0 < e.sz := by cases e <;> rw [Ex.sz] <;> omega
theorem szS_len : ∀ es : List Ex, es.length ≤ szS es
  | [] => by rw [szS]; exact Nat.le_refl _
  | e :: r => by
    rw [szS, List.length_cons]
    have := szS_len r
    have := sz_pos e
    omega
theorem szS_mem {e : Ex} : ∀ {es : List Ex}, e ∈ es → e.sz ≤ szS es
  | [], h => by cases h
  | x :: r, h => by
    rw [szS]
    rcases List.mem_cons.mp h with h | h
    · subst h
      omega
    · have := szS_mem h
      omega

/-! ### how long what is read is -/
theorem tk1 {l : Tx} {c : Nat} (h : l.take 1 = [c]) : l.length = (l.drop 1).length + 1 := by
  cases l with
  | nil => cases h
  | cons a r => simp
theorem tkAny {l : Tx} {f : Nat → Bool} (h : (l.take 1).any f = true) : l.length = (l.drop 1).length + 1 := by
  cases l with
  | nil => cases h
  | cons a r => simp
def Sh (E : Rd1 Ex) : Prop := ∀ l e r, E l = some (e, r) → e.sz + r.length ≤ l.length
def ShS (E : Rd1 (List Ex)) : Prop := ∀ l es r, E l = some (es, r) → szS es + r.length ≤ l.length
theorem tw_len (f : Nat → Bool) (l : Tx) : (l.takeWhile f).length + (l.dropWhile f).length = l.length := by
  rw [← List.length_append, List.takeWhile_append_dropWhile]
theorem nameR_len {l n r : Tx} (h : nameR l = some (n, r)) : 1 ≤ n.length ∧ n.length + r.length = l.length := by
  unfold nameR at h
  split at h
  · rename_i c
    injection h with h
    injection h with h1 h2
    subst h1 h2
    refine ⟨?_, tw_len _ _⟩
    unfold isNameT at c
    rw [Bool.and_eq_true, decide_eq_true_eq] at c
    exact c.1.1
  · cases h
theorem partsTail_sh {E : Rd1 Ex} (hE : Sh E) : ∀ n, ShS (partsTail E n)
  | 0, l, es, r, h => by cases h
  | n + 1, l, es, r, h => by
    rw [partsTail] at h
    split at h
    · rename_i c
      have := tk1 c
      split at h
      · rename_i e r1 he
        have := hE _ _ _ he
        split at h
        · rename_i es' r2 hs
          have := partsTail_sh hE n _ _ _ hs
          injection h with h
          injection h with h1 h2
          subst h1 h2
          rw [szS]
          omega
        · cases h
      · cases h
    · injection h with h
      injection h with h1 h2
      subst h1 h2
      rw [szS]
      omega
theorem partsR_sh {E : Rd1 Ex} (hE : Sh E) {l : Tx} {es : List Ex} {r : Tx} (h : partsR E l = some (es, r)) : szS es + r.length + 2 ≤ l.length := by
  unfold partsR at h
  split at h
  · rename_i c
    have := tk1 c
    split at h
    · rename_i e r1 he
      have := hE _ _ _ he
      split at h
      · rename_i es' r2 hs
        have := partsTail_sh hE _ _ _ _ hs
        split at h
        · rename_i c2
          have := tk1 c2
          injection h with h
          injection h with h1 h2
          subst h1 h2
          rw [szS]
          omega
        · cases h
      · cases h
    · cases h
  · cases h
theorem somePartsR_sh {E : Rd1 Ex} (hE : Sh E) : ShS (somePartsR E) := by
  intro l es r h
  unfold somePartsR at h
  split at h
  · have := partsR_sh hE h
    omega
  · injection h with h
    injection h with h1 h2
    subst h1 h2
    rw [szS]
    omega
theorem placeR_sh {Em : Rd1 Ex} (hE : Sh Em) : Sh (placeR Em) := by
  intro l e r h
  unfold placeR at h
  split at h
  · rename_i c
    have := tk1 c
    split at h
    · split at h
      · rename_i ps r1 hp
        have := partsR_sh hE hp
        injection h with h
        injection h with h1 h2
        subst h1 h2
        rw [Ex.sz]
        omega
      · cases h
    · split at h
      · rename_i n r1 hn
        have := nameR_len hn
        split at h
        · rename_i ps r2 hp
          have := somePartsR_sh hE _ _ _ hp
          injection h with h
          injection h with h1 h2
          subst h1 h2
          rw [Ex.sz]
          omega
        · cases h
      · cases h
  · split at h
    · rename_i n r1 hn
      have := nameR_len hn
      split at h
      · rename_i ps r2 hp
        have := somePartsR_sh hE _ _ _ hp
        injection h with h
        injection h with h1 h2
        subst h1 h2
        rw [Ex.sz]
        omega
      · cases h
    · cases h
theorem callR_sh {E Em : Rd1 Ex} (hE : Sh E) (hm : Sh Em) : Sh (callR E Em) := by
  intro l e r h
  have hl := tw_len isLet l
  unfold callR at h
  split at h
  · split at h
    · rename_i ps r1 hp
      have := partsR_sh hE hp
      split at h
      · injection h with h
        injection h with h1 h2
        subst h1 h2
        rw [Ex.sz]
        omega
      · cases h
    · cases h
  · split at h
    · split at h
      · rename_i c
        have := tk1 c
        split at h
        · rename_i p r1 hp
          have := placeR_sh hm _ _ _ hp
          split at h
          · split at h
            · rename_i c2
              have := tk1 c2
              split at h
              · rename_i e2 r2 he
                have := hE _ _ _ he
                split at h
                · rename_i c3
                  have := tk1 c3
                  injection h with h
                  injection h with h1 h2
                  subst h1 h2
                  rw [Ex.sz, szS, szS, szS]
                  omega
                · cases h
              · cases h
            · cases h
          · split at h
            · rename_i c3
              have := tk1 c3
              injection h with h
              injection h with h1 h2
              subst h1 h2
              rw [Ex.sz, szS, szS]
              omega
            · cases h
        · cases h
      · cases h
    · cases h
theorem underR_sh {S E : Rd1 Ex} (hS : Sh S) (hE : Sh E) : Sh (underR S E) := by
  intro l e r h
  unfold underR at h
  split at h
  · rename_i c
    have := tk1 c
    split at h
    · rename_i e1 r1 he
      have := hE _ _ _ he
      split at h
      · split at h
        · rename_i c2
          have := tk1 c2
          injection h with h
          injection h with h1 h2
          subst h1 h2
          omega
        · cases h
      · cases h
    · cases h
  · exact hS _ _ _ h
theorem quotedR_ne {l : Tx} (h : quotedR l ≠ none) : l ≠ [] := by
  rintro rfl
  exact h rfl
theorem singleR_sh {S E Em : Rd1 Ex} (hS : Sh S) (hE : Sh E) (hm : Sh Em) (hw : ∀ l w r, worthR l = some (w, r) → r.length + 1 ≤ l.length) : Sh (singleR S E Em) := by
  intro l e r h
  unfold singleR at h
  split at h
  · split at h
    · rename_i w r1 hr
      have := hw _ _ _ hr
      injection h with h
      injection h with h1 h2
      subst h1 h2
      rw [Ex.sz]
      omega
    · cases h
  · split at h
    · rename_i c
      have := tk1 c
      split at h
      · rename_i e1 r1 he
        have := underR_sh hS hE _ _ _ he
        injection h with h
        injection h with h1 h2
        subst h1 h2
        rw [Ex.sz]
        omega
      · cases h
    · split at h
      · rename_i c
        have := tk1 c
        split at h
        · rename_i e1 r1 he
          have := underR_sh hS hE _ _ _ he
          injection h with h
          injection h with h1 h2
          subst h1 h2
          rw [Ex.sz]
          omega
        · cases h
      · split at h
        · rename_i c
          have := tk1 c
          have := callR_sh hE hm _ _ _ h
          omega
        · exact placeR_sh hE _ _ _ h
theorem opsTail_sh {U : Rd1 Ex} (hU : Sh U) : ∀ (k : Nat) (f : Ex) (l : Tx) (g : Ex) (r : Tx), opsTail U k f l = some (g, r) → g.sz + r.length ≤ f.sz + l.length
  | 0, f, l, g, r, h => by
    rw [opsTail] at h
    split at h
    · cases h
    · injection h with h
      injection h with h1 h2
      subst h1 h2
      omega
  | k + 1, f, l, g, r, h => by
    rw [opsTail] at h
    split at h
    · rename_i c
      have := tkAny c
      split at h
      · rename_i e r1 he
        have := hU _ _ _ he
        have := opsTail_sh hU k _ _ _ _ h
        rw [Ex.sz] at this
        omega
      · cases h
    · injection h with h
      injection h with h1 h2
      subst h1 h2
      omega
theorem exprR_sh {n : Nat} {S U : Rd1 Ex} (hS : Sh S) (hU : Sh U) : Sh (exprR n S U) := by
  intro l e r h
  unfold exprR at h
  split at h
  · rename_i s r1 hs
    have := hS _ _ _ hs
    split at h
    · split at h
      · rename_i f r2 hf
        have := opsTail_sh hU _ _ _ _ _ hf
        split at h
        · injection h with h
          injection h with h1 h2
          subst h1 h2
          omega
        · cases h
      · cases h
    · injection h with h
      injection h with h1 h2
      subst h1 h2
      omega
  · cases h
theorem qBody_le : ∀ (n : Nat) (l : Tx) (a r : Tx), l.length ≤ n → qBody l = some (a, r) → r.length ≤ l.length
  | 0, [], a, r, _, h => by rw [qBody] at h; cases h
  | n + 1, [], a, r, _, h => by rw [qBody] at h; cases h
  | 0, c :: l, a, r, hn, h => by simp at hn
  | n + 1, c :: l, a, r, hn, h => by
    have hn' : l.length ≤ n := by simpa using hn
    rw [qBody.eq_def] at h
    simp only at h
    split at h
    · split at h
      · rename_i r2
        cases hq : qBody r2 with
        | none => rw [hq] at h; cases h
        | some q =>
          rw [hq] at h
          injection h with h
          injection h with h1 h2
          subst h2
          have := qBody_le n r2 q.1 q.2 (by simp at hn'; omega) hq
          simp
          omega
      · injection h with h
        injection h with h1 h2
        subst h2
        simp
    · cases hq : qBody l with
      | none => rw [hq] at h; cases h
      | some q =>
        rw [hq] at h
        injection h with h
        injection h with h1 h2
        subst h2
        have := qBody_le n l q.1 q.2 hn' hq
        simp
        omega
theorem worthR_len : ∀ l w r, worthR l = some (w, r) → r.length + 1 ≤ l.length := by
  intro l w r h
  unfold worthR at h
  split at h
  · rename_i c
    have := tk1 c
    split at h
    · rename_i p hp
      split at h
      · cases h
      · injection h with h
        subst h
        unfold quotedR at hp
        cases l with
        | nil => cases hp
        | cons d l =>
          simp only at hp
          split at hp
          · cases hq : qBody l with
            | none => rw [hq] at hp; cases hp
            | some q =>
              rw [hq] at hp
              simp only at hp
              split at hp
              · injection hp with hp
                subst hp
                have := qBody_le l.length l _ _ (Nat.le_refl _) hq
                simp
                omega
              · cases hp
          · cases hp
    · cases h
  · split at h
    · rename_i c
      injection h with h
      injection h with h1 h2
      subst h1 h2
      have := tw_len isFig l
      have h2 : (l.takeWhile isFig).length ≠ 0 := by
        intro e
        have e2 := List.eq_nil_of_length_eq_zero e
        rw [e2] at c
        exact absurd c (by decide)
      omega
    · cases h
theorem lvl_sh : ∀ n, Sh (lvl n).1 ∧ Sh (lvl n).2.1 ∧ Sh (lvl n).2.2
  | 0 => ⟨fun _ _ _ h => (by cases h), fun _ _ _ h => (by cases h), fun _ _ _ h => (by cases h)⟩
  | n + 1 => by
    obtain ⟨h1, h2, h3⟩ := lvl_sh n
    have h4 := singleR_sh h1 h2 h3 worthR_len
    exact ⟨h4, exprR_sh h4 (underR_sh h1 h2), h2⟩
theorem sgR_sh (n : Nat) : Sh (sgR n) := (lvl_sh n).1
theorem exR_sh (n : Nat) : Sh (exR n) := (lvl_sh n).2.1
end Sk

/-! ## SkQ -/
namespace Sk
open PySem PySem.Spec PyProof.Rows L2
/-! ### the mirror: programs, arrays -/
def itemsTail (sep : Tx) (I : Rd1 PyData) : Nat → Rd1 (List PyData)
  | 0, _ => none
  | f + 1, l => if sep.isPrefixOf l = true then (match I (l.drop sep.length) with
      | some (d, r1) => (match itemsTail sep I f r1 with
        | some (ds, r2) => some (d :: ds, r2)
        | none => none)
      | none => none) else some ([], l)
def itemsR (sep : Tx) (I : Rd1 PyData) : Rd1 (List PyData) := fun l => match I l with
  | some (d, r1) => (match itemsTail sep I (r1.length + 1) r1 with
    | some (ds, r2) => some (d :: ds, r2)
    | none => none)
  | none => none
def nameD : Rd1 PyData := fun l => match nameR l with
  | some (n, r) => some (.str (St n), r)
  | none => none
def namesR : Rd1 (List PyData) := itemsR [44] nameD
def worthD : Rd1 PyData := fun l => match worthR l with
  | some (n, r) => some (.str (St n), r)
  | none => none
/-- what a reader reads, behind a sign that must come -/
def past {α : Type} (c : Nat) (R : Rd1 α) : Rd1 α := fun l => if l.take 1 = [c] then R (l.drop 1) else none
def forR : Rd1 PyData := fun l => match nameR l with
  | some (n, r) => (match past 61 (exR 40) r with
    | some (a, r) => (match past 58 (exR 40) r with
      | some (b, r) => (match past 58 (exR 40) r with
        | some (c, r) => some (.tuple [.str "for", .str (St n), a.toD, b.toD, c.toD], r)
        | none => none)
      | none => none)
    | none => none)
  | none => none
def aloneL : List Str := ["else", "quit", "start", "keep", "undo", "halt"]
def word1L : List Str := ["kill", "lock", "free"]
def word2L : List Str := ["write", "if"]
/-- behind the word w and the blank -/
def deedB (w : Tx) : Rd1 PyData := fun l =>
  if St w ∈ word1L then (match placeR (exR 39) l with
    | some (e, r) => some (.tuple [.str (St w), e.toD], r)
    | none => none)
  else if St w ∈ word2L then (match exR 40 l with
    | some (e, r) => some (.tuple [.str (St w), e.toD], r)
    | none => none)
  else if w = tl "set" then (match placeR (exR 39) l with
    | some (e, r) => (match past 61 (exR 40) r with
      | some (f, r) => some (.tuple [.str (St w), e.toD, f.toD], r)
      | none => none)
    | none => none)
  else if w = tl "for" then forR l
  else if w = tl "do" then (match nameR l with
    | some (n, r) => (match somePartsR (exR 40) r with
      | some (es, r) => some (.tuple [.str (St w), .str (St n), .list (toDs es)], r)
      | none => none)
    | none => none)
  else if w = tl "new" then (match namesR l with
    | some (ns, r) => some (.tuple [.str (St w), .list ns], r)
    | none => none)
  else none
def deedR : Rd1 PyData := fun l =>
  if St (l.takeWhile isLet) ∈ aloneL then some (.tuple [.str (St (l.takeWhile isLet))], l.dropWhile isLet)
  else if l.takeWhile isLet = tl "free" ∧ ¬ (l.dropWhile isLet).take 1 = [32] then some (.tuple [.str "free_all"], l.dropWhile isLet)
  else past 32 (deedB (l.takeWhile isLet)) (l.dropWhile isLet)
/-- the end of a thing -/
def thenC {α : Type} (R : Rd1 α) (c : Nat) : Rd1 α := fun l => match R l with
  | some (a, r) => if r.take 1 = [c] then some (a, r.drop 1) else none
  | none => none
def rowR : Rd1 (List PyData) := thenC (fun l => if l.take 1 = [124] then some ([], l) else itemsR [59, 32] deedR l) 124
def rowD : Rd1 PyData := fun l => match rowR l with
  | some (ds, r) => some (.list ds, r)
  | none => none
def paramsR : Rd1 (List PyData) := fun l => if l.take 1 = [40] then thenC namesR 41 (l.drop 1) else some ([], l)
def labelR : Rd1 PyData := fun l => match nameR l with
  | some (n, r) => (match paramsR r with
    | some (ps, r) => (match past 124 (fun l => itemsTail [32, 32] rowD (l.length + 1) l) r with
      | some (rows, r) => some (.tuple [.str (St n), .list ps, .list rows], r)
      | none => none)
    | none => none)
  | none => none
def progT : Nat → Tx → Option (List PyData)
  | 0, _ => none
  | f + 1, l => if l = [] then some [] else (match labelR l with
    | some (d, r) => (match progT f r with
      | some ds => some (d :: ds)
      | none => none)
    | none => none)
def progR (l : Tx) : Option (List PyData) := progT (l.length + 1) l
def keysR : Rd1 (List PyData) := fun l => if l.take 1 = [40] then thenC (itemsR [44] worthD) 41 (l.drop 1) else some ([], l)
/-- name, keys, worth -/
def nodeR : Rd1 (Tx × List PyData × Tx) := past 94 fun l => match nameR l with
  | some (n, r) => (match keysR r with
    | some (ks, r) => (match past 61 quotedR r with
      | some (w, r) => some ((n, ks, w), r)
      | none => none)
    | none => none)
  | none => none
/-- what is left of reading items -/
def itR (sep : Tx) (I : Rd1 PyData) (f : Nat) (l : Tx) (ds : List PyData) : Option (List PyData × Tx) := match itemsTail sep I f l with
  | some (ds', r2) => some (ds ++ ds', r2)
  | none => none
theorem itR_end {sep : Tx} {I : Rd1 PyData} {f : Nat} {l : Tx} {ds : List PyData} (h : sep.isPrefixOf l = false) : itR sep I (f + 1) l ds = some (ds, l) := by
  unfold itR
  rw [itemsTail, if_neg (by rw [h]; decide)]
  simp
theorem itR_more {sep : Tx} {I : Rd1 PyData} {f : Nat} {l : Tx} {ds : List PyData} (h : sep.isPrefixOf l = true) : itR sep I (f + 1) l ds = match I (l.drop sep.length) with
    | some (d, r) => itR sep I f r (ds ++ [d])
    | none => none := by
  unfold itR
  rw [itemsTail, if_pos h]
  cases I (l.drop sep.length) with
  | none => rfl
  | some q =>
    obtain ⟨e, r⟩ := q
    simp only
    cases itemsTail sep I f r with
    | none => rfl
    | some q =>
      obtain ⟨es', r2⟩ := q
      simp
theorem itemsR_eq {sep : Tx} {I : Rd1 PyData} {l : Tx} : itemsR sep I l = match I l with
    | some (d, r) => itR sep I (r.length + 1) r [d]
    | none => none := by
  unfold itemsR itR
  rfl
theorem itemsT_eq {sep : Tx} {I : Rd1 PyData} {f : Nat} {l : Tx} : itemsTail sep I f l = itR sep I f l [] := by
  unfold itR
  cases itemsTail sep I f l with
  | none => rfl
  | some q => rfl
def prT (f : Nat) (l : Tx) (ds : List PyData) : Option (List PyData) := match progT f l with
  | some ds' => some (ds ++ ds')
  | none => none
theorem prT_end {f : Nat} {ds : List PyData} : prT (f + 1) [] ds = some ds := by
  unfold prT
  rw [progT, if_pos rfl]
  simp
theorem prT_more {f : Nat} {l : Tx} {ds : List PyData} (h : ¬ l = []) : prT (f + 1) l ds = match labelR l with
    | some (d, r) => prT f r (ds ++ [d])
    | none => none := by
  unfold prT
  rw [progT, if_neg h]
  cases labelR l with
  | none => rfl
  | some q =>
    obtain ⟨e, r⟩ := q
    simp only
    cases progT f r with
    | none => rfl
    | some ds' => simp
theorem progR_eq {l : Tx} : progR l = prT (l.length + 1) l [] := by
  unfold prT progR
  cases progT (l.length + 1) l <;> rfl
end Sk

/-! ## SkS -/
namespace Sk
open PySem PySem.Spec PyProof.Rows L2
/-! ### how expressions are written, and that this is read back -/
mutual
def showE : Ex → Tx
  | .is w => shownW w
  | .var n ps => n ++ showP ps
  | .at_ n ps => 94 :: (n ++ showP ps)
  | .short ps => 94 :: showP ps
  | .op s a b => showE a ++ s :: (if b.isOpX then 40 :: (showE b ++ [41]) else showE b)
  | .not a => 39 :: (if a.isOpX then 40 :: (showE a ++ [41]) else showE a)
  | .minus a => 45 :: (if a.isOpX then 40 :: (showE a ++ [41]) else showE a)
  | .call n ps => 36 :: (n ++ showP ps)
def showP : List Ex → Tx
  | [] => []
  | e :: r => 40 :: (showE e ++ showT r)
/-- behind the first part -/
def showT : List Ex → Tx
  | [] => [41]
  | e :: r => 44 :: (showE e ++ showT r)
end
def undS (a : Ex) : Tx := if a.isOpX then 40 :: (showE a ++ [41]) else showE a
def Ex.isPl : Ex → Bool
  | .var .. => true
  | .at_ .. => true
  | .short .. => true
  | _ => false
/-- the parts of a call -/
def callOk (n : Tx) (ps : List Ex) : Bool := match callsN n with
  | some k => decide (ps.length = k)
  | none => (isPlaceW n && (match ps with
    | [p] => p.isPl
    | _ => false)) || (decide (n = tl "other") && (match ps with
    | [p, _] => p.isPl
    | _ => false))
mutual
def Ex.wf : Ex → Bool
  | .is w => isWorthT w
  | .var n ps => isNameT n && wfS ps
  | .at_ n ps => isNameT n && wfS ps
  | .short ps => decide (ps ≠ []) && wfS ps
  | .op s a b => isOp s && (a.wf && b.wf)
  | .not a => a.wf
  | .minus a => a.wf
  | .call n ps => callOk n ps && wfS ps
def wfS : List Ex → Bool
  | [] => true
  | e :: r => e.wf && wfS r
end
theorem wfS_mem : ∀ {es : List Ex}, wfS es = true ↔ ∀ e ∈ es, e.wf = true
  | [] => by rw [wfS]; simp
  | e :: r => by rw [wfS, Bool.and_eq_true, wfS_mem (es := r)]; simp
/-- what may stand behind a single expression, behind an expression -/
def stopS (r : Tx) : Prop := ∀ c ∈ r.head?, isLet c = false ∧ isFig c = false ∧ c ≠ 34 ∧ c ≠ 40
def stopE (r : Tx) : Prop := stopS r ∧ ∀ c ∈ r.head?, isOp c = false
theorem stop_nil : stopE [] := ⟨fun _ h => by simp at h, fun _ h => by simp at h⟩
theorem stop_of {c : Nat} {r : Tx} (h1 : isLet c = false) (h2 : isFig c = false) (h3 : c ≠ 34) (h4 : c ≠ 40) (h5 : isOp c = false) : stopE (c :: r) :=
  ⟨fun d h => by simp at h; subst h; exact ⟨h1, h2, h3, h4⟩, fun d h => by simp at h; subst h; exact h5⟩
theorem op_cases {c : Nat} (h : isOp c = true) : isLet c = false ∧ isFig c = false ∧ c ≠ 34 ∧ c ≠ 40 := by
  have h1 : c ∈ opsL := of_decide_eq_true h
  have : ∀ d ∈ opsL, isLet d = false ∧ isFig d = false ∧ d ≠ 34 ∧ d ≠ 40 := by decide +kernel
  exact this c h1
theorem stop_op {c : Nat} {r : Tx} (h : isOp c = true) : stopS (c :: r) := fun d hd => by
  simp at hd
  subst hd
  exact op_cases h
theorem stop_co {r : Tx} : stopE (44 :: r) := stop_of (by decide +kernel) (by decide +kernel) (by decide) (by decide) (by decide +kernel)
theorem stop_rp {r : Tx} : stopE (41 :: r) := stop_of (by decide +kernel) (by decide +kernel) (by decide) (by decide) (by decide +kernel)
theorem tw_app {f : Nat → Bool} {n r : Tx} (h : n.all f = true) (hr : ∀ c ∈ r.head?, f c = false) : (n ++ r).takeWhile f = n ∧ (n ++ r).dropWhile f = r := by
  induction n with
  | nil =>
    cases r with
    | nil => exact ⟨rfl, rfl⟩
    | cons c r =>
      have := hr c (by simp)
      simp [List.takeWhile_cons, List.dropWhile_cons, this]
  | cons c n ih =>
    rw [List.all_cons, Bool.and_eq_true] at h
    obtain ⟨i1, i2⟩ := ih h.2
    simp [List.takeWhile_cons, List.dropWhile_cons, h.1, i1, i2]
theorem nameR_app {n r : Tx} (h : isNameT n = true) (hr : ∀ c ∈ r.head?, isLet c = false) : nameR (n ++ r) = some (n, r) := by
  have ha : n.all isLet = true := by
    unfold isNameT at h
    rw [Bool.and_eq_true] at h
    exact h.2
  obtain ⟨e1, e2⟩ := tw_app ha hr
  unfold nameR
  rw [e1, e2, if_pos h]
theorem qBody_dbl : ∀ (w r : Tx), (∀ c ∈ r.head?, c ≠ 34) → qBody (dblQ w ++ 34 :: r) = some (w, r)
  | [], r, h => by
    rw [dblQ, List.nil_append, qBody.eq_def]
    simp only [↓reduceIte]
    cases r with
    | nil => rfl
    | cons c r =>
      have := h c (by simp)
      split
      · rename_i heq
        injection heq with heq _
        exact absurd heq this
      · rfl
  | c :: w, r, h => by
    rw [dblQ]
    by_cases hc : c = 34
    · subst hc
      rw [if_pos rfl, List.cons_append, List.cons_append, qBody.eq_def]
      simp only [↓reduceIte]
      rw [qBody_dbl w r h]
      rfl
    · rw [if_neg hc, List.cons_append, qBody.eq_def]
      simp only
      rw [if_neg hc, qBody_dbl w r h]
      rfl
theorem quotedR_app {w r : Tx} (h : isWorthT w = true) (hr : ∀ c ∈ r.head?, c ≠ 34) : quotedR (quotedW w ++ r) = some (w, r) := by
  unfold quotedW quotedR
  rw [List.cons_append]
  simp only [↓reduceIte]
  rw [List.append_assoc]
  have e : [34] ++ r = 34 :: r := rfl
  rw [e, qBody_dbl w r hr]
  simp only
  rw [if_pos h]
theorem dblQ_ge : ∀ l : Tx, l.length ≤ (dblQ l).length
  | [] => Nat.le_refl _
  | c :: r => by
    have := dblQ_ge r
    unfold dblQ
    split <;> simp <;> omega
theorem quotedW_ne (w : Tx) : quotedW w ≠ w := fun e => by
  have h := congrArg List.length e
  unfold quotedW at h
  have := dblQ_ge w
  simp at h
  omega
/-- a number's own text from 0 on -/
def isOwnT (w : Tx) : Bool := isNumT w && decide (w.take 1 ≠ [45])
theorem own_all {w : Tx} (h : isOwnT w = true) : w ≠ [] ∧ w.all isFig = true := by
  unfold isOwnT at h
  rw [Bool.and_eq_true, decide_eq_true_eq] at h
  obtain ⟨h1, h2⟩ := h
  unfold isNumT at h1
  have ef : figsOf w = w := by unfold figsOf; rw [if_neg h2]
  rw [ef] at h1
  split at h1
  · cases h1
  · rename_i c
    have c1 : ¬ w = [] := fun e => c (.inl e)
    have c2 : ¬ (w.takeWhile isFig).length < w.length := fun e => c (.inr e)
    refine ⟨c1, ?_⟩
    have e : w.takeWhile isFig = w := (List.takeWhile_prefix isFig).eq_of_length (by have := (List.takeWhile_prefix (l := w) isFig).length_le; omega)
    rw [← e]
    exact List.all_takeWhile
theorem shownW_own {w : Tx} (h : isOwnT w = true) : shownW w = w := by unfold shownW isOwnT at *; rw [if_pos h]
theorem shownW_q {w : Tx} (h : isOwnT w = false) : shownW w = quotedW w := by unfold shownW isOwnT at *; rw [h]; rfl
theorem fig_ne {c : Nat} (h : isFig c = true) : c ≠ 34 := fun e => by subst e; revert h; decide +kernel
theorem worthR_app {w r : Tx} (h : isWorthT w = true) (hr : stopS r) : worthR (shownW w ++ r) = some (w, r) := by
  cases ho : isOwnT w with
  | true =>
    obtain ⟨h1, h2⟩ := own_all ho
    rw [shownW_own ho]
    obtain ⟨e1, e2⟩ := tw_app h2 fun c hc => (hr c hc).2.1
    have hn : ¬ (w ++ r).take 1 = [34] := by
      cases w with
      | nil => exact absurd rfl h1
      | cons c w =>
        rw [List.all_cons, Bool.and_eq_true] at h2
        have := fig_ne h2.1
        simpa using this
    unfold worthR
    rw [if_neg hn, e1, e2, if_pos]
    unfold isOwnT at ho
    rw [Bool.and_eq_true] at ho
    exact ho.1
  | false =>
    rw [shownW_q ho]
    unfold worthR
    rw [if_pos (by unfold quotedW; rfl), quotedR_app h fun c hc => (hr c hc).2.2.1]
    simp only
    rw [if_neg]
    rw [shownW_q ho]
    exact quotedW_ne w
theorem shownW_hd (w : Tx) : (shownW w ≠ []) ∧ ∀ r, (shownW w ++ r).take 1 = [34] ∨ ((shownW w ++ r).take 1).any isFig = true := by
  cases ho : isOwnT w with
  | true =>
    obtain ⟨h1, h2⟩ := own_all ho
    rw [shownW_own ho]
    refine ⟨h1, fun r => .inr ?_⟩
    cases w with
    | nil => exact absurd rfl h1
    | cons c w =>
      rw [List.all_cons, Bool.and_eq_true] at h2
      simpa using h2.1
  | false =>
    rw [shownW_q ho]
    exact ⟨by unfold quotedW; simp, fun r => .inl (by unfold quotedW; rfl)⟩
/-- the first sign of a name -/
theorem name_hd {n : Tx} (h : isNameT n = true) : ∃ c t, n = c :: t ∧ isLet c = true := by
  unfold isNameT at h
  rw [Bool.and_eq_true, decide_eq_true_eq] at h
  cases n with
  | nil => simp at h
  | cons c t =>
    rw [List.all_cons, Bool.and_eq_true] at h
    exact ⟨c, t, rfl, h.2.1⟩
theorem let_cases {c : Nat} (h : isLet c = true) : c ≠ 34 ∧ isFig c = false ∧ c ≠ 39 ∧ c ≠ 45 ∧ c ≠ 36 ∧ c ≠ 94 ∧ c ≠ 40 := by
  have h1 : c ∈ letters := of_decide_eq_true h
  have : ∀ d ∈ letters, d ≠ 34 ∧ isFig d = false ∧ d ≠ 39 ∧ d ≠ 45 ∧ d ≠ 36 ∧ d ≠ 94 ∧ d ≠ 40 := by decide +kernel
  exact this c h1
/-! parts -/
def Good (E : Rd1 Ex) (es : List Ex) : Prop := ∀ e ∈ es, ∀ r, stopE r → E (showE e ++ r) = some (e, r)
theorem partsTail_app {E : Rd1 Ex} : ∀ {es : List Ex} {r : Tx} {f : Nat}, Good E es → es.length < f → partsTail E f (showT es ++ r) = some (es, 41 :: r)
  | [], r, 0, _, h => by simp at h
  | [], r, f + 1, _, _ => by
    rw [showT, partsTail, if_neg (by simp)]
    rfl
  | e :: es, r, 0, _, h => by simp at h
  | e :: es, r, f + 1, g, h => by
    rw [showT, partsTail, List.cons_append, List.append_assoc, if_pos (by simp)]
    have hst : stopE (showT es ++ r) := by
      cases es with
      | nil => exact stop_rp
      | cons e2 es2 => rw [showT]; exact stop_co
    simp only [List.drop_succ_cons, List.drop_zero]
    rw [g e (by simp) _ hst]
    simp only
    rw [partsTail_app (fun e he => g e (List.mem_cons_of_mem _ he)) (by simp at h; omega)]
theorem showT_len : ∀ es : List Ex, es.length < (showT es).length
  | [] => by rw [showT]; simp
  | e :: r => by
    have := showT_len r
    rw [showT]
    simp
    omega
theorem partsR_app {E : Rd1 Ex} {e : Ex} {es : List Ex} {r : Tx} (g : Good E (e :: es)) : partsR E (showP (e :: es) ++ r) = some (e :: es, r) := by
  unfold partsR
  rw [showP, List.cons_append, List.append_assoc, if_pos (by simp)]
  have hst : stopE (showT es ++ r) := by
    cases es with
    | nil => exact stop_rp
    | cons e2 es2 => rw [showT]; exact stop_co
  simp only [List.drop_succ_cons, List.drop_zero]
  rw [g e (by simp) _ hst]
  simp only
  rw [partsTail_app (fun e he => g e (List.mem_cons_of_mem _ he)) (by have := showT_len es; simp; omega)]
  simp
theorem somePartsR_app {E : Rd1 Ex} {es : List Ex} {r : Tx} (g : Good E es) (hr : ∀ c ∈ r.head?, c ≠ 40) : somePartsR E (showP es ++ r) = some (es, r) := by
  unfold somePartsR
  cases es with
  | nil =>
    rw [showP, List.nil_append, if_neg]
    cases r with
    | nil => simp
    | cons c r => simpa using hr c (by simp)
  | cons e es =>
    rw [if_pos (by rw [showP]; simp), partsR_app g]
theorem showP_hd (ps : List Ex) (r : Tx) (hr : stopS r) : ∀ c ∈ (showP ps ++ r).head?, isLet c = false := by
  cases ps with
  | nil => rw [showP]; exact fun c hc => (hr c hc).1
  | cons e es =>
    rw [showP]
    intro c hc
    simp at hc
    subst hc
    decide +kernel
theorem up_let : isLet 40 = false := by decide +kernel
theorem placeR_app {E : Rd1 Ex} {p : Ex} {r : Tx} (hp : p.isPl = true) (hw : p.wf = true) (g : ∀ ps, (∃ n, p = .var n ps ∨ p = .at_ n ps) ∨ p = .short ps → Good E ps) (hr : stopS r) : placeR E (showE p ++ r) = some (p, r) := by
  cases p with
  | var n ps =>
    rw [Ex.wf, Bool.and_eq_true] at hw
    obtain ⟨c, t, rfl, hc⟩ := name_hd hw.1
    rw [showE, List.append_assoc]
    unfold placeR
    rw [if_neg (by simpa using (let_cases hc).2.2.2.2.2.1), nameR_app hw.1 (showP_hd ps r hr)]
    simp only
    rw [somePartsR_app (g ps (.inl ⟨_, .inl rfl⟩)) fun c hc => (hr c hc).2.2.2]
  | at_ n ps =>
    rw [Ex.wf, Bool.and_eq_true] at hw
    obtain ⟨c, t, rfl, hc⟩ := name_hd hw.1
    rw [showE, List.cons_append, List.append_assoc]
    unfold placeR
    rw [if_pos (by simp)]
    simp only [List.drop_succ_cons, List.drop_zero]
    rw [if_neg (by simpa using (let_cases hc).2.2.2.2.2.2), nameR_app hw.1 (showP_hd ps r hr)]
    simp only
    rw [somePartsR_app (g ps (.inl ⟨_, .inr rfl⟩)) fun c hc => (hr c hc).2.2.2]
  | short ps =>
    rw [Ex.wf, Bool.and_eq_true, decide_eq_true_eq] at hw
    rw [showE, List.cons_append]
    unfold placeR
    rw [if_pos (by simp)]
    simp only [List.drop_succ_cons, List.drop_zero]
    cases ps with
    | nil => exact absurd rfl hw.1
    | cons e es =>
      rw [if_pos (by rw [showP]; simp), partsR_app (g _ (.inr rfl))]
  | _ => cases hp
theorem call_names {n : Tx} (h : callsN n ≠ none ∨ isPlaceW n = true ∨ n = tl "other") : n.all isLet = true := by
  rcases h with h | h | h
  · unfold callsN at h
    split at h
    · rename_i e; rw [e]; decide +kernel
    · split at h
      · rename_i e; rw [e]; decide +kernel
      · split at h
        · rename_i e; rw [e]; decide +kernel
        · exact absurd rfl h
  · unfold isPlaceW at h
    simp only [Bool.or_eq_true, decide_eq_true_eq] at h
    rcases h with (h | h) | h <;> rw [h] <;> decide +kernel
  · rw [h]; decide +kernel
theorem callR_app {E Em : Rd1 Ex} {n : Tx} {ps : List Ex} {r : Tx} (hc : callOk n ps = true) (hw : wfS ps = true) (g : Good E ps) (gm : ∀ p ∈ ps, p.isPl = true → ∀ qs, (∃ n, p = .var n qs ∨ p = .at_ n qs) ∨ p = .short qs → Good Em qs) :
    callR E Em (n ++ (showP ps ++ r)) = some (.call n ps, r) := by
  unfold callOk at hc
  have hl : n.all isLet = true := by
    apply call_names
    cases h : callsN n with
    | some k => exact .inl nofun
    | none =>
      rw [h] at hc
      simp only [Bool.or_eq_true, Bool.and_eq_true, decide_eq_true_eq] at hc
      rcases hc with hc | hc
      · exact .inr (.inl hc.1)
      · exact .inr (.inr hc.1)
  have hne : ps ≠ [] := by
    rintro rfl
    cases h : callsN n with
    | some k =>
      rw [h] at hc
      simp only [decide_eq_true_eq, List.length_nil] at hc
      unfold callsN at h
      split at h
      · injection h; omega
      · split at h
        · injection h; omega
        · split at h
          · injection h; omega
          · cases h
    | none =>
      rw [h] at hc
      simp at hc
  obtain ⟨e, es, rfl⟩ : ∃ e es, ps = e :: es := by
    cases ps with
    | nil => exact absurd rfl hne
    | cons e es => exact ⟨e, es, rfl⟩
  obtain ⟨e1, e2⟩ := tw_app (r := showP (e :: es) ++ r) hl fun c hc => by
    rw [showP] at hc
    simp at hc
    subst hc
    exact up_let
  unfold callR
  rw [e1, e2]
  cases h : callsN n with
  | some k =>
    rw [h] at hc
    simp only [decide_eq_true_eq] at hc
    simp only
    rw [partsR_app g]
    simp only
    rw [if_pos hc]
  | none =>
    rw [h] at hc
    simp only [Bool.or_eq_true, Bool.and_eq_true, decide_eq_true_eq] at hc
    simp only
    rw [if_pos (by rcases hc with hc | hc <;> simp [hc.1])]
    rw [if_pos (by rw [showP]; simp)]
    rw [wfS, Bool.and_eq_true] at hw
    have hpl : e.isPl = true := by
      rcases hc with hc | hc
      · cases es with
        | nil => exact hc.2
        | cons _ _ => cases hc.2
      · cases es with
        | nil => cases hc.2
        | cons _ es =>
          cases es with
          | nil => exact hc.2
          | cons _ _ => cases hc.2
    rw [showP, List.cons_append, List.append_assoc]
    simp only [List.drop_succ_cons, List.drop_zero]
    have hst : stopS (showT es ++ r) := by
      cases es with
      | nil => exact stop_rp.1
      | cons e2 es2 => rw [showT]; exact stop_co.1
    rw [placeR_app hpl hw.1 (gm e (by simp) hpl) hst]
    simp only
    rcases hc with hc | hc
    · cases es with
      | cons _ _ => cases hc.2
      | nil =>
        have ho : ¬ n = tl "other" := fun e => by
          rw [e] at hc
          exact absurd hc.1 (by decide +kernel)
        rw [if_neg ho, showT]
        rfl
    · cases es with
      | nil => cases hc.2
      | cons e3 es =>
        cases es with
        | cons _ _ => cases hc.2
        | nil =>
          rw [if_pos hc.1, showT, List.cons_append, List.append_assoc, if_pos (by simp)]
          simp only [List.drop_succ_cons, List.drop_zero]
          rw [g e3 (by simp) _ (by rw [showT]; exact stop_rp)]
          simp only
          rw [showT]
          rfl
/-! the chain of signs -/
def Lef : Ex → Ex
  | .op _ a _ => Lef a
  | e => e
def cnt : Ex → Nat
  | .op _ a _ => cnt a + 1
  | _ => 0
def chainT : Ex → Tx
  | .op s a b => chainT a ++ s :: undS b
  | _ => []
theorem show_lef : ∀ e : Ex, showE e = showE (Lef e) ++ chainT e
  | .op s a b => by
    rw [showE, show_lef a, Lef, chainT, List.append_assoc]
    rfl
  | .is _ => (List.append_nil _).symm
  | .var _ _ => (List.append_nil _).symm
  | .at_ _ _ => (List.append_nil _).symm
  | .short _ => (List.append_nil _).symm
  | .not _ => (List.append_nil _).symm
  | .minus _ => (List.append_nil _).symm
  | .call _ _ => (List.append_nil _).symm
theorem lef_no : ∀ e : Ex, (Lef e).isOpX = false
  | .op _ a _ => by rw [Lef]; exact lef_no a
  | .is _ => rfl
  | .var _ _ => rfl
  | .at_ _ _ => rfl
  | .short _ => rfl
  | .not _ => rfl
  | .minus _ => rfl
  | .call _ _ => rfl
/-- right operands along the left spine -/
def rights : Ex → List Ex
  | .op _ a b => rights a ++ [b]
  | _ => []
theorem opsTail_spine {U : Rd1 Ex} : ∀ (e : Ex) (k : Nat) (r : Tx), e.wf = true → (∀ b ∈ rights e, ∀ r, stopS r → U (undS b ++ r) = some (b, r)) → stopS r →
    opsTail U (cnt e + k) (Lef e) (chainT e ++ r) = opsTail U k e r
  | .op s a b, k, r, hw, g, hr => by
    rw [Ex.wf, Bool.and_eq_true, Bool.and_eq_true] at hw
    rw [cnt, Lef, chainT, List.append_assoc, show cnt a + 1 + k = cnt a + (k + 1) by omega]
    have hs : stopS ((s :: undS b) ++ r) := stop_op hw.1
    rw [opsTail_spine a (k + 1) ((s :: undS b) ++ r) hw.2.1 (fun c hc => g c (by rw [rights]; simp [hc])) hs, opsTail, List.cons_append]
    rw [if_pos (by simpa using hw.1)]
    simp only [List.drop_succ_cons, List.drop_zero]
    rw [g b (by rw [rights]; simp) r hr]
    rfl
  | .is _, k, r, _, _, _ => by rw [show cnt _ = 0 from rfl, Nat.zero_add]; rfl
  | .var _ _, k, r, _, _, _ => by rw [show cnt _ = 0 from rfl, Nat.zero_add]; rfl
  | .at_ _ _, k, r, _, _, _ => by rw [show cnt _ = 0 from rfl, Nat.zero_add]; rfl
  | .short _, k, r, _, _, _ => by rw [show cnt _ = 0 from rfl, Nat.zero_add]; rfl
  | .not _, k, r, _, _, _ => by rw [show cnt _ = 0 from rfl, Nat.zero_add]; rfl
  | .minus _, k, r, _, _, _ => by rw [show cnt _ = 0 from rfl, Nat.zero_add]; rfl
  | .call _ _, k, r, _, _, _ => by rw [show cnt _ = 0 from rfl, Nat.zero_add]; rfl
theorem cnt_dep : ∀ e : Ex, cnt e + 1 ≤ e.dep
  | .op s a b => by
    have := cnt_dep a
    rw [cnt, Ex.dep]
    omega
  | .is _ => by rw [show cnt _ = 0 from rfl, Ex.dep]; omega
  | .var _ _ => by rw [show cnt _ = 0 from rfl, Ex.dep]; omega
  | .at_ _ _ => by rw [show cnt _ = 0 from rfl, Ex.dep]; omega
  | .short _ => by rw [show cnt _ = 0 from rfl, Ex.dep]; omega
  | .not _ => by rw [show cnt _ = 0 from rfl, Ex.dep]; omega
  | .minus _ => by rw [show cnt _ = 0 from rfl, Ex.dep]; omega
  | .call _ _ => by rw [show cnt _ = 0 from rfl, Ex.dep]; omega
theorem lef_le : ∀ e : Ex, (Lef e).dep ≤ e.dep ∧ (Lef e).sz ≤ e.sz ∧ (e.wf = true → (Lef e).wf = true)
  | .op s a b => by
    obtain ⟨h1, h2, h3⟩ := lef_le a
    rw [Lef, Ex.dep, Ex.sz, Ex.wf]
    refine ⟨by omega, by omega, fun h => ?_⟩
    rw [Bool.and_eq_true, Bool.and_eq_true] at h
    exact h3 h.2.1
  | .is _ => ⟨Nat.le_refl _, Nat.le_refl _, id⟩
  | .var _ _ => ⟨Nat.le_refl _, Nat.le_refl _, id⟩
  | .at_ _ _ => ⟨Nat.le_refl _, Nat.le_refl _, id⟩
  | .short _ => ⟨Nat.le_refl _, Nat.le_refl _, id⟩
  | .not _ => ⟨Nat.le_refl _, Nat.le_refl _, id⟩
  | .minus _ => ⟨Nat.le_refl _, Nat.le_refl _, id⟩
  | .call _ _ => ⟨Nat.le_refl _, Nat.le_refl _, id⟩
theorem rights_le : ∀ (e b : Ex), b ∈ rights e → b.dep + 1 ≤ e.dep ∧ b.sz < e.sz ∧ (e.wf = true → b.wf = true)
  | .op s a c, b, h => by
    rw [rights, List.mem_append, List.mem_singleton] at h
    rw [Ex.dep, Ex.sz, Ex.wf]
    rcases h with h | h
    · obtain ⟨h1, h2, h3⟩ := rights_le a b h
      refine ⟨by omega, by omega, fun h => ?_⟩
      rw [Bool.and_eq_true, Bool.and_eq_true] at h
      exact h3 h.2.1
    · subst h
      refine ⟨by omega, by have := sz_pos a; omega, fun h => ?_⟩
      rw [Bool.and_eq_true, Bool.and_eq_true] at h
      exact h.2.2
  | .is _, b, h => nomatch (show b ∈ ([] : List Ex) from h)
  | .var _ _, b, h => nomatch (show b ∈ ([] : List Ex) from h)
  | .at_ _ _, b, h => nomatch (show b ∈ ([] : List Ex) from h)
  | .short _, b, h => nomatch (show b ∈ ([] : List Ex) from h)
  | .not _, b, h => nomatch (show b ∈ ([] : List Ex) from h)
  | .minus _, b, h => nomatch (show b ∈ ([] : List Ex) from h)
  | .call _ _, b, h => nomatch (show b ∈ ([] : List Ex) from h)
theorem dep_pos (e : Ex) : 1 ≤ e.dep := by have := cnt_dep e; omega
theorem underR_app {S E : Rd1 Ex} {a : Ex} {r : Tx} (h1 : a.isOpX = true → ∀ r, stopE r → E (showE a ++ r) = some (a, r)) (h2 : a.isOpX = false → S (showE a ++ r) = some (a, r) ∧ ¬ (showE a ++ r).take 1 = [40]) : underR S E (undS a ++ r) = some (a, r) := by
  unfold underR undS
  cases h : a.isOpX with
  | true =>
    rw [if_pos rfl, List.cons_append, List.append_assoc, if_pos (by simp)]
    simp only [List.drop_succ_cons, List.drop_zero]
    rw [show ([41] ++ r : Tx) = 41 :: r from rfl, h1 h _ stop_rp]
    simp only
    rw [if_pos h]
    rfl
  | false =>
    rw [if_neg (show ¬ (false = true) by decide)]
    obtain ⟨e1, e2⟩ := h2 h
    rw [if_neg e2, e1]
/-- the first sign of a written expression that is no op -/
theorem show_hd {e : Ex} (hw : e.wf = true) (ho : e.isOpX = false) (r : Tx) : ¬ (showE e ++ r).take 1 = [40] := by
  cases e with
  | is w =>
    rw [showE]
    intro h
    rcases (shownW_hd w).2 r with h2 | h2
    · rw [h2] at h; cases h
    · rw [h] at h2; revert h2; decide +kernel
  | var n ps =>
    rw [Ex.wf, Bool.and_eq_true] at hw
    obtain ⟨c, t, rfl, hc⟩ := name_hd hw.1
    rw [showE]
    simpa using (let_cases hc).2.2.2.2.2.2
  | at_ n ps => rw [showE]; simp
  | short ps => rw [showE]; simp
  | op s a b => cases ho
  | not a => rw [showE]; simp
  | minus a => rw [showE]; simp
  | call n ps => rw [showE]; simp
theorem wf_pl {p : Ex} (hw : p.wf = true) {qs : List Ex} (h : (∃ n, p = .var n qs ∨ p = .at_ n qs) ∨ p = .short qs) : wfS qs = true ∧ (∀ n, p.dep ≤ n + 1 → ∀ q ∈ qs, q.dep ≤ n) ∧ ∀ q ∈ qs, q.sz < p.sz := by
  rcases h with ⟨n, h | h⟩ | h <;> subst h <;> rw [Ex.wf, Bool.and_eq_true] at hw <;> refine ⟨hw.2, fun n hd => depS_le.mp ?_, fun q hq => ?_⟩
  · rw [Ex.dep] at hd; omega
  · rw [Ex.sz]; have := szS_mem hq; omega
  · rw [Ex.dep] at hd; omega
  · rw [Ex.sz]; have := szS_mem hq; omega
  · rw [Ex.dep] at hd; omega
  · rw [Ex.sz]; have := szS_mem hq; omega
theorem read_back : ∀ (m n : Nat) (e : Ex), e.sz ≤ m → n ≤ 40 → e.wf = true → e.dep ≤ n → (e.isOpX = false → ∀ r, stopS r → sgR n (showE e ++ r) = some (e, r)) ∧ ∀ r, stopE r → exR n (showE e ++ r) = some (e, r)
  | 0, n, e, hm, _, _, _ => by have := sz_pos e; omega
  | m + 1, 0, e, _, _, _, hd => by have := dep_pos e; omega
  | m + 1, n + 1, e, hm, hn, hw, hd => by
    have sing : ∀ f : Ex, f.sz ≤ m + 1 → f.wf = true → f.dep ≤ n + 1 → f.isOpX = false → ∀ r, stopS r → sgR (n + 1) (showE f ++ r) = some (f, r) := by
      intro f hm hw hd ho r hr
      have gd : ∀ (ps : List Ex) (k : Nat), k ≤ 40 → szS ps ≤ m → wfS ps = true → depS ps ≤ k → Good (exR k) ps := fun ps k hk h1 h2 h3 p hp r hr =>
        (read_back m k p (Nat.le_trans (szS_mem hp) h1) hk (wfS_mem.mp h2 p hp) (depS_le.mp h3 p hp)).2 r hr
      have und : ∀ a : Ex, a.sz ≤ m → a.wf = true → a.dep ≤ n → ∀ r, stopS r → underR (sgR n) (exR n) (undS a ++ r) = some (a, r) := fun a h1 h2 h3 r hr =>
        underR_app (fun _ r hr => (read_back m n a h1 (by omega) h2 h3).2 r hr) fun ho => ⟨(read_back m n a h1 (by omega) h2 h3).1 ho r hr, show_hd h2 ho r⟩
      rw [sgR_succ]
      unfold singleR
      cases f with
      | op s a b => cases ho
      | is w =>
        rw [Ex.wf] at hw
        rw [showE, if_pos ((shownW_hd w).2 r), worthR_app hw hr]
      | var k ps =>
        have hw' := hw
        rw [Ex.wf, Bool.and_eq_true] at hw
        rw [Ex.sz] at hm
        rw [Ex.dep] at hd
        obtain ⟨c, t, e1, hc⟩ := name_hd hw.1
        have lc := let_cases hc
        have hh : (showE (.var k ps) ++ r).take 1 = [c] := by rw [showE, e1]; rfl
        rw [hh]
        rw [if_neg (by simp [lc.1, lc.2.1]), if_neg (by simpa using lc.2.2.1), if_neg (by simpa using lc.2.2.2.1), if_neg (by simpa using lc.2.2.2.2.1)]
        refine placeR_app rfl hw' (fun qs h => ?_) hr
        rcases h with ⟨x, h | h⟩ | h <;> injection h
        rename_i _ h
        subst h
        exact gd _ n (by omega) (by omega) hw.2 (by omega)
      | at_ k ps =>
        have hw' := hw
        rw [Ex.wf, Bool.and_eq_true] at hw
        rw [Ex.sz] at hm
        rw [Ex.dep] at hd
        have hh : (showE (.at_ k ps) ++ r).take 1 = [94] := by rw [showE]; rfl
        rw [hh]
        rw [if_neg (by decide +kernel), if_neg (by decide), if_neg (by decide), if_neg (by decide)]
        refine placeR_app rfl hw' (fun qs h => ?_) hr
        rcases h with ⟨x, h | h⟩ | h <;> injection h
        rename_i _ h
        subst h
        exact gd _ n (by omega) (by omega) hw.2 (by omega)
      | short ps =>
        have hw' := hw
        rw [Ex.wf, Bool.and_eq_true] at hw
        rw [Ex.sz] at hm
        rw [Ex.dep] at hd
        have hh : (showE (.short ps) ++ r).take 1 = [94] := by rw [showE]; rfl
        rw [hh]
        rw [if_neg (by decide +kernel), if_neg (by decide), if_neg (by decide), if_neg (by decide)]
        refine placeR_app rfl hw' (fun qs h => ?_) hr
        rcases h with ⟨x, h | h⟩ | h <;> injection h
        rename_i h
        subst h
        exact gd _ n (by omega) (by omega) hw.2 (by omega)
      | not a =>
        rw [Ex.wf] at hw
        rw [Ex.sz] at hm
        rw [Ex.dep] at hd
        have hh : showE (.not a) ++ r = 39 :: (undS a ++ r) := by rw [showE]; rfl
        rw [hh]
        rw [if_neg (by simp; decide +kernel), if_pos (by simp)]
        simp only [List.drop_succ_cons, List.drop_zero]
        rw [und a (by omega) hw (by omega) r hr]
      | minus a =>
        rw [Ex.wf] at hw
        rw [Ex.sz] at hm
        rw [Ex.dep] at hd
        have hh : showE (.minus a) ++ r = 45 :: (undS a ++ r) := by rw [showE]; rfl
        rw [hh]
        rw [if_neg (by simp; decide +kernel), if_neg (by simp), if_pos (by simp)]
        simp only [List.drop_succ_cons, List.drop_zero]
        rw [und a (by omega) hw (by omega) r hr]
      | call k ps =>
        rw [Ex.wf, Bool.and_eq_true] at hw
        rw [Ex.sz] at hm
        rw [Ex.dep] at hd
        have hh : showE (.call k ps) ++ r = 36 :: (k ++ (showP ps ++ r)) := by rw [showE]; simp
        rw [hh]
        rw [if_neg (by simp; decide +kernel), if_neg (by simp), if_neg (by simp), if_pos (by simp)]
        simp only [List.drop_succ_cons, List.drop_zero]
        refine callR_app hw.1 hw.2 (gd _ n (by omega) (by omega) hw.2 (by omega)) fun p hp hpl qs hq => ?_
        have hpw := wfS_mem.mp hw.2 p hp
        have hpd : p.dep ≤ n := depS_le.mp (by omega) p hp
        have hps : p.sz ≤ szS ps := szS_mem hp
        obtain ⟨w1, w2, w3⟩ := wf_pl hpw hq
        intro q hqm r hr
        have hn1 : 1 ≤ n := Nat.le_trans (dep_pos p) hpd
        exact (read_back m (n - 1) q (by have := w3 q hqm; omega) (by omega) (wfS_mem.mp w1 q hqm) (w2 (n - 1) (by omega) q hqm)).2 r hr
    refine ⟨fun ho r hr => sing e hm hw hd ho r hr, fun r hr => ?_⟩
    rw [exR_succ]
    unfold exprR
    obtain ⟨l1, l2, l3⟩ := lef_le e
    have hcs : stopS (chainT e ++ r) := by
      have : ∀ e : Ex, e.wf = true → chainT e = [] ∨ ∃ c t, chainT e = c :: t ∧ isOp c = true := by
        intro e
        induction e using Lef.induct with
        | case1 s a b ih =>
          intro hw
          rw [Ex.wf, Bool.and_eq_true, Bool.and_eq_true] at hw
          rw [chainT]
          rcases ih hw.2.1 with h | ⟨c, t, h, hc⟩
          · exact .inr ⟨s, undS b, by rw [h]; rfl, hw.1⟩
          · exact .inr ⟨c, t ++ s :: undS b, by rw [h]; rfl, hc⟩
        | case2 e h =>
          intro hw
          cases e with
          | op s a b => exact absurd rfl (h s a b)
          | _ => exact .inl (by simp [chainT])
      rcases this e hw with h | ⟨c, t, h, hc⟩
      · rw [h]; exact hr.1
      · rw [h]; exact stop_op hc
    have hs := sing (Lef e) (by omega) (l3 hw) (by omega) (lef_no e) (chainT e ++ r) hcs
    rw [show_lef e, List.append_assoc, hs]
    simp only
    have ev : ∀ b ∈ rights e, ∀ r, stopS r → unR n (undS b ++ r) = some (b, r) := by
      intro b hb r hr
      obtain ⟨r1, r2, r3⟩ := rights_le e b hb
      exact underR_app (fun _ r hr => (read_back m n b (by omega) (by omega) (r3 hw) (by omega)).2 r hr) fun ho => ⟨(read_back m n b (by omega) (by omega) (r3 hw) (by omega)).1 ho r hr, show_hd (r3 hw) ho r⟩
    have stop0 : ∀ k, opsTail (unR n) k e r = some (e, r) := by
      intro k
      have hn : ¬ (r.take 1).any isOp = true := by
        cases r with
        | nil => simp
        | cons c r =>
          have := hr.2 c (by simp)
          simp [this]
      cases k with
      | zero => rw [opsTail, if_neg hn]
      | succ k => rw [opsTail, if_neg hn]
    by_cases hc : ((chainT e ++ r).take 1).any isOp = true
    · rw [if_pos hc]
      have hk := cnt_dep e
      have sp := opsTail_spine e (39 - cnt e) r hw ev hr.1
      rw [show cnt e + (39 - cnt e) = 39 by omega, stop0] at sp
      rw [sp]
      simp only
      rw [if_pos hd]
    · rw [if_neg hc]
      have : chainT e = [] ∧ Lef e = e := by
        cases e with
        | op s a b =>
          exfalso
          apply hc
          have : ∀ e : Ex, e.wf = true → e.isOpX = true → ∃ c t, chainT e = c :: t ∧ isOp c = true := by
            intro e
            induction e using Lef.induct with
            | case1 s a b ih =>
              intro hw _
              rw [Ex.wf, Bool.and_eq_true, Bool.and_eq_true] at hw
              rw [chainT]
              cases ha : a.isOpX with
              | true =>
                obtain ⟨c, t, h, hc⟩ := ih hw.2.1 ha
                exact ⟨c, t ++ s :: undS b, by rw [h]; rfl, hc⟩
              | false =>
                have : chainT a = [] := by cases a <;> first | rfl | cases ha
                exact ⟨s, undS b, by rw [this]; rfl, hw.1⟩
            | case2 e h =>
              intro _ ho
              cases e with
              | op s a b => exact absurd rfl (h s a b)
              | _ => cases ho
          obtain ⟨c, t, h, hcc⟩ := this _ hw rfl
          rw [h]
          simpa using hcc
        | _ => exact ⟨rfl, rfl⟩
      rw [this.1, this.2]
      rfl
end Sk

/-! ## SkT -/
namespace Sk
open PySem PySem.Spec PyProof.Rows L2
/-! ### x, *r = a tuple -/
section
variable {X : Cx} {pos : Pos}
def gStar (K : PySem.W.Frag) (t : TGs) : TG := fun v σ H Q => ∃ a x xs, v = .ref a ∧ SqT K H a (x :: xs) ∧ xs.length ≤ 16000 ∧ ∀ D, H D = none → t [x, .ref D] σ (upd H D (.lst xs)) Q
theorem pg_star {es : List Expr} {k : Nat} {t : TGs} (hc : X.calm = true) (h : PGs X es t)
    (hn : (assignEach es X.env).length = 2 := by rfl) (hst : (assignEach es X.env).findIdx? (·.1) = some 1 := by rfl) : PG X (.Tuple es k pos) (gStar X.K t) := by
  refine ⟨fun pins s σ H v u Q I r hw => ?_⟩
  obtain ⟨a, x, xs, e1, hq, hl, hw⟩ := hw
  subst e1
  cases r
  obtain ⟨its, rv, ht, hz⟩ := I.tuple hq
  cases rv with
  | @cons _ y _ ys r rv =>
    have hlen := rv.length
    have hlt : a ≠ s.heap.objs.size := Nat.ne_of_lt ht.lt
    rw [assign_Tuple]
    refine wpAny_bind (wpAny_standAt ?_)
    unfold unpack
    rw [hn, hst]
    refine wpAny_bind (wpAny_holding ?_)
    unfold unpackItems
    refine wpAny_bind ?_
    unfold notIterableAtAll
    refine wpAny_bind (wpAny_specialOf ht.typeIs slot_tuple_iter.lookup ?_)
    refine wpAny_pure ?_
    simp only [Bool.false_eq_true, if_false]
    refine wpAny_bind (wpAny_holding (iter_tuple ht ?_))
    refine wpAny_bind (wpAny_holding (draw_tuple hlt 1 0 _ _ ⟨_, Heap.get?_push_size _ rfl, rfl, rfl⟩ (ht.push _) (by simp) fun h₁ hit₁ hs₁ => ?_))
    have hl₁ : IsTup h₁ a (y :: ys).toArray := (ht.push _).extBut hs₁.extBut hlt
    rw [Nat.zero_add] at hit₁
    obtain ⟨oi, hoi, _⟩ := id hit₁
    obtain ⟨ol, hol, _⟩ := id hl₁
    rw [List.drop_zero]
    rw [if_neg (by simp)]
    refine wpAny_bind (wpAny_holding (PySem.W.kun_collect (s := { s with heap := h₁ }) (T := "tuple_iterator") (.inr (.inr (.inr rfl))) (Walks.tuple (A := X.A.in1) (I.ok.hd hc) s.heap.objs.size a hlt _) (fun j u st => st.1.typeIs) (k := 1) (by simp) ⟨hit₁, hl₁⟩ (Heap.lt_size hoi) (Heap.lt_size hol) (fun h₂ tk hk => ?_) (by simp; rw [sizeLine_eq]; omega)))
    have he : Heap.ExtBut s.heap.objs.size s.heap h₂ := fun b o hb e => hk b o hb (hs₁.extBut b o hb (Heap.get?_push_of_some _ e))
    have I1 : Inv X pins σ H { s with heap := h₂, toks := tk } := I.kept (t' := tk) fun b o e => he b o (Nat.ne_of_lt (Heap.lt_size e)) e
    show wpAny _ _ (if ys.length < 0 then _ else _) _ _ _
    rw [if_neg (by omega)]
    show wpAny _ _ (newList (ys.take (ys.length - 0)) >>= fun d => pure ([y] ++ [d] ++ ys.drop (ys.length - 0))) _ _ _
    rw [Nat.sub_zero, List.take_length, List.drop_length]
    refine wpAny_bind (wpAny_newList ?_ (by rw [sizeLine_eq]; omega))
    refine wpAny_pure ?_
    have hf : H h₂.objs.size = none := I1.hok.fresh (Nat.le_refl _)
    have I2 : Inv X pins σ (upd H h₂.objs.size (.lst xs)) _ := I1.laid (t' := tk) (fun b u e => Heap.get?_push_of_some _ e) (Nat.le_refl _) ⟨by rw [sizeLine_eq]; omega, ys, 0, rv, Heap.get?_push_size _ rfl⟩
    exact h.run pins _ σ _ [x, .ref h₂.objs.size] [y, .ref h₂.objs.size] Q I2 (.cons r (.cons rfl .nil)) (hw _ hf)
theorem pg_tupK {K : PySem.W.Frag} {es : List Expr} {k : Nat} {t : TGs} {n : Nat} (hK : X.K = K) (hc : X.calm = true) (h : PGs X es t)
    (hn : (assignEach es X.env).length = n := by rfl) (hst : (assignEach es X.env).findIdx? (·.1) = none := by rfl) : PG X (.Tuple es k pos) (gTup K n t) := by
  subst hK
  exact pg_tup hc h hn hst
theorem pgs_star {e : Expr} {p : Pos} {t : TG} (h : PG X e t) (hs : (assignEach [Expr.Starred e p] X.env).map (·.2) = [assign e X.env] := by rfl) : PGs X [Expr.Starred e p] (gCons t gNil) := by
  refine ⟨fun pins s σ H vs us Q I r q => ?_⟩
  obtain ⟨v, vr, e1, q⟩ := q
  subst e1
  cases r with
  | cons r rr =>
    rw [hs]
    refine assignInOrder_cons (thn (h.run pins s σ H _ _ _ I r q) fun _ s1 ⟨σ1, H1, I1, q1⟩ => ?_)
    obtain ⟨e, q1⟩ := q1
    subst e
    cases rr
    exact assignInOrder_nil ⟨σ1, H1, I1, q1⟩
end

/-! ### zip(a list, a text) -/
/-- the list at a and the text y as they stand at each turn, in new pairs -/
def ItzS (K : PySem.W.Frag) (a : Addr) (y : Str) : It :=
  ⟨fun i H => ∃ (xs : List V) (x : V) (c : Nat), SqL K H a xs ∧ xs[i]? = some x ∧ y.cps[i]? = some c,
    fun i H v H' => ∃ T x c, v = .ref T ∧ H T = none ∧ H' = upd H T (.tup [x, .str ⟨#[c]⟩]) ∧ (∀ xs, SqL K H a xs → xs[i]? = some x) ∧ y.cps[i]? = some c,
    fun i H => ∃ xs : List V, SqL K H a xs ∧ (xs.length = i ∧ i ≤ y.cps.size ∨ y.cps.size = i ∧ i ≤ xs.length)⟩
theorem pyNext_zip_item {prog : Program} {w : World} {A : Around} {E : Value → Shared → Prop} {s : Shared} {z TI TO i1 i2 : Addr} {fp1 fp2 : List Addr} {n1 n2 i : Nat} {P1 P2 : Nat → Value → Prop} {St1 St2 : Nat → Heap → Prop} {a1 a2 : Value} {Q : Option Value → Shared → Prop} (S : ZipSep2 z TI TO i1 i2 fp1 fp2) (D1 : Draws prog w A.in1 i1 fp1 n1 P1 St1) (D2 : Draws prog w A.in1 i2 fp2 n2 P2 St2)
    (hz : IsZip s.heap z TI TO .none) (hTI : IsTupOf2 s.heap TI (.ref i1) (.ref i2)) (hTO : IsTupOf2 s.heap TO a1 a2) (st1 : St1 i s.heap) (st2 : St2 i s.heap) (hlt1 : i < n1) (hlt2 : i < n2)
    (hQ : ∀ x1 x2 h' tk, P1 i x1 → P2 i x2 → IsZip h' z TI TO (rawInt s.heap.objs.size) → IsTupOf2 h' TO x1 x2 → St1 (i + 1) h' → St2 (i + 1) h' → IsTupOf2 h' s.heap.objs.size x1 x2 → h'.objs.size = s.heap.objs.size + 1 →
      (∀ c o, c ≠ z → c ≠ TO → c ≠ i1 → c ≠ i2 → s.heap.get? c = some o → h'.get? c = some o) → Q (some (.ref s.heap.objs.size)) { s with heap := h', toks := tk }) :
    wpAny (model prog w) A (pyNext (.ref z)) Q E s := by
  have hT : s.TypeIs (.ref z) "zip" := ⟨_, hz, rfl⟩
  unfold pyNext
  exact wpAny_bind (wpAny_attempt (wpAny_callSpecial?_slot (name := Str.ofString "__next__") hT F.slot_zip_next
    (wpAny_call_entry F.slot_zip_next hT F.entry_zip_next
      (zipD2_next_item S D1 D2 hz hTI hTO st1 st2 hlt1 hlt2 fun x1 x2 h' tk q1 q2 q3 q4 q5 q6 q7 q8 q9 => wpAny_pure (hQ x1 x2 h' tk q1 q2 q3 q4 q5 q6 q7 q8 q9)) (F.args_zip_next_1 _))))
theorem pyNext_zip_end {prog : Program} {w : World} {A : Around} {E : Value → Shared → Prop} {s : Shared} {z TI TO i1 i2 : Addr} {fp1 fp2 : List Addr} {n1 n2 i : Nat} {P1 P2 : Nat → Value → Prop} {St1 St2 : Nat → Heap → Prop} {a1 a2 : Value} {Q : Option Value → Shared → Prop} (S : ZipSep2 z TI TO i1 i2 fp1 fp2) (D1 : Draws prog w A.in1 i1 fp1 n1 P1 St1) (D2 : Draws prog w A.in1 i2 fp2 n2 P2 St2)
    (hz : IsZip s.heap z TI TO .none) (hTI : IsTupOf2 s.heap TI (.ref i1) (.ref i2)) (hTO : IsTupOf2 s.heap TO a1 a2) (st1 : St1 i s.heap) (st2 : St2 i s.heap) (hle1 : i ≤ n1) (hle2 : i ≤ n2) (hend : i = n1 ∨ i = n2)
    (hQ : ∀ h' tk, (∀ c o, c ≠ z → c ≠ TO → c ≠ i1 → c ≠ i2 → s.heap.get? c = some o → h'.get? c = some o) → Q none { s with heap := h', toks := tk }) : wpAny (model prog w) A (pyNext (.ref z)) Q E s := by
  have hT : s.TypeIs (.ref z) "zip" := ⟨_, hz, rfl⟩
  unfold pyNext
  refine wpAny_bind (wpAny_attempt (wpAny_callSpecial?_slot (name := Str.ofString "__next__") hT F.slot_zip_next
    (wpAny_call_entry F.slot_zip_next hT F.entry_zip_next (zipD2_next_end S D1 D2 hz hTI hTO st1 st2 hle1 hle2 hend fun h' tk e hk he => ?_) (F.args_zip_next_1 _))))
  obtain ⟨o, ho, hc⟩ := he
  refine wpAny_bind (wpAny_isInstance (T := "StopIteration") (b := true) ⟨o, ho, hc⟩ isSubtype_stop ?_)
  exact wpAny_pure (hQ _ _ hk)
theorem turn_zipS {P : Program} {w : World} {K : PySem.W.Frag} {elts : List Expr} {kk : Nat} {tpos : Pos} {a z TI TO i1 i2 : Addr} {y : Str} {t : Tok} (D : ZipSep2 z TI TO i1 i2 [i1, a] [i2]) :
    Turn P w K (.Tuple elts kk tpos) (ItzS K a y) [z, TI, TO, i1, i2] z (fun i h => IsZip h z TI TO .none ∧ IsTupOf2 h TI (.ref i1) (.ref i2) ∧ (∃ x y, IsTupOf2 h TO x y) ∧ h.IsListIter i1 a i ∧ h.IsStrIter i2 (strIterType y) y t i) where
  mem := by simp
  obj := fun i h st c hc => by
    obtain ⟨hz, hTI, ⟨x, y, hTO⟩, ⟨o1, e1, _, d1⟩, ⟨o2, e2, _, d2⟩⟩ := st
    have e' : c = z ∨ c = TI ∨ c = TO ∨ c = i1 ∨ c = i2 := by simpa using hc
    rcases e' with q | q | q | q | q
    · rw [q]; exact ⟨_, hz, fun v q => nomatch q⟩
    · rw [q]; exact ⟨_, hTI, fun v q => nomatch q⟩
    · rw [q]; exact ⟨_, hTO, fun v q => nomatch q⟩
    · rw [q]; exact ⟨o1, e1, fun v q => by rw [d1] at q; cases q⟩
    · rw [q]; exact ⟨o2, e2, fun v q => by rw [d2] at q; cases q⟩
  keep := fun i h h' st k => by
    obtain ⟨hz, hTI, ⟨x, y, hTO⟩, h1, ⟨o2, e2, r2⟩⟩ := st
    exact ⟨k z (by simp) _ hz, k TI (by simp) _ hTI, ⟨x, y, k TO (by simp) _ hTO⟩, h1.at fun o q => k i1 (by simp) o q, ⟨o2, k i2 (by simp) _ e2, r2⟩⟩
  item := by
    intro X hP hw hK hc i pins s σ H E I hf st hg
    subst hP hw hK
    obtain ⟨hz, hTI, ⟨x0, y0, hTO⟩, h1, h2⟩ := st
    obtain ⟨xs, x, c, hqx, hx, hy⟩ := hg
    obtain ⟨its, rv, p, _⟩ := I.list hqx
    obtain ⟨u, hu, ru⟩ := rv.get hx
    have hzl : z < s.heap.objs.size := Heap.lt_size hz
    have hai : a ≠ i1 := fun e => by
      have := (hf i1 (by simp)).1
      rw [← e] at this
      have hal := p.isList
      exact absurd e (Nat.ne_of_lt (by
        have := I.lt
        exact absurd (show a = a from rfl) (fun _ => by
          obtain ⟨oi, e1, _, d1⟩ := h1
          obtain ⟨ol, e2, hcl⟩ := hal
          rw [e, e1] at e2
          cases e2
          rw [d1] at hcl
          exact absurd hcl.2 (by simp))))
    have D1 := Draws.list (prog := X.prog) (w := X.w) (A := X.A.in1) (I.ok.hd hc) i1 a hai its.toArray
    have D2 := Draws.text (prog := X.prog) (w := X.w) (A := X.A.in1) (I.ok.hd hc) i2 y t
    have hi1 : i < its.toArray.size := by
      have := (List.getElem?_eq_some_iff.mp hu).1
      simpa using this
    have hi2 : i < y.cps.size := (Array.getElem?_eq_some_iff.mp hy).1
    refine pyNext_zip_item D D1 D2 hz hTI hTO ⟨h1, p.isList⟩ h2 hi1 hi2 fun x1 x2 h' tk q1 q2 z' TO' s1' s2' hT hsz hk => ?_
    have ex1 : x1 = u := by
      have q1 : its.toArray[i]? = some x1 := q1
      rw [List.getElem?_toArray, hu] at q1
      exact (Option.some.inj q1).symm
    obtain ⟨c2, t2, hc2, ex2⟩ := q2
    rw [hy] at hc2
    cases hc2
    subst ex1 ex2
    refine ⟨_, rfl, wpAny_letOwnedTupleGo_zip (s := { s with heap := h', toks := tk }) z' fun h'' z'' sb => ?_⟩
    have hT2 : h''.get? s.heap.objs.size = some { cls := .type "tuple", data := .seq #[x1, .str ⟨#[c]⟩ t2] } := (sb.2 _ (Nat.ne_of_gt hzl)).trans hT
    have new : ObjOk X.prog X.w (upd H s.heap.objs.size (.tup [x, .str ⟨#[c]⟩])) h'' s.heap.objs.size (.tup [x, .str ⟨#[c]⟩]) :=
      ⟨by show 2 ≤ sizeLine; decide, [x1, .str ⟨#[c]⟩ t2], .cons ru (.cons ⟨t2, rfl⟩ .nil), ⟨_, hT2, rfl, _, rfl⟩⟩
    have I1 : Inv X pins σ (upd H s.heap.objs.size (.tup [x, .str ⟨#[c]⟩])) { s with heap := h'', toks := tk } :=
      I.turnedNew (t' := tk) (ch := [z, TI, TO, i1, i2]) (fun c o hb q => (sb.2 c (fun q' => hb (by simp [q']))).trans (hk c o (fun q' => hb (by simp [q'])) (fun q' => hb (by simp [q'])) (fun q' => hb (by simp [q'])) (fun q' => hb (by simp [q'])) q)) hf (Nat.le_refl _) new
    refine ⟨.ref s.heap.objs.size, _, I1, rfl, ⟨_, x, c, rfl, I.hok.fresh (Nat.le_refl _), rfl, fun l hl => by rw [I.list_inj hl hqx]; exact hx, hy⟩, ⟨z'', ?_, ⟨x1, .str ⟨#[c]⟩ t2, ?_⟩, ?_, ?_⟩, fun c hcm => ?_⟩
    · exact (sb.2 _ D.TIz).trans (hk _ _ D.TIz D.TITO D.TIi1 D.TIi2 hTI)
    · exact (sb.2 _ D.TOz).trans TO'
    · exact s1'.1.at fun o q => (sb.2 _ D.zi1.symm).trans q
    · obtain ⟨o2, e2, r2⟩ := s2'
      exact ⟨o2, (sb.2 _ D.zi2.symm).trans e2, r2⟩
    · have hlt : c < s.heap.objs.size := by
        have e' : c = z ∨ c = TI ∨ c = TO ∨ c = i1 ∨ c = i2 := by simpa using hcm
        rcases e' with q | q | q | q | q
        · rw [q]; exact hzl
        · rw [q]; exact Heap.lt_size hTI
        · rw [q]; exact Heap.lt_size hTO
        · rw [q]; obtain ⟨_, e1, _⟩ := h1; exact Heap.lt_size e1
        · rw [q]; obtain ⟨_, e1, _⟩ := h2; exact Heap.lt_size e1
      rw [upd_ne (Nat.ne_of_lt hlt)]
      exact (hf c hcm).1
  done := by
    intro X hP hw hK hc i pins s σ H E I hf st hg
    subst hP hw hK
    obtain ⟨hz, hTI, ⟨x0, y0, hTO⟩, h1, h2⟩ := st
    obtain ⟨xs, hqx, hend⟩ := hg
    obtain ⟨its, rv, p, _⟩ := I.list hqx
    have l1 := rv.length
    have hai : a ≠ i1 := fun e => by
      obtain ⟨oi, e1, _, d1⟩ := h1
      obtain ⟨ol, e2, hcl⟩ := p.isList
      rw [e, e1] at e2
      cases e2
      rw [d1] at hcl
      exact absurd hcl.2 (by simp)
    have D1 := Draws.list (prog := X.prog) (w := X.w) (A := X.A.in1) (I.ok.hd hc) i1 a hai its.toArray
    have D2 := Draws.text (prog := X.prog) (w := X.w) (A := X.A.in1) (I.ok.hd hc) i2 y t
    have hs : its.toArray.size = xs.length := by simpa using l1.symm
    refine pyNext_zip_end D D1 D2 hz hTI hTO ⟨h1, p.isList⟩ h2 (by rw [hs]; omega) (by omega) (by rw [hs]; omega) fun h' tk hk => ⟨rfl, I.turnedL (t' := tk) (ch := [z, TI, TO, i1, i2]) (fun c o hb q =>
      hk c o (fun q' => hb (by simp [q'])) (fun q' => hb (by simp [q'])) (fun q' => hb (by simp [q'])) (fun q' => hb (by simp [q'])) q) hf⟩
  self := fun A i s Q E st h => wpAny_pyIter_zip st.1 h
def iZipS (K : PySem.W.Frag) (ta : TA) : TI := fun σ H R => ta σ H fun vs H1 => ∃ a y xs, vs = [.ref a, .str y] ∧ SqL K H1 a xs ∧ R (ItzS K a y) H1
theorem pi_zipS {X : Cx} {e e2 : Expr} {ta : TA} {p pos tpos : Pos} {elts : List Expr} {kk : Nat} (hg : Gl X "zip") (hm : X.mg "zip" = none) (ha : PA X [e, e2] ta)
    (hs : starEach [e, e2] X.env = (false, eval e X.env) :: starEach [e2] X.env := by rfl) (hpl : (backTo pos (starEach [e2] X.env)).any (·.1) = false := by rfl) :
    PI X (.Tuple elts kk tpos) (.Call (.Name "zip" p) [e, e2] [] pos) (iZipS X.K ta) := by
  refine ⟨fun pins s σ H R I h => ?_⟩
  refine Call_ (ld_blt I hg hm PyProof.Rows.boot_zip (PyProof.Rows.callWith_type1 (thn (ha.run pos pins s σ H _ I h) fun us s1 ⟨vs, H1, I1, r1, q1⟩ => ?_) hs hpl))
  obtain ⟨a, y, xs, ex, hqx, q⟩ := q1
  subst ex
  cases r1 with
  | cons r rr =>
    cases rr with
    | cons r' rr =>
      cases rr
      cases r
      obtain ⟨t, rfl⟩ := r'
      obtain ⟨its, rv, p1, _⟩ := I1.list hqx
      have la : a < s1.heap.objs.size := p1.lt
      refine zip_begins2 (begins_list a its.toArray) (begins_text y t) p1.isList trivial fun h' hz hTI hTO h1 h2 hsz hk => wpAny_pyIter_zip hz ?_
      have I2 : Inv X pins σ H1 { s1 with heap := h' } := I1.kept (t' := s1.toks) hk
      refine ⟨s1.heap.objs.size + 4, [s1.heap.objs.size + 4, s1.heap.objs.size + 2, s1.heap.objs.size + 3, s1.heap.objs.size, s1.heap.objs.size + 1], _, _, H1, rfl, I2, turn_zipS (zip_sep2 (fp1 := [a]) (fp2 := []) (by simpa using la) (by simp)), ⟨hz, hTI, ⟨_, _, hTO⟩, ⟨_, h1, rfl, rfl⟩, ⟨_, h2, rfl, rfl⟩⟩, fun c hcm => ?_, q⟩
      have e' : c = s1.heap.objs.size + 4 ∨ c = s1.heap.objs.size + 2 ∨ c = s1.heap.objs.size + 3 ∨ c = s1.heap.objs.size ∨ c = s1.heap.objs.size + 1 := by simpa using hcm
      have hle : s1.heap.objs.size ≤ c := by
        rcases e' with z | z | z | z | z
        · rw [z]; exact Nat.le_add_right _ _
        · rw [z]; exact Nat.le_add_right _ _
        · rw [z]; exact Nat.le_add_right _ _
        · rw [z]; exact Nat.le_refl _
        · rw [z]; exact Nat.le_add_right _ _
      exact I1.fpOk hle (I1.hok.fresh hle)
end Sk

/-! ## SkU -/
namespace Sk
open PySem PySem.Spec PyProof.Rows L2
/-! ### expressions as data that may be compared -/
theorem ok_all {f : Nat → Bool} {w : Tx} (h : w.all f = true) (hf : ∀ c, f c = true → c < 1114112) : PyData.strOk (St w) = true := by
  unfold PyData.strOk
  rw [Array.all_eq_true_iff_forall_mem]
  intro c hc
  have : c ∈ w := by simpa using hc
  exact decide_eq_true (hf c (List.all_eq_true.mp h c this))
theorem sign_lt (c : Nat) (h : isSign c = true) : c < 1114112 := by
  have h1 : c ∈ signsL := of_decide_eq_true h
  have : ∀ d ∈ signsL, d < 1114112 := by decide +kernel
  exact this c h1
theorem let_lt (c : Nat) (h : isLet c = true) : c < 1114112 := by
  have h1 : c ∈ letters := of_decide_eq_true h
  have : ∀ d ∈ letters, d < 1114112 := by decide +kernel
  exact this c h1
theorem opc_lt (c : Nat) (h : isOp c = true) : c < 1114112 := by
  have h1 : c ∈ opsL := of_decide_eq_true h
  have : ∀ d ∈ opsL, d < 1114112 := by decide +kernel
  exact this c h1
theorem name_all {n : Tx} (h : isNameT n = true) : n.all isLet = true := by
  unfold isNameT at h
  rw [Bool.and_eq_true] at h
  exact h.2
theorem callOk_all {n : Tx} {ps : List Ex} (hc : callOk n ps = true) : n.all isLet = true := by
  apply call_names
  unfold callOk at hc
  cases h : callsN n with
  | some k => exact .inl nofun
  | none =>
    rw [h] at hc
    simp only [Bool.or_eq_true, Bool.and_eq_true, decide_eq_true_eq] at hc
    rcases hc with hc | hc
    · exact .inr (.inl hc.1)
    · exact .inr (.inr hc.1)
theorem wk (s : String) (h : PyData.strOk (Str.ofString s) = true := by decide +kernel) : PyData.strOk (Str.ofString s) = true := h
mutual
theorem toD_shape : ∀ e : Ex, e.wf = true → e.toD.canLay0 = true ∧ e.toD.depth ≤ 2 * e.dep
  | .is w, h => by
    rw [Ex.wf] at h
    rw [Ex.toD, Ex.dep]
    simp [PyData.canLay0, PyData.canLayAll0, PyData.depth, PyData.depthAll, wk "is", ok_all h sign_lt]
  | .var n ps, h => by
    rw [Ex.wf, Bool.and_eq_true] at h
    obtain ⟨h1, h2⟩ := toDs_shape ps h.2
    rw [Ex.toD, Ex.dep]
    simp [PyData.canLay0, PyData.canLayAll0, PyData.depth, PyData.depthAll, h1, wk "var", ok_all (name_all h.1) let_lt]
    omega
  | .at_ n ps, h => by
    rw [Ex.wf, Bool.and_eq_true] at h
    obtain ⟨h1, h2⟩ := toDs_shape ps h.2
    rw [Ex.toD, Ex.dep]
    simp [PyData.canLay0, PyData.canLayAll0, PyData.depth, PyData.depthAll, h1, wk "at", ok_all (name_all h.1) let_lt]
    omega
  | .short ps, h => by
    rw [Ex.wf, Bool.and_eq_true] at h
    obtain ⟨h1, h2⟩ := toDs_shape ps h.2
    rw [Ex.toD, Ex.dep]
    simp [PyData.canLay0, PyData.canLayAll0, PyData.depth, PyData.depthAll, h1, wk "short"]
    omega
  | .op s a b, h => by
    rw [Ex.wf, Bool.and_eq_true, Bool.and_eq_true] at h
    obtain ⟨h1, h2⟩ := toD_shape a h.2.1
    obtain ⟨h3, h4⟩ := toD_shape b h.2.2
    rw [Ex.toD, Ex.dep]
    simp [PyData.canLay0, PyData.canLayAll0, PyData.depth, PyData.depthAll, h1, h3, wk "op", ok_all (w := [s]) (f := isOp) (by simpa using h.1) opc_lt]
    omega
  | .not a, h => by
    rw [Ex.wf] at h
    obtain ⟨h1, h2⟩ := toD_shape a h
    rw [Ex.toD, Ex.dep]
    simp [PyData.canLay0, PyData.canLayAll0, PyData.depth, PyData.depthAll, h1, wk "not"]
    omega
  | .minus a, h => by
    rw [Ex.wf] at h
    obtain ⟨h1, h2⟩ := toD_shape a h
    rw [Ex.toD, Ex.dep]
    simp [PyData.canLay0, PyData.canLayAll0, PyData.depth, PyData.depthAll, h1, wk "minus"]
    omega
  | .call n ps, h => by
    rw [Ex.wf, Bool.and_eq_true] at h
    obtain ⟨h1, h2⟩ := toDs_shape ps h.2
    rw [Ex.toD, Ex.dep]
    simp [PyData.canLay0, PyData.canLayAll0, PyData.depth, PyData.depthAll, h1, ok_all (callOk_all h.1) let_lt]
    omega
theorem toDs_shape : ∀ es : List Ex, wfS es = true → PyData.canLayAll0 (toDs es) = true ∧ PyData.depthAll (toDs es) ≤ 2 * depS es
  | [], _ => by rw [toDs, depS]; exact ⟨rfl, Nat.le_refl _⟩
  | e :: r, h => by
    rw [wfS, Bool.and_eq_true] at h
    obtain ⟨h1, h2⟩ := toD_shape e h.1
    obtain ⟨h3, h4⟩ := toDs_shape r h.2
    rw [toDs, depS]
    simp [PyData.canLayAll0, PyData.depthAll, h1, h3]
    omega
end
theorem toD_shaped {e : Ex} (hw : e.wf = true) (h : e.dep ≤ 30) : SeqAt.shaped e.toD = true := by
  obtain ⟨h1, h2⟩ := toD_shape e hw
  unfold SeqAt.shaped
  rw [h1, decide_eq_true (by omega)]
  rfl
theorem toD_eqv {e : Ex} (hw : e.wf = true) : PyData.eqv e.toD e.toD = true := SeqAt.eqv_refl _ (toD_shape e hw).1

/-! ### == and != of data of which one is shallow -/
section
variable {X : Cx}
def rEqM (K : PySem.W.Frag) : R2 := fun x y H Q => ∃ d e, Dp K H x d ∧ Dp K H y e ∧ d.canLay0 = true ∧ e.canLay0 = true ∧ min d.depth e.depth ≤ 64 ∧ Q (.bl (PyData.eqv d e)) H
def rNeM (K : PySem.W.Frag) : R2 := fun x y H Q => ∃ d e, Dp K H x d ∧ Dp K H y e ∧ d.canLay0 = true ∧ e.canLay0 = true ∧ min d.depth e.depth ≤ 64 ∧ Q (.bl (!PyData.eqv d e)) H
theorem op_eqM (hu : X.A.units + 64 < cLine) : OpR X (compareOp .Eq) (rEqM X.K) := by
  intro pins s σ H x y v u Q I rx ry h
  obtain ⟨d, e, hd, he, sd, se, hm, q⟩ := h
  obtain ⟨as, r1⟩ := Dp.reads I d x v hd rx
  obtain ⟨bs, r2⟩ := Dp.reads I e y u he ry
  exact SeqAt.compareEq_reads r1 r2 sd se (by omega) ⟨.bl _, H, I, rfl, q⟩
theorem op_neM (hu : X.A.units + 64 < cLine) : OpR X (compareOp .NotEq) (rNeM X.K) := by
  intro pins s σ H x y v u Q I rx ry h
  obtain ⟨d, e, hd, he, sd, se, hm, q⟩ := h
  obtain ⟨as, r1⟩ := Dp.reads I d x v hd rx
  obtain ⟨bs, r2⟩ := Dp.reads I e y u he ry
  exact SeqAt.compareNe_reads r1 r2 sd se (by omega) ⟨.bl _, H, I, rfl, q⟩
end
/-! ### within a comprehension the written part is named -/
section
variable {X : Cx} {K : PySem.W.Frag}
theorem call_lenK (hK : X.K = K) : CallR X (.builtin "len") (fun xs H Q => ∃ x n, xs = [x] ∧ LenV K x H n ∧ Q (.int n) H) := by
  subst hK
  exact call_len
theorem ix_listK (hK : X.K = K) : IxR X (rIxL K) := by
  subst hK
  exact ix_list
theorem ix_tupK (hK : X.K = K) : IxR X (rIxT K) := by
  subst hK
  exact ix_tup
end
/-- f() -/
theorem pe_d0 {X : Cx} {k j : Nat} {x : Str} {sp : Sp} {E : SS → XK} {p pos : Pos} (c : Dn X.prog X.w X.K X.mg X.base k x sp) (hr : Room j X.A) (hk : k ≤ j) (hx : ∀ σ, PassesAt (L2N.CX X.prog X.w) X σ (E σ)) (hg : Gl X x)
    (hdb : (x == ("__debug__" : Str)) = false := by decide) : PE X (.Call (.Name x p) [] [] pos) (tCallS sp E tNil) := by
  obtain ⟨f, fd, ps, F, hm, kp, b⟩ := c.ex
  refine ⟨fun pins s σ H Q I h => ?_⟩
  refine wpAny_Call_Name_kw (ld_glob I hg hm ?_ hdb)
  exact PySem.W.callWith_K0 I.kIn kp (run_fnS (us := []) (vs := []) F (hr.mono hk) b (hx σ) I .nil h)
/-! ### a comprehension by an invariant -/
theorem lc_iv {J : It} {n : Nat} {g : TG} {tt : TT} {te : TE} {vs : List Nat} {σ : SS} {H1 : Hp} {D : Addr} {Qd : Hp → Prop} (Iv : Nat → List V → Hp → Prop) (hn : n ≤ sizeLine) (h0 : Iv 0 [] (upd H1 D (.lst [])))
    (hs : ∀ i acc H, i < n → Iv i acc H → H D = some (.lst acc) → J.go i H ∧ ∀ y H', J.yld i H y H' → ∃ σ2 b, (∀ Q : SS → Hp → Prop, Q σ2 H' → g y (wipe σ vs) H' Q) ∧ wipe σ2 vs = wipe σ vs ∧ (∀ R : Bool → Hp → Prop, R b H' → tt σ2 H' R) ∧
      (b = true → ∀ R2 : VK, (∀ v H4, H4 D = some (.lst acc) → Iv (i + 1) (acc ++ [v]) (upd H4 D (.lst (acc ++ [v]))) → R2 v H4) → te σ2 H' R2) ∧ (b = false → H' D = some (.lst acc) ∧ Iv (i + 1) acc H'))
    (hd : ∀ acc H, Iv n acc H → H D = some (.lst acc) → J.stop n H ∧ Qd H) :
    ∃ W : Nat → Nat → Hp → Prop, (∃ m, W 0 m (upd H1 D (.lst []))) ∧ ∀ i m H, W i m H →
      (J.stop i H ∧ Qd H) ∨ (J.go i H ∧ ∃ Nx : Hp → Prop, (∀ H', Nx H' → ∃ m', m' < m ∧ W (i + 1) m' H') ∧ ∀ y H', J.yld i H y H' → g y (wipe σ vs) H' fun σ2 H2 => wipe σ2 vs = wipe σ vs ∧ tt σ2 H2 fun b H3 =>
        if b = true then te σ2 H3 fun y H4 => ∃ acc, H4 D = some (.lst acc) ∧ acc.length < sizeLine ∧ Nx (upd H4 D (.lst (acc ++ [y]))) else Nx H3) := by
  refine ⟨fun i m H => m = n - i ∧ i ≤ n ∧ ∃ acc : List V, acc.length ≤ i ∧ Iv i acc H ∧ H D = some (.lst acc), ⟨n, rfl, Nat.zero_le _, [], Nat.le_refl _, h0, upd_same⟩, ?_⟩
  rintro i m H ⟨rfl, hi, acc, hl, iv, hD⟩
  by_cases hlt : i < n
  · obtain ⟨hgo, hy⟩ := hs i acc H hlt iv hD
    refine .inr ⟨hgo, fun H' => ∃ acc : List V, acc.length ≤ i + 1 ∧ Iv (i + 1) acc H' ∧ H' D = some (.lst acc), fun H' h => ⟨n - (i + 1), by omega, rfl, hlt, h⟩, fun y H' hyy => ?_⟩
    obtain ⟨σ2, b, hg, hw, ht, he, hf⟩ := hy y H' hyy
    refine hg _ ⟨hw, ht _ ?_⟩
    cases b with
    | true =>
      rw [if_pos rfl]
      refine he rfl _ fun v H4 h4 iv4 => ⟨acc, h4, by omega, acc ++ [v], by rw [List.length_append]; simp; omega, iv4, upd_same⟩
    | false =>
      rw [if_neg (by decide)]
      obtain ⟨h1, h2⟩ := hf rfl
      exact ⟨acc, by omega, h2, h1⟩
  · have e : i = n := by omega
    subst e
    exact .inl (hd acc H iv hD)
theorem yes_at {σ : SS} {H : Hp} {R : Bool → Hp → Prop} (h : R true H) : tYes σ H R := h
/-- [te for x in range(k)] -/
theorem tLc_rngB {ta : TA} {te : TE} {i : Nat} {vs : List Nat} {σ : SS} {H0 : Hp} {Q : VK} (Pn : Nat → Hp → Prop) (h0 : ∀ R : List V → Hp → Prop, (∀ n H, Pn n H → R [.int n] H) → ta σ H0 R)
    (hb : ∀ n H, Pn n H → n ≤ sizeLine ∧ ∃ Iv : Addr → Nat → List V → Hp → Prop, (∀ D, H D = none → Iv D 0 [] (upd H D (.lst []))) ∧
      (∀ D, H D = none → ∀ j acc H', j < n → Iv D j acc H' → H' D = some (.lst acc) → wipe ((wipe σ vs).set i (some (.int (j : Int)))) vs = wipe σ vs ∧ ∀ R2 : VK, (∀ v H4, H4 D = some (.lst acc) → Iv D (j + 1) (acc ++ [v]) (upd H4 D (.lst (acc ++ [v]))) → R2 v H4) → te ((wipe σ vs).set i (some (.int (j : Int)))) H' R2) ∧
      ∀ D, H D = none → ∀ acc H', Iv D n acc H' → H' D = some (.lst acc) → Q (.ref D) H') : tLc (iRng1 ta) (gName i) tYes te vs σ H0 Q := by
  refine h0 _ fun n H pn => ?_
  obtain ⟨hn, Iv, D0, hs, hd⟩ := hb n H pn
  refine ⟨n, rfl, by omega, by rw [sizeLine_eq] at hn; omega, ?_⟩
  intro D nD
  have en : (n : Int).toNat = n := by omega
  refine lc_iv (n := n) (Iv D) hn (D0 D nD) (fun j acc H' hj iv hD => ⟨by show j < (n : Int).toNat; omega, fun y H'' hy => ?_⟩) fun acc H' iv hD => ⟨by show (n : Int).toNat ≤ n; omega, hd D nD acc H' iv hD⟩
  obtain ⟨e1, e2⟩ := hy
  obtain ⟨h1, h2⟩ := hs D nD j acc H' hj iv hD
  subst e1
  have e3 : y = V.int (j : Int) := by
    rw [e2]
    congr 1
    omega
  subst e3
  exact ⟨_, true, fun Q h => h, h1, fun R h => yes_at h, fun _ => h2, fun h => by cases h⟩
theorem tLc_rng {ta : TA} {te : TE} {i : Nat} {vs : List Nat} {σ : SS} {H : Hp} {Q : VK} (n : Nat) (h0 : ∀ R : List V → Hp → Prop, R [.int n] H → ta σ H R) (hn : n ≤ sizeLine) (Iv : Nat → List V → Hp → Prop) (D0 : ∀ D, H D = none → Iv 0 [] (upd H D (.lst [])))
    (hs : ∀ D, H D = none → ∀ j acc H', j < n → Iv j acc H' → H' D = some (.lst acc) → wipe ((wipe σ vs).set i (some (.int (j : Int)))) vs = wipe σ vs ∧ ∀ R2 : VK, (∀ v H4, H4 D = some (.lst acc) → Iv (j + 1) (acc ++ [v]) (upd H4 D (.lst (acc ++ [v]))) → R2 v H4) → te ((wipe σ vs).set i (some (.int (j : Int)))) H' R2)
    (hd : ∀ D, H D = none → ∀ acc H', Iv n acc H' → H' D = some (.lst acc) → Q (.ref D) H') : tLc (iRng1 ta) (gName i) tYes te vs σ H Q :=
  tLc_rngB (fun m H' => m = n ∧ H' = H) (fun R h => h0 R (h n H ⟨rfl, rfl⟩)) fun m H' ⟨e1, e2⟩ => by
    subst e1 e2
    exact ⟨hn, fun _ => Iv, D0, hs, hd⟩
/-- [c for c in x if ..], x a text -/
theorem tLc_strF {K : PySem.W.Frag} {te0 te : TE} {tt : TT} {i : Nat} {vs : List Nat} {σ : SS} {H : Hp} {Q : VK} (x : Str) (f : Nat → Bool) (h0 : ∀ R : VK, R (.str x) H → te0 σ H R) (hx : x.length ≤ sizeLine)
    (hs : ∀ (c : Nat) (H' : Hp), c ∈ x.cps.toList → Same H H' → wipe ((wipe σ vs).set i (some (.str ⟨#[c]⟩))) vs = wipe σ vs ∧ (∀ R : Bool → Hp → Prop, R (f c) H' → tt ((wipe σ vs).set i (some (.str ⟨#[c]⟩))) H' R) ∧ (∀ R2 : VK, R2 (.str ⟨#[c]⟩) H' → te ((wipe σ vs).set i (some (.str ⟨#[c]⟩))) H' R2))
    (hd : ∀ D H', H D = none → Same H H' → H' D = some (.lst ((x.cps.toList.filter f).map fun c => V.str ⟨#[c]⟩)) → Q (.ref D) H') : tLc (iSeq K te0) (gName i) tt te vs σ H Q := by
  refine .inr (.inr (h0 _ ⟨x, rfl, fun D nD => ?_⟩))
  have hl : x.cps.size = x.cps.toList.length := by simp
  refine lc_iv (n := x.cps.size) (fun j acc H' => acc = ((x.cps.toList.take j).filter f).map (fun c => V.str ⟨#[c]⟩) ∧ Same H H') hx ⟨rfl, fun b o e => by rw [upd_ne (ne_of_none e nD)]; exact e⟩ ?_ ?_
  · rintro j acc H' hj ⟨rfl, s⟩ hD
    refine ⟨hj, fun y H'' hy => ?_⟩
    obtain ⟨rfl, c, hc, rfl⟩ := hy
    have hc' : x.cps.toList[j]? = some c := by simpa using hc
    obtain ⟨h1, h2, h3⟩ := hs c H'' (List.mem_of_getElem? hc') s
    have et : x.cps.toList.take (j + 1) = x.cps.toList.take j ++ [c] := by rw [List.take_add_one, hc']; rfl
    refine ⟨_, f c, fun Q h => h, h1, h2, fun hf R2 h => h3 _ (h _ _ hD ⟨?_, fun b o e => ?_⟩), fun hf => ⟨hD, ?_, s⟩⟩
    · rw [et, List.filter_append, List.map_append]
      simp [hf]
    · rw [upd_ne (ne_of_none e nD)]
      exact s b o e
    · rw [et, List.filter_append, List.map_append]
      simp [hf]
  · rintro acc H' ⟨rfl, s⟩ hD
    refine ⟨Nat.le_refl _, hd D H' nD s ?_⟩
    rw [hD, hl, List.take_length]
/-! ### numbers' own texts from 0 on, sign by sign -/
theorem isOwn_eq (w : Tx) : isOwnT w = (decide (w ≠ []) && (w.all isFig && (decide (w = [48]) || decide (w.take 1 ≠ [48])))) := by
  cases w with
  | nil => decide +kernel
  | cons c r =>
    unfold isOwnT
    by_cases hc : c = 45
    · subst hc
      rw [show decide ((45 :: r).take 1 ≠ [45]) = false by simp, Bool.and_false]
      rw [List.all_cons, show isFig 45 = false by decide +kernel]
      simp
    · have e1 : decide ((c :: r).take 1 ≠ [45]) = true := by simpa using hc
      rw [e1, Bool.and_true]
      unfold isNumT
      have ef : figsOf (c :: r) = c :: r := by unfold figsOf; rw [if_neg (by simpa using hc)]
      rw [ef]
      by_cases ha : (c :: r).all isFig = true
      · have et : (c :: r).takeWhile isFig = c :: r := by have := (tw_app (n := c :: r) (r := []) ha (by simp)).1; rwa [List.append_nil] at this
        rw [if_neg (by rw [et]; simp), ha]
        simp
      · have hl : ((c :: r).takeWhile isFig).length < (c :: r).length := by
          have h1 := (List.takeWhile_prefix (l := c :: r) isFig).length_le
          rcases Nat.lt_or_ge ((c :: r).takeWhile isFig).length (c :: r).length with h | h
          · exact h
          · exfalso
            have e := (List.takeWhile_prefix (l := c :: r) isFig).eq_of_length (by omega)
            apply ha
            rw [← e]
            exact List.all_takeWhile
        rw [if_pos (.inr hl)]
        rw [Bool.not_eq_true] at ha
        rw [ha]
        simp
/-- a list of signs as data -/
theorem signs_dp {K : PySem.W.Frag} {H : Hp} : ∀ l : Tx, DpAll K H (l.map fun c => V.str ⟨#[c]⟩) (l.map fun c => PyData.str ⟨#[c]⟩)
  | [] => .nil
  | c :: r => .cons (.str _) (signs_dp r)
theorem signs_shaped {l : Tx} (h : ∀ c ∈ l, c < 1114112) : SeqAt.shaped (.list (l.map fun c => PyData.str ⟨#[c]⟩)) = true := by
  have hc : PyData.canLayAll0 (l.map fun c => PyData.str ⟨#[c]⟩) = true ∧ PyData.depthAll (l.map fun c => PyData.str ⟨#[c]⟩) = 0 := by
    induction l with
    | nil => exact ⟨rfl, rfl⟩
    | cons c r ih =>
      obtain ⟨h1, h2⟩ := ih fun c hc => h c (List.mem_cons_of_mem _ hc)
      simp only [List.map_cons, PyData.canLayAll0, PyData.depthAll, PyData.canLay0, PyData.depth, h1, h2]
      refine ⟨?_, rfl⟩
      have := h c (by simp)
      simp [PyData.strOk, this]
  unfold SeqAt.shaped
  simp [PyData.canLay0, PyData.depth, hc.1, hc.2]
theorem signs_eqv (l : Tx) : PyData.eqv (.list (l.map fun c => PyData.str ⟨#[c]⟩)) (.list []) = decide (l = []) := by
  cases l with
  | nil => rfl
  | cons c r => rfl
end Sk

/-! ## SkV -/
namespace Sk
open PySem PySem.Spec PyProof.Rows L2
/-! ### sets of texts that may be walked -/
def keyS (e : Int × Value) : Str := match e.2 with | .str k _ => k | _ => Str.empty
def GoodS (w : World) (e : Int × Value) : Prop := ∃ k tk, e.2 = Value.str k tk ∧ e.1 = hashStr w k
/-- the set of texts at a: S its members, n their number; its table rises and can be walked -/
def SetRS (w : World) (h : Heap) (a : Addr) (S : Str → Bool) (n : Nat) : Prop :=
  ∃ o es ep t, h.get? a = some o ∧ o.ExactSet ∧ o.data = .set es ep t ∧ (∀ e ∈ es.toList, GoodS w e) ∧ (es.toList.map keyS).Nodup ∧ (∀ k, S k = true ↔ k ∈ es.toList.map keyS) ∧
    es.size < scanBound ∧ t.fits es.size = true ∧ es.size = n ∧ Ris t.place.toList ∧ (w.params.followText "set-order" = true ∨ t.led = true)
section
variable {P : Program} {w : World} {h h' : Heap} {a : Addr} {S : Str → Bool} {n : Nat}
theorem SetRS.at (R : SetRS w h a S n) (k : ∀ o, h.get? a = some o → h'.get? a = some o) : SetRS w h' a S n := by
  obtain ⟨o, es, ep, t, ho, r⟩ := R
  exact ⟨o, es, ep, t, k o ho, r⟩
theorem SetRS.congr {S' : Str → Bool} (R : SetRS w h a S n) (e : ∀ k, S' k = S k) : SetRS w h a S' n := by
  have q : S' = S := funext e
  rw [q]; exact R
theorem goodS_elems {l : List (Int × Value)} (g : ∀ e ∈ l, GoodS w e) : ElemsOf (strKind P w) l := fun e he => by
  obtain ⟨k, tk, h1, h2⟩ := g e he
  exact ⟨⟨k, by rw [h1]; exact strKind_is P w k tk, h2⟩, by rw [h1] <;> rfl⟩
theorem goodS_is {e : Int × Value} (g : GoodS w e) (k : Str) : (strKind P w).is k e.2 = true ↔ keyS e = k := by
  obtain ⟨k0, tk, h1, _⟩ := g
  unfold keyS
  rw [h1]
  show (Value.isStrOf k (.str k0 tk) = true) ↔ k0 = k
  simp [Value.isStrOf]
theorem goodS_mem {l : List (Int × Value)} (g : ∀ e ∈ l, GoodS w e) (k : Str) : k ∈ l.map keyS ↔ ∃ e ∈ l, (strKind P w).is k e.2 = true := by
  rw [List.mem_map]
  constructor
  · rintro ⟨e, he, q⟩
    exact ⟨e, he, (goodS_is (g e he) k).2 q⟩
  · rintro ⟨e, he, q⟩
    exact ⟨e, he, (goodS_is (g e he) k).1 q⟩
end
section
variable {P : Program} {w : World} {A : Around} {E : Value → Shared → Prop} {s : Shared} {a : Addr} {S : Str → Bool} {n : Nat}
theorem setRS_add_tail {g : Bool → Sem Unit} (hg : ∀ (b : Bool) (s₁ : Shared) (Q' : Unit → Shared → Prop), Q' () s₁ → wpAny (model P w) A (g b) Q' E s₁)
    {o : Obj} {es : Array (Int × Value)} {ep : Nat} {t : SetTable} (ho : s.heap.get? a = some o) (hex : o.ExactSet) (hd : o.data = .set es ep t)
    {es1 : Array (Int × Value)} {t2 : SetTable} {S' : Str → Bool} (g1 : ∀ e ∈ es1.toList, GoodS w e) (nd1 : (es1.toList.map keyS).Nodup) (m1 : ∀ k, S' k = true ↔ k ∈ es1.toList.map keyS)
    (hb1 : es1.size < scanBound) (hf2 : t2.fits es1.size = true) (hr : Ris t2.place.toList) (hl : w.params.followText "set-order" = true ∨ t2.led = true) {wasDummy : Bool} {R : Option Bool → Shared → Prop}
    (hR : ∀ h', Heap.SameBut a s.heap h' → SetRS w h' a S' es1.size → R (some true) { s with heap := h' }) :
    wpAny (model P w) A (do
        storeSet a es1 t2
        if (!wasDummy && t2.tooFull) = true then do
            g (relayAll t2 es1 (SetTable.grown es1.size)).2.2
            storeSet a (relayAll t2 es1 (SetTable.grown es1.size)).1 (relayAll t2 es1 (SetTable.grown es1.size)).2.1
            pure (some true)
          else pure (some true)) R E s := by
  refine wpAny_bind (wpAny_storeSet_of ho hd ?_ (fits_of_scanBound hb1))
  have ho1 := store_at (es' := es1) (t' := t2) ho hd
  have sb1 := Heap.SameBut.update s.heap a (Obj.putSet es1 t2)
  split
  · have pm := relayAll_perm t2 es1 (SetTable.grown es1.size)
    have hf3 := relayAll_fits t2 es1 (SetTable.grown es1.size)
    have hr3 := relayAll_ris t2 es1 (SetTable.grown es1.size)
    have hl3 := relayAll_led t2 es1 (SetTable.grown es1.size)
    generalize relayAll t2 es1 (SetTable.grown es1.size) = Z at pm hf3 hr3 hl3 ⊢
    obtain ⟨es2, t3, gave⟩ := Z
    dsimp only at pm hf3 hr3 hl3 ⊢
    have hsz : es2.size = es1.size := by rw [← Array.length_toList, pm.length_eq, Array.length_toList]
    have hb2 : es2.size < scanBound := by rw [hsz]; exact hb1
    refine wpAny_bind (hg _ _ _ ?_)
    refine wpAny_bind (wpAny_storeSet_of ho1 rfl ?_ (fits_of_scanBound hb2))
    have ho2 := store_at (es' := es2) (t' := t3) ho1 rfl
    refine wpAny_pure (hR _ (sb1.trans (Heap.SameBut.update _ a _)) ?_)
    exact ⟨_, es2, _, t3, ho2, hex, rfl, fun e he => g1 e (pm.mem_iff.mp he), (pm.map keyS).nodup_iff.mpr nd1, fun k => (m1 k).trans (pm.map keyS).mem_iff.symm, hb2, hf3, hsz, hr3,
      hl.imp id fun z => by rw [hl3]; exact z⟩
  · exact wpAny_pure (hR _ sb1 ⟨_, es1, _, t2, ho1, hex, rfl, g1, nd1, m1, hb1, hf2, rfl, hr, hl⟩)
theorem setRS_add {k : Str} {tk : Tok} {Q : Bool → Shared → Prop} (R : SetRS w s.heap a S n) (room : n + 1 < scanBound)
    (hQ : ∀ h', Heap.SameBut a s.heap h' → SetRS w h' a (fun j => S j || decide (j = k)) (if S k = true then n else n + 1) → Q (!S k) { s with heap := h' }) :
    wpAny (model P w) A (setAddHashed a (.str k tk) ((strKind P w).hash k)) Q E s := by
  obtain ⟨o, es, ep, t, ho, hex, hd, g, nd, hm, hb, hf, hn, hr, hl⟩ := R
  have hkey : (strKind P w).is k (.str k tk) = true := strKind_is P w k tk
  have hsc : (Value.str k tk).scannable = true := rfl
  have hel : ElemsOf (strKind P w) es.toList := goodS_elems g
  unfold setAddHashed setAddHashedIn
  refine wpAny_holding (wpAny_bind (wpAny_setState_of ho hd hf ?_))
  dsimp only
  rw [byScan_of hsc hb hel]
  simp only [↓reduceIte]
  unfold setAddByScan
  refine wpAny_bind ?_
  refine wpAny_bind (wpAny_rule ?_)
  refine wpAny_bind (wpAny_setScan_of hkey ho hd hf hel ?_)
  cases hfi : List.findIdx? (fun e => (strKind P w).is k e.2) es.toList with
  | some j =>
    dsimp only
    obtain ⟨hj, pj, _⟩ := List.findIdx?_eq_some_iff_getElem.mp hfi
    have hSk : S k = true := (hm k).2 ((goodS_mem (P := P) g k).2 ⟨es.toList[j], List.getElem_mem hj, pj⟩)
    refine wpAny_pure (wpAny_pure ?_)
    have q := hQ s.heap (Heap.SameBut.refl a s.heap) ⟨o, es, ep, t, ho, hex, hd, g, nd, fun i => by
      rw [Bool.or_eq_true, decide_eq_true_eq, ← hm i]
      exact ⟨fun z => z.elim id (fun e => e ▸ hSk), .inl⟩, hb, hf, by rw [if_pos hSk]; exact hn, hr, hl⟩
    rw [hSk] at q
    exact q
  | none =>
    dsimp only
    have hnk : k ∉ es.toList.map keyS := fun z => by
      obtain ⟨e, he, q⟩ := (goodS_mem (P := P) g k).1 z
      have c := List.findIdx?_eq_none_iff.mp hfi e he
      rw [q] at c
      cases c
    have hSk : S k = false := by
      cases q : S k with
      | false => rfl
      | true => exact absurd ((hm k).1 q) hnk
    have hgw : ∀ (b : Bool) {s₁ : Shared} {Q' : Unit → Shared → Prop}, Q' () s₁ → wpAny (model P w) A (match b with | true => rule "set.scan.the-table-gave-way" | false => pure ()) Q' E s₁ :=
      fun b s₁ Q' q => by cases b <;> first | exact wpAny_pure q | exact wpAny_rule q
    have pm := layNew_perm t es ((strKind P w).hash k) (.str k tk)
    have hf1 := layNew_fits t es ((strKind P w).hash k) (.str k tk)
    have hr1 := layNew_ris t es ((strKind P w).hash k) (.str k tk) hr
    have hl1 := layNew_led t es ((strKind P w).hash k) (.str k tk)
    generalize layNew t es ((strKind P w).hash k) (.str k tk) = Z at pm hf1 hr1 hl1 ⊢
    obtain ⟨es1, t1, wasDummy, gave⟩ := Z
    dsimp only at pm hf1 hr1 hl1 ⊢
    rw [Array.toList_push] at pm
    have pc : es1.toList.Perm (((strKind P w).hash k, Value.str k tk) :: es.toList) := pm.trans (List.perm_append_singleton _ _)
    have pk : (es1.toList.map keyS).Perm (k :: es.toList.map keyS) := pc.map keyS
    have g1 : ∀ e ∈ es1.toList, GoodS w e := fun e he => by
      rcases List.mem_cons.mp (pc.mem_iff.mp he) with z | z
      · rw [z]; exact ⟨k, tk, rfl, rfl⟩
      · exact g e z
    have nd1 : (es1.toList.map keyS).Nodup := pk.nodup_iff.mpr (List.nodup_cons.mpr ⟨hnk, nd⟩)
    have m1 : ∀ i, (S i || decide (i = k)) = true ↔ i ∈ es1.toList.map keyS := fun i => by
      rw [Bool.or_eq_true, decide_eq_true_eq, hm i, pk.mem_iff, List.mem_cons]
      exact Or.comm
    have hsz : es1.size = n + 1 := by rw [← Array.length_toList, pc.length_eq, List.length_cons, Array.length_toList, hn]
    have hb1 : es1.size < scanBound := by rw [hsz]; exact room
    have hled : w.params.followText "set-order" = true ∨ t1.led = true := hl.imp id fun z => by rw [hl1]; exact z
    have fin : ∀ h', Heap.SameBut a s.heap h' → SetRS w h' a (fun j => S j || decide (j = k)) es1.size → Q true { s with heap := h' } := fun h' sb r => by
      have q := hQ h' sb
      rw [hSk] at q
      rw [hsz] at r
      exact q r
    refine wpAny_bind (hgw _ ?_)
    split
    · refine wpAny_bind ?_
      rw [hashByValue_scannable 8 hsc]
      refine wpAny_pure ?_
      refine setRS_add_tail ?_ ho hex hd g1 nd1 m1 hb1 ?_ ?_ ?_ ?_
      · intro b s₁ Q' q; cases b <;> first | exact wpAny_pure q | exact wpAny_rule q
      · first | (split <;> first | exact hf1 | exact SetTable.fits_plain_off hf1) | exact hf1
      · first | (split <;> exact hr1) | exact hr1
      · first | (split <;> exact hled) | exact hled
      · intro h' sb r; dsimp only; exact wpAny_pure (fin h' sb r)
    · refine wpAny_bind (wpAny_pure ?_)
      simp only [↓reduceIte]
      refine setRS_add_tail ?_ ho hex hd g1 nd1 m1 hb1 hf1 hr1 hled ?_
      · intro b s₁ Q' q; cases b <;> first | exact wpAny_pure q | exact wpAny_rule q
      · intro h' sb r; dsimp only; exact wpAny_pure (fin h' sb r)
/-- what is known of the set when i texts went in -/
def Got (w : World) (h : Heap) (S : Addr) (xs : List Str) (i : Nat) : Prop := ∃ m, SetRS w h S (fun k => (xs.take i).any (· == k)) m ∧ m ≤ i ∧ ((xs.take i).Nodup ↔ m = i)
theorem Got.at_ {h h' : Heap} {S : Addr} {xs : List Str} {i : Nat} (g : Got w h S xs i) (k : ∀ o, h.get? S = some o → h'.get? S = some o) : Got w h' S xs i := by
  obtain ⟨m, R, h1⟩ := g
  exact ⟨m, R.at k, h1⟩
theorem any_take {xs : List Str} {i : Nat} (hi : i < xs.length) (k : Str) : (xs.take (i + 1)).any (· == k) = ((xs.take i).any (· == k) || decide (k = xs.getD i Str.empty)) := by
  have e : xs.take (i + 1) = xs.take i ++ [xs.getD i Str.empty] := by
    rw [List.take_add_one, List.getElem?_eq_getElem hi, List.getD_eq_getElem?_getD, List.getElem?_eq_getElem hi]
    rfl
  rw [e, List.any_append]
  congr 1
  by_cases h : k = xs.getD i Str.empty
  · subst h
    simp
  · rw [decide_eq_false h]
    simpa using fun e => h e.symm
theorem any_mem {xs : List Str} {k : Str} : xs.any (· == k) = true ↔ k ∈ xs := by
  rw [List.any_eq_true]
  constructor
  · rintro ⟨x, hx, e⟩
    rw [← beq_iff_eq.mp e]
    exact hx
  · exact fun h => ⟨k, h, beq_self_eq_true k⟩
end
section
variable {prog : Program} {w : World} {A : Around} {R : Result → Shared → Prop} {I : Addr} {fp wr : List Addr} {G : Array GenState → Array GenState → Prop} {n : Nat} {P : Nat → Value → Prop} {St : Nat → Shared → Prop}
theorem loopRS (W : WalksS prog w A.in1 I fp wr G n P St) (S : Addr) (hSf : S ∉ fp) (xs : List Str) (hsz : xs.length = n) (hn1 : n < 4000)
    (hval : ∀ i v, P i v → ∃ t, v = .str (xs.getD i Str.empty) t) :
    ∀ (k i : Nat) (s : Shared), n - i = k → i ≤ n → St i s → Got w s.heap S xs i →
      (∀ s', Moved (S :: wr) G s s' → Got w s'.heap S xs n → R (.ok (.ret .none)) s') →
      codeAny (model prog w) A (.builtin "set.update.loop" ⟨[.ref S, .ref I], []⟩) R s := by
  have hSw : S ∉ wr := fun h => hSf (W.sub _ h)
  have hsub : ∀ b ∈ wr, b ∈ S :: wr := fun b hb => List.mem_cons_of_mem _ hb
  intro k
  induction k with
  | zero =>
    intro i s hk hi hst hS hR
    have hin : i = n := by omega
    subst hin
    refine codeAny_builtin PyProof.Rows.F.entry_set_update_loop ?_
    rw [Around.under_plainId PyProof.Rows.F.plain_set_update_loop _]
    show wpAny _ A.in1 (pyNext (.ref I) >>= _) _ _ s
    refine wpAny_bind (W.done s _ _ hst fun s' hm => ?_)
    show wpAny _ A.in1 (ret Value.none) _ _ s'
    exact wpAny_pure (hR s' (hm.mono hsub) (hS.at_ fun o ho => hm.heap S _ hSw ho))
  | succ k ih =>
    intro i s hk hi hst hS hR
    have hlt : i < n := by omega
    refine codeAny_builtin PyProof.Rows.F.entry_set_update_loop ?_
    rw [Around.under_plainId PyProof.Rows.F.plain_set_update_loop _]
    show wpAny _ A.in1 (pyNext (.ref I) >>= _) _ _ s
    refine wpAny_bind (W.item i s _ _ hlt hst fun v s' hP hst' hm => ?_)
    obtain ⟨t, rfl⟩ := hval i v hP
    obtain ⟨m, hS', hmi, hnd⟩ := hS.at_ fun o ho => hm.heap S _ hSw ho
    show wpAny _ A.in1 (holding [Value.str (xs.getD i Str.empty) t] (setAdd S (.str (xs.getD i Str.empty) t)) >>= _) _ _ s'
    refine wpAny_bind (wpAny_holding ?_)
    unfold setAdd
    refine wpAny_holding ?_
    refine wpAny_bind ((PySem.strKind prog w).pyHash (k := xs.getD i Str.empty) (strKind_is _ _ _ _) ?_)
    refine setRS_add (s := { s' with toks := s'.toks + 1 }) hS' (by unfold scanBound; omega) fun h' hsb hS2 => ?_
    have hSi : Got w h' S xs (i + 1) := by
      refine ⟨_, hS2.congr fun k' => any_take (by omega) k', by split <;> omega, ?_⟩
      have e : xs.take (i + 1) = xs.take i ++ [xs.getD i Str.empty] := by
        rw [List.take_add_one, List.getElem?_eq_getElem (by omega), List.getD_eq_getElem?_getD, List.getElem?_eq_getElem (by omega)]
        rfl
      rw [e]
      constructor
      · intro nd
        obtain ⟨n1, n2, n3⟩ := List.nodup_append.mp nd
        rw [if_neg (fun h => n3 _ (any_mem.mp h) _ (by simp) rfl), hnd.mp n1]
      · intro h
        split at h
        · omega
        · rename_i hn
          refine List.nodup_append.mpr ⟨hnd.mpr (by omega), by simp, fun a ha b hb hab => hn (any_mem.mpr ?_)⟩
          rw [List.mem_singleton] at hb
          rw [← hb, ← hab]
          exact ha
    refine wpAny_pure ⟨plainId_quiet PyProof.Rows.F.plain_set_update_loop _, ih (i + 1) _ (by omega) hlt (W.frame _ s' _ _ hst' (Nat.le_succ _) fun b hb o e => ?_) hSi fun s'' hm'' hS'' => ?_⟩
    · rw [hsb.2 b (fun h : b = S => hSf (by rw [← h]; exact hb))]; exact e
    · refine hR s'' (Moved.trans W.gtrans ((hm.mono hsub).then_heap (Nat.le_succ _) fun b o hb e => ?_) hm'') hS''
      rw [hsb.2 b (fun h : b = S => hb (by rw [h]; exact List.mem_cons_self))]; exact e
end
theorem setRS_fresh {h : Heap} {a : Addr} {w : World} (ho : h.get? a = some { cls := .type "set", dict := none, data := .set #[] 0 (.fresh 0 0 (!w.params.followText "set-order")) }) : SetRS w h a (fun _ => false) 0 :=
  ⟨_, #[], 0, _, ho, ⟨rfl, rfl, rfl⟩, rfl, (fun e he => by simp at he), (by simp), (fun k => by simp), (by decide), (by rfl), rfl, List.Pairwise.nil, by
    show _ ∨ (!w.params.followText "set-order") = true
    cases w.params.followText "set-order"
    · exact .inr rfl
    · exact .inl rfl⟩
section
variable {prog : Program} {w : World} {A : Around} {E : Value → Shared → Prop} {s : Shared}
theorem call_setRS {l : Addr} {items : Array Value} {xs : List Str} {Q : Value → Shared → Prop}
    (hh : A.handled = none) (hl : s.heap.IsList l items) (hi : PyProof.Rows.StrsAre items.toList xs) (hn1 : xs.length < 4000)
    (h : ∀ (h' : Heap) (tk : Nat), Got w h' s.heap.objs.size xs xs.length →
      (∀ b o, b < s.heap.objs.size → s.heap.get? b = some o → h'.get? b = some o) → Q (.ref s.heap.objs.size) { s with heap := h', toks := tk }) :
    wpAny (model prog w) A (call (.type "set") [.ref l]) Q E s := by
  have hisz : items.size = xs.length := by rw [← Array.length_toList]; exact hi.length
  obtain ⟨c, tl, hmro⟩ := PySem.F.called_set.mro
  have hmade := PySem.F.called_set.made
  have hsub := PySem.F.called_set.sub
  refine wpAny_call (codeAny_of_tree ?_)
  show wpAny _ _ (callAny (.type "set") _) _ _ _
  refine wpAny_pure ⟨Code.quiet_builtin _ (by decide +kernel), codeAny_builtin PySem.F.entry_type_call ?_⟩
  rw [Around.under_plain (weight_type_call_type "set" [.ref l] []) rfl]
  have h1 := PySem.F.called_set.notType
  have h2 := PySem.F.called_set.canCreate
  have hct := PySem.F.typeCall_set_1 (.ref l)
  repeat (any_goals (first | assumption | wp_step))
  refine codeAny_mono (code_set_led1 (.ref l) (E := E) (Q₁ := fun obj s₁ => obj = .ref s.heap.objs.size ∧ s₁ = { s with heap := s.heap.push { cls := .type "set", dict := none, data := .set #[] 0 (.fresh 0 0 (!w.params.followText "set-order")) } }) ⟨rfl, rfl⟩) fun r s₁ hr => ?_
  cases r with
  | error e => exact hr
  | ok fl =>
    cases fl with
    | ret obj =>
      obtain ⟨rfl, rfl⟩ := hr
      have hS : (s.heap.push { cls := .type "set", dict := none, data := .set #[] 0 (.fresh 0 0 (!w.params.followText "set-order")) }).get? s.heap.objs.size = some { cls := .type "set", dict := none, data := .set #[] 0 (.fresh 0 0 (!w.params.followText "set-order")) } := Heap.get?_push_size _ rfl
      have hT : Shared.TypeIs { s with heap := s.heap.push { cls := .type "set", dict := none, data := .set #[] 0 (.fresh 0 0 (!w.params.followText "set-order")) } } (.ref s.heap.objs.size) "set" := ⟨_, hS, rfl⟩
      have hli := PySem.F.called_set.init.lookup
      have hbi := PySem.F.called_set.init.bind (.ref s.heap.objs.size)
      repeat (any_goals (first | assumption | wp_step))
      refine codeAny_mono (codeAny_call_builtin (R := wants (fun r s₂ => r = .none ∧ ∃ h' tk, s₂ = { s with heap := h', toks := tk } ∧
          Got w h' s.heap.objs.size xs xs.length ∧
          (∀ b o, b < s.heap.objs.size → s.heap.get? b = some o → h'.get? b = some o)) E) PySem.F.called_set.init.plain PySem.F.entry_set_init (check_set_init_1 hT ?_)) fun r₂ s₂ hr₂ => ?_
      · obtain ⟨ol, hol, hcl, nl, hdl⟩ := hl
        obtain ⟨ocls, odict, odata, oslots⟩ := ol
        simp only at hcl hdl
        subst hcl; subst hdl
        have hol' : (s.heap.push { cls := .type "set", dict := none, data := .set #[] 0 (.fresh 0 0 (!w.params.followText "set-order")) }).get? l = some { cls := .type "list", dict := odict, data := .seq items nl, slots := oslots } := Heap.get?_push_of_some _ hol
        have hsls := PySem.F.sub_list_set
        have hslf := PySem.F.sub_list_frozenset
        have hne : (Value.type "list" == Value.type "dict") = false := by decide
        have hl1 : (s.heap.push { cls := .type "set", dict := none, data := .set #[] 0 (.fresh 0 0 (!w.params.followText "set-order")) }).IsList l items := ⟨_, hol', rfl, nl, rfl⟩
        unfold Builtin.«set.__init__» noKeywords Builtin.Frozenset.updateFrom
        generalize hPI : pyIter = PI
        wp_walk
        subst hPI
        refine wpAny_pyIter_list hl1 ?_
        refine wpAny_bind (wpAny_runValue ?_)
        have hlS : l < s.heap.objs.size := Heap.lt_size hol
        have hh3 : A.in1.in1.in1.handled = none := by simp [hh]
        have hneI : l ≠ (s.heap.push { cls := .type "set", dict := none, data := .set #[] 0 (.fresh 0 0 (!w.params.followText "set-order")) }).objs.size := by
          rw [Heap.size_push]; exact Nat.ne_of_lt (Nat.lt_succ_of_lt hlS)
        have hSf : s.heap.objs.size ∉ [(s.heap.push { cls := .type "set", dict := none, data := .set #[] 0 (.fresh 0 0 (!w.params.followText "set-order")) }).objs.size, l] := by
          rw [Heap.size_push]; simp only [List.mem_cons, List.mem_singleton, List.not_mem_nil, or_false, not_or]
          exact ⟨Nat.ne_of_lt (Nat.lt_succ_self _), Nat.ne_of_gt hlS⟩
        refine loopRS ((Walks.list hh3 _ l hneI items).toS) s.heap.objs.size hSf xs hisz.symm (by omega) (fun i v hv => SS.strs_at hi i v (by rw [Array.getElem?_toList]; exact hv)) (items.size - 0) 0 _ (by omega) (Nat.zero_le _)
          ⟨⟨_, Heap.get?_push_size _ rfl, rfl, rfl⟩, (hl1.push _)⟩ ?hS0 ?hR
        case hS0 =>
          have hget : ((s.heap.push { cls := .type "set", dict := none, data := .set #[] 0 (.fresh 0 0 (!w.params.followText "set-order")) }).push { cls := .type "list_iterator", data := .fields #[.ref l, .int 0 0] }).get? s.heap.objs.size
              = some { cls := .type "set", dict := none, data := .set #[] 0 (.fresh 0 0 (!w.params.followText "set-order")) } := Heap.get?_push_of_some _ hS
          exact ⟨0, setRS_fresh hget, Nat.le_refl _, by simp⟩
        case hR =>
          intro s' hm hS'
          obtain ⟨h', g2, d', tk', os'⟩ := s'
          have eg : g2 = s.gens := hm.gens
          have ed : d' = s.drawn := hm.drawn
          have eo : os' = s.os := hm.os
          subst eg; subst ed; subst eo
          show wpAny _ _ _ _ _ _
          refine wpAny_pure ?_
          show wpAny _ _ (ret Value.none) _ _ _
          rw [hisz] at hS'
          refine wpAny_pure ⟨rfl, h', tk', rfl, hS', fun b o hb e => ?_⟩
          refine hm.heap b o (fun hbm => ?_) (Heap.get?_push_of_some _ (Heap.get?_push_of_some _ e))
          rcases List.mem_cons.mp hbm with z | z
          · exact absurd hb (by rw [z]; exact Nat.lt_irrefl _)
          · rw [List.mem_singleton.mp z, Heap.size_push] at hb
            omega
      · cases r₂ with
        | error e => exact hr₂
        | ok fl₂ =>
          cases fl₂ with
          | ret r =>
            obtain ⟨rfl, h', tk, rfl, hS', hk'⟩ := hr₂
            repeat (any_goals (first | assumption | wp_step))
            exact h _ _ hS' hk'
          | _ => exact hr₂.elim
    | _ => exact hr.elim
theorem strs_of : ∀ (l : List Value), (∀ v ∈ l, ∃ k tk, v = Value.str k tk) → StrsAre l (l.map fun v => match v with | .str k _ => k | _ => Str.empty)
  | [], _ => .nil
  | v :: l, h => by
    obtain ⟨k, tk, rfl⟩ := h v List.mem_cons_self
    exact .cons k tk (strs_of l fun u hu => h u (List.mem_cons_of_mem _ hu))
theorem sorted_setRS {a : Addr} {S : Str → Bool} {n : Nat} {Q : Value → Shared → Prop} (R : SetRS w s.heap a S n) (hh : A.handled = none) (h64 : n < 64)
    (hQ : ∀ s' p (out : Array Value) (c : Nat) (ns : List Str), (∀ b o, s.heap.get? b = some o → s'.heap.get? b = some o) → s'.gens = s.gens → s'.os = s.os → s.heap.objs.size ≤ p →
      s'.heap.get? p = some (seqObj "list" out c) → StrsAre out.toList ns → sortedS ns = true → ns.Nodup → (∀ k, k ∈ ns ↔ S k = true) → ns.length = n → Q (.ref p) s') :
    wpAny (model prog w) A (call (.builtin "sorted") [.ref a]) Q E s := by
  obtain ⟨o, es, ep, t, ho, hex, hd, g, nd, hm, hb, hf, hn, hr, hl⟩ := R
  refine Calls.call_function_entry kind_sorted plain_sorted entry_sorted (args_sorted1 _) ?_
  unfold Builtin.«sorted»
  refine wpAny_bind (m := checkCount "sorted" 1 1 _) (wpAny_pure ?_)
  refine wpAny_bind (collect_set (A := A.in1) hh ⟨o, ho, hex.1, hd⟩ hf hb hr hl fun s1 vs k1 hz g1 o1 pm => ?_)
  have hvl : vs.length = n := by rw [pm.length_eq, List.length_map, Array.length_toList]; exact hn
  have hI : StrsAre vs (vs.map fun v => match v with | .str k _ => k | _ => Str.empty) := strs_of vs fun v hv => by
    obtain ⟨e, he, q⟩ := List.mem_map.mp (pm.mem_iff.mp hv)
    obtain ⟨k, tk, h1, _⟩ := g e he
    exact ⟨k, tk, by rw [← q]; exact h1⟩
  have pk : (vs.map fun v => match v with | .str k _ => k | _ => Str.empty).Perm (es.toList.map keyS) := by
    have q := pm.map (fun v => match v with | .str k _ => k | _ => Str.empty)
    rw [List.map_map] at q
    exact q
  refine wpAny_bind (wpAny_newList ?_ (by rw [hvl, sizeLine_eq]; omega))
  have hoL : (s1.heap.push (seqObj "list" vs.toArray 0)).get? s1.heap.objs.size = some (seqObj "list" vs.toArray 0) := Heap.get?_push_size _ rfl
  refine wpAny_bind (wpAny_holding (wpAny_call_entry slot_list_sort ⟨_, hoL, rfl⟩ entry_list_sort (list_sort_treeK strKind_oneLt hoL hI.keysOf (fun v₁ v₂ rest e => keyKind_strs (by rw [← e]; exact hI)) (by rw [hvl]; exact h64) fun st' hp hs => ⟨_, rfl, ?_⟩) (args_list_sort _)))
  obtain ⟨ns', a1, a2, a3⟩ := sorted_out_str hI hp hs
  obtain ⟨c, hc⟩ := sortedHeap_at (vs := vs) (out := (arrOf st').map (·.2)) hoL
  have pn : ns'.Perm (es.toList.map keyS) := a2.trans pk
  refine wpAny_pure ⟨_, rfl, hQ _ s1.heap.objs.size _ c ns' (fun b u e => ?_) g1 o1 hz hc a1 a3 (pn.nodup_iff.mpr nd) (fun k => by rw [pn.mem_iff, ← hm k]) ?_⟩
  · have q := k1 b u e
    have hlt := Heap.lt_size q
    show (sortedHeap (s1.heap.push (seqObj "list" vs.toArray 0)) s1.heap.objs.size vs _).get? b = some u
    rw [sortedHeap_old (Nat.ne_of_lt hlt) (by rw [size_push']; exact Nat.lt_succ_of_lt hlt)]
    exact Heap.get?_push_of_some _ q
  · rw [pn.length_eq, List.length_map, Array.length_toList]; exact hn
end
section
variable {X : Cx}
/-- sorted(set(xs)), xs a list of texts -/
def tSortSet (K : PySem.W.Frag) (ta : TE) : TE := fun σ H Q => ta σ H fun x H1 => ∃ l, ∃ xs : List Str, x = .ref l ∧ SqL K H1 l (xs.map V.str) ∧ xs.length < 64 ∧
  ∀ (ns : List Str) (p : Addr), sortedS ns = true → ns.Nodup → (∀ k, k ∈ ns ↔ k ∈ xs) → ns.length ≤ xs.length → H1 p = none → Q (.ref p) (upd H1 p (.lst (ns.map V.str)))
theorem pe_sortSet {K : PySem.W.Frag} {a : Expr} {ta : TE} {p p2 q pos : Pos} (hK : X.K = K) (hc : X.calm = true) (hg : Gl X "sorted") (hm : X.mg "sorted" = none) (hg2 : Gl X "set") (hm2 : X.mg "set" = none) (ha : PE X a ta)
    (na : starEach [a] X.env = (false, eval a X.env) :: starEach [] X.env := by rfl) : PE X (.Call (.Name "sorted" p) [.Call (.Name "set" p2) [a] [] q] [] pos) (tSortSet K ta) := by
  subst hK
  refine ⟨fun pins s σ H Q I h => ?_⟩
  refine Call_ (ld_blt I hg hm boot_sorted ?_)
  refine PyProof.Rows.callWith_builtin1 (PyProof.Rows.args_cons ?_ rfl) rfl rfl
  refine Call_ (ld_blt I hg2 hm2 boot_set ?_)
  refine PyProof.Rows.callWith_type1 (PyProof.Rows.args_cons (thn (ha.run pins s σ H _ I h) fun v s1 ⟨x, H1, I1, r1, q1⟩ => PyProof.Rows.args_nil ?_) na) na rfl
  obtain ⟨l, xs, rfl, hq, h64, q1⟩ := q1
  cases r1
  obtain ⟨its, r, pl, hz⟩ := I1.list hq
  refine call_setRS (I1.ok.hd hc) pl.isList (by simpa using strsAre_of r) (by omega) fun h' tk hS hk => ?_
  refine PyProof.Rows.args_nil ?_
  obtain ⟨m, R, hle, _⟩ := hS
  have I2 : Inv X pins σ H1 { s1 with heap := h', toks := tk } := I1.kept fun b o e => hk b o (Heap.lt_size e) e
  have hgs : ({ s1 with heap := h', toks := tk } : Shared).heap = h' := rfl
  rw [← hgs] at R
  generalize ({ s1 with heap := h', toks := tk } : Shared) = s2 at R I2 ⊢
  refine sorted_setRS R (I2.ok.hd hc) (by omega) fun s' p out c ns k g o hp hg hi hs hnd hm hl => ?_
  have hlen : (ns.map V.str).length ≤ sizeLine := by rw [List.length_map, hl, sizeLine_eq]; omega
  have hn : H1 p = none := I2.hok.fresh hp
  have J : Inv X pins σ (upd H1 p (.lst (ns.map V.str))) { s2 with heap := s'.heap, gens := s'.gens, drawn := s'.drawn, toks := s'.toks } :=
    I2.call (ch := []) (Un.laid k hp hn) (I2.hok.laid k hp ⟨hlen, out.toList, c, vals_of_strs hi, hg⟩) (by rw [g]; exact I2.bare) (fun _ z => nomatch z)
  have e : s' = { s2 with heap := s'.heap, gens := s'.gens, drawn := s'.drawn, toks := s'.toks } := by
    cases s'
    cases s2
    cases o
    rfl
  rw [e]
  refine ⟨.ref p, _, J, rfl, q1 ns p hs hnd (fun k => ?_) (by omega) hn⟩
  rw [hm k, List.take_length]
  exact any_mem
/-- len(set(xs)), xs a list of unlike texts -/
def tLenSetU (K : PySem.W.Frag) (ta : TE) : TE := fun σ H Q => ta σ H fun x H1 => ∃ l, ∃ xs : List Str, x = .ref l ∧ SqL K H1 l (xs.map V.str) ∧ xs.length < 4000 ∧ ∀ m : Nat, m ≤ xs.length → (xs.Nodup ↔ m = xs.length) → Q (.int m) H1
theorem pe_lenSetU {K : PySem.W.Frag} {a : Expr} {ta : TE} {p p2 q pos : Pos} (hK : X.K = K) (hc : X.calm = true) (hg : Gl X "len") (hm : X.mg "len" = none) (hg2 : Gl X "set") (hm2 : X.mg "set" = none) (ha : PE X a ta)
    (na : starEach [a] X.env = (false, eval a X.env) :: starEach [] X.env := by rfl) : PE X (.Call (.Name "len" p) [.Call (.Name "set" p2) [a] [] q] [] pos) (tLenSetU K ta) := by
  subst hK
  refine ⟨fun pins s σ H Q I h => ?_⟩
  refine Call_ (ld_blt I hg hm boot_len ?_)
  refine PyProof.Rows.callWith_builtin1 (PyProof.Rows.args_cons ?_ rfl) rfl rfl
  refine Call_ (ld_blt I hg2 hm2 boot_set ?_)
  refine PyProof.Rows.callWith_type1 (PyProof.Rows.args_cons (thn (ha.run pins s σ H _ I h) fun v s1 ⟨x, H1, I1, r1, q1⟩ => PyProof.Rows.args_nil ?_) na) na rfl
  obtain ⟨l, xs, rfl, hq, h1, q1⟩ := q1
  cases r1
  obtain ⟨its, r, pl, hz⟩ := I1.list hq
  refine call_setRS (I1.ok.hd hc) pl.isList (by simpa using strsAre_of r) h1 fun h' tk hS hk => ?_
  refine PyProof.Rows.args_nil ?_
  obtain ⟨m, ⟨o, es, ep, t, ho, hex, hd, _, _, _, hb, hf, hn, _⟩, hle, hm⟩ := hS
  rw [List.take_length] at hm
  have I2 : Inv X pins σ H1 { s1 with heap := h', toks := tk } := I1.kept fun b o e => hk b o (Heap.lt_size e) e
  refine call_len_set ho hex hd hf (by rw [hn]; omega) ⟨.int m, H1, I2.tok _, ⟨_, by rw [hn]⟩, q1 m hle hm⟩
end
end Sk

/-! ## SkX -/
namespace Sk
open PySem PySem.Spec PyProof.Rows L2
/-! ### comprehensions of three clauses -/
theorem turn3_0 (elt t0 i0 t1 i1 t2 i2 : Expr) (ifs0 ifs1 ifs2 : List Expr) (scope : Scope) (pos : Pos) (it acc : Value) (env : Env) :
    compTurn (.ListComp elt [⟨t0, i0, ifs0, 0⟩, ⟨t1, i1, ifs1, 0⟩, ⟨t2, i2, ifs2, 0⟩] scope pos) 0 it acc env = (do
      standAt i0.pos
      match ← pyNext it with
      | none => pure (.done .next)
      | some v =>
        letOwnedTupleGo t0 it v
        assign t0 env v
        let mut ok := true
        for c in ifs0 do
          if ok then ok ← isTrue c env (eval c env)
        if ok then
          let x ← eval i1 env
          standAt i1.pos
          let x ← foldedSetIterable i1 env x
          let _ ← runOwn (.compStart (.ListComp elt [⟨t0, i0, ifs0, 0⟩, ⟨t1, i1, ifs1, 0⟩, ⟨t2, i2, ifs2, 0⟩] scope pos) 1 (← holding [x] (pyIter x)) acc env) env
        again (.compLoop (.ListComp elt [⟨t0, i0, ifs0, 0⟩, ⟨t1, i1, ifs1, 0⟩, ⟨t2, i2, ifs2, 0⟩] scope pos) 0 it acc env)) := by rfl
theorem turn3_1 (elt t0 i0 t1 i1 t2 i2 : Expr) (ifs0 ifs1 ifs2 : List Expr) (scope : Scope) (pos : Pos) (it acc : Value) (env : Env) :
    compTurn (.ListComp elt [⟨t0, i0, ifs0, 0⟩, ⟨t1, i1, ifs1, 0⟩, ⟨t2, i2, ifs2, 0⟩] scope pos) 1 it acc env = (do
      standAt i1.pos
      match ← pyNext it with
      | none => pure (.done .next)
      | some v =>
        letOwnedTupleGo t1 it v
        assign t1 env v
        let mut ok := true
        for c in ifs1 do
          if ok then ok ← isTrue c env (eval c env)
        if ok then
          let x ← eval i2 env
          standAt i2.pos
          let x ← foldedSetIterable i2 env x
          let _ ← runOwn (.compStart (.ListComp elt [⟨t0, i0, ifs0, 0⟩, ⟨t1, i1, ifs1, 0⟩, ⟨t2, i2, ifs2, 0⟩] scope pos) 2 (← holding [x] (pyIter x)) acc env) env
        again (.compLoop (.ListComp elt [⟨t0, i0, ifs0, 0⟩, ⟨t1, i1, ifs1, 0⟩, ⟨t2, i2, ifs2, 0⟩] scope pos) 1 it acc env)) := by rfl
theorem turn3_2 (elt t0 i0 t1 i1 t2 i2 : Expr) (ifs0 ifs1 ifs2 : List Expr) (scope : Scope) (pos : Pos) (it acc : Value) (env : Env) :
    compTurn (.ListComp elt [⟨t0, i0, ifs0, 0⟩, ⟨t1, i1, ifs1, 0⟩, ⟨t2, i2, ifs2, 0⟩] scope pos) 2 it acc env = (do
      standAt i2.pos
      match ← pyNext it with
      | none => pure (.done .next)
      | some v =>
        letOwnedTupleGo t2 it v
        assign t2 env v
        let mut ok := true
        for c in ifs2 do
          if ok then ok ← isTrue c env (eval c env)
        if ok then
          (do let _ ← call (.builtin "list.append") [acc, ← eval elt env])
        again (.compLoop (.ListComp elt [⟨t0, i0, ifs0, 0⟩, ⟨t1, i1, ifs1, 0⟩, ⟨t2, i2, ifs2, 0⟩] scope pos) 2 it acc env)) := by rfl
section
variable {prog : Program} {w : World} {A : Around} {R : Result → Shared → Prop} {s : Shared} {elt t0 i0 t1 i1 t2 i2 : Expr} {ifs0 ifs1 ifs2 : List Expr} {scope : Scope} {pos : Pos} {it acc : Value} {env : Env}
theorem loop3_0 (hs : ∀ x, foldedSetIterable i1 env x = pure x) (I : Nat → Shared → Prop)
    (turn : ∀ n s, I n s → wpAny (model prog w) A (pyNext it) (fun r s₁ => match r with
      | none => R (.ok .next) s₁
      | some v => wpAny (model prog w) A (letOwnedTupleGo t0 it v) (fun _ s₁' => wpAny (model prog w) A (assign t0 env v) (fun _ s₂ =>
          wpAny (model prog w) A (forIn ifs0 true fun c r => if r = true then do let ok ← isTrue c env (eval c env); pure (ForInStep.yield ok) else pure (ForInStep.yield r)) (fun ok s₃ =>
            if ok = true then wpAny (model prog w) A (eval i1 env) (fun x s₄ => wpAny (model prog w) A (pyIter x) (fun it1 s₅ =>
              codeAny (model prog w) A (.compStart (.ListComp elt [⟨t0, i0, ifs0, 0⟩, ⟨t1, i1, ifs1, 0⟩, ⟨t2, i2, ifs2, 0⟩] scope pos) 1 it1 acc env) (fun r s' => match r with
                | .ok _ => ∃ m, m < n ∧ I m s'
                | .error _ => False) s₅) (notedBy (model prog w) A env fun e s' => R (.error e) s') s₄) (notedBy (model prog w) A env fun e s' => R (.error e) s') s₃
            else ∃ m, m < n ∧ I m s₃) (notedBy (model prog w) A env fun e s' => R (.error e) s') s₂) (notedBy (model prog w) A env fun e s' => R (.error e) s') s₁') (notedBy (model prog w) A env fun e s' => R (.error e) s') s₁) (notedBy (model prog w) A env fun e s' => R (.error e) s') s)
    (n : Nat) (h : I n s) :
    codeAny (model prog w) A (.compLoop (.ListComp elt [⟨t0, i0, ifs0, 0⟩, ⟨t1, i1, ifs1, 0⟩, ⟨t2, i2, ifs2, 0⟩] scope pos) 0 it acc env) R s := by
  refine codeAny_loop rfl I (fun n s hI => ?_) n h
  show wpAny _ A ((compTurn (.ListComp elt [⟨t0, i0, ifs0, 0⟩, ⟨t1, i1, ifs1, 0⟩, ⟨t2, i2, ifs2, 0⟩] scope pos) 0 it acc env).onRaise (fun x => do noteFrame x env; theTreesLotGoes x)) _ _ s
  refine wpAny_noted ?_
  rw [turn3_0]
  refine wpAny_bind (wpAny_standAt (wpAny_bind (wpAny_mono (turn n s hI) (fun r s₁ h₁ => ?_) fun _ _ h' => h')))
  cases r with
  | none => exact wpAny_pure h₁
  | some v =>
    refine wpAny_bind (wpAny_mono h₁ (fun _ s₁' h₁' => ?_) fun _ _ h' => h')
    refine wpAny_bind (wpAny_mono h₁' (fun _ s₂ h₂ => wpAny_bind (wpAny_mono h₂ (fun ok s₃ h₃ => ?_) fun _ _ h' => h')) fun _ _ h' => h')
    cases ok with
    | false => exact wpAny_pure ⟨rfl, h₃⟩
    | true =>
      refine wpAny_bind (wpAny_mono h₃ (fun x s₄ h₄ => ?_) fun _ _ h' => h')
      refine wpAny_bind (wpAny_standAt (wpAny_bind (wpAny_of_eq (hs x) (wpAny_bind (wpAny_holding (wpAny_mono h₄ (fun it1 s₅ h₅ => ?_) fun _ _ h' => h'))))))
      refine wpAny_bind (wpAny_runOwn ?_)
      rw [Around.mark_none]
      refine codeAny_mono h₅ fun r s' hr => ?_
      cases r with
      | ok f =>
        first
          | exact wpAny_pure ⟨rfl, hr⟩
          | exact wpAny_bind (wpAny_pure (wpAny_pure ⟨rfl, hr⟩))
      | error e => exact hr.elim
theorem loop3_1 (hs : ∀ x, foldedSetIterable i2 env x = pure x) (I : Nat → Shared → Prop)
    (turn : ∀ n s, I n s → wpAny (model prog w) A (pyNext it) (fun r s₁ => match r with
      | none => R (.ok .next) s₁
      | some v => wpAny (model prog w) A (letOwnedTupleGo t1 it v) (fun _ s₁' => wpAny (model prog w) A (assign t1 env v) (fun _ s₂ =>
          wpAny (model prog w) A (forIn ifs1 true fun c r => if r = true then do let ok ← isTrue c env (eval c env); pure (ForInStep.yield ok) else pure (ForInStep.yield r)) (fun ok s₃ =>
            if ok = true then wpAny (model prog w) A (eval i2 env) (fun x s₄ => wpAny (model prog w) A (pyIter x) (fun it1 s₅ =>
              codeAny (model prog w) A (.compStart (.ListComp elt [⟨t0, i0, ifs0, 0⟩, ⟨t1, i1, ifs1, 0⟩, ⟨t2, i2, ifs2, 0⟩] scope pos) 2 it1 acc env) (fun r s' => match r with
                | .ok _ => ∃ m, m < n ∧ I m s'
                | .error _ => False) s₅) (notedBy (model prog w) A env fun e s' => R (.error e) s') s₄) (notedBy (model prog w) A env fun e s' => R (.error e) s') s₃
            else ∃ m, m < n ∧ I m s₃) (notedBy (model prog w) A env fun e s' => R (.error e) s') s₂) (notedBy (model prog w) A env fun e s' => R (.error e) s') s₁') (notedBy (model prog w) A env fun e s' => R (.error e) s') s₁) (notedBy (model prog w) A env fun e s' => R (.error e) s') s)
    (n : Nat) (h : I n s) :
    codeAny (model prog w) A (.compLoop (.ListComp elt [⟨t0, i0, ifs0, 0⟩, ⟨t1, i1, ifs1, 0⟩, ⟨t2, i2, ifs2, 0⟩] scope pos) 1 it acc env) R s := by
  refine codeAny_loop rfl I (fun n s hI => ?_) n h
  show wpAny _ A ((compTurn (.ListComp elt [⟨t0, i0, ifs0, 0⟩, ⟨t1, i1, ifs1, 0⟩, ⟨t2, i2, ifs2, 0⟩] scope pos) 1 it acc env).onRaise (fun x => do noteFrame x env; theTreesLotGoes x)) _ _ s
  refine wpAny_noted ?_
  rw [turn3_1]
  refine wpAny_bind (wpAny_standAt (wpAny_bind (wpAny_mono (turn n s hI) (fun r s₁ h₁ => ?_) fun _ _ h' => h')))
  cases r with
  | none => exact wpAny_pure h₁
  | some v =>
    refine wpAny_bind (wpAny_mono h₁ (fun _ s₁' h₁' => ?_) fun _ _ h' => h')
    refine wpAny_bind (wpAny_mono h₁' (fun _ s₂ h₂ => wpAny_bind (wpAny_mono h₂ (fun ok s₃ h₃ => ?_) fun _ _ h' => h')) fun _ _ h' => h')
    cases ok with
    | false => exact wpAny_pure ⟨rfl, h₃⟩
    | true =>
      refine wpAny_bind (wpAny_mono h₃ (fun x s₄ h₄ => ?_) fun _ _ h' => h')
      refine wpAny_bind (wpAny_standAt (wpAny_bind (wpAny_of_eq (hs x) (wpAny_bind (wpAny_holding (wpAny_mono h₄ (fun it1 s₅ h₅ => ?_) fun _ _ h' => h'))))))
      refine wpAny_bind (wpAny_runOwn ?_)
      rw [Around.mark_none]
      refine codeAny_mono h₅ fun r s' hr => ?_
      cases r with
      | ok f =>
        first
          | exact wpAny_pure ⟨rfl, hr⟩
          | exact wpAny_bind (wpAny_pure (wpAny_pure ⟨rfl, hr⟩))
      | error e => exact hr.elim
theorem loop3_2 (I : Nat → Shared → Prop)
    (turn : ∀ n s, I n s → wpAny (model prog w) A (pyNext it) (fun r s₁ => match r with
      | none => R (.ok .next) s₁
      | some v => wpAny (model prog w) A (letOwnedTupleGo t2 it v) (fun _ s₁' => wpAny (model prog w) A (assign t2 env v) (fun _ s₂ =>
          wpAny (model prog w) A (forIn ifs2 true fun c r => if r = true then do let ok ← isTrue c env (eval c env); pure (ForInStep.yield ok) else pure (ForInStep.yield r)) (fun ok s₃ =>
            if ok = true then wpAny (model prog w) A (eval elt env) (fun x s₄ =>
              wpAny (model prog w) A (call (.builtin "list.append") [acc, x]) (fun _ s₅ => ∃ m, m < n ∧ I m s₅) (notedBy (model prog w) A env fun e s' => R (.error e) s') s₄) (notedBy (model prog w) A env fun e s' => R (.error e) s') s₃
            else ∃ m, m < n ∧ I m s₃) (notedBy (model prog w) A env fun e s' => R (.error e) s') s₂) (notedBy (model prog w) A env fun e s' => R (.error e) s') s₁') (notedBy (model prog w) A env fun e s' => R (.error e) s') s₁) (notedBy (model prog w) A env fun e s' => R (.error e) s') s)
    (n : Nat) (h : I n s) :
    codeAny (model prog w) A (.compLoop (.ListComp elt [⟨t0, i0, ifs0, 0⟩, ⟨t1, i1, ifs1, 0⟩, ⟨t2, i2, ifs2, 0⟩] scope pos) 2 it acc env) R s := by
  refine codeAny_loop rfl I (fun n s hI => ?_) n h
  show wpAny _ A ((compTurn (.ListComp elt [⟨t0, i0, ifs0, 0⟩, ⟨t1, i1, ifs1, 0⟩, ⟨t2, i2, ifs2, 0⟩] scope pos) 2 it acc env).onRaise (fun x => do noteFrame x env; theTreesLotGoes x)) _ _ s
  refine wpAny_noted ?_
  rw [turn3_2]
  refine wpAny_bind (wpAny_standAt (wpAny_bind (wpAny_mono (turn n s hI) (fun r s₁ h₁ => ?_) fun _ _ h' => h')))
  cases r with
  | none => exact wpAny_pure h₁
  | some v =>
    refine wpAny_bind (wpAny_mono h₁ (fun _ s₁' h₁' => ?_) fun _ _ h' => h')
    refine wpAny_bind (wpAny_mono h₁' (fun _ s₂ h₂ => wpAny_bind (wpAny_mono h₂ (fun ok s₃ h₃ => ?_) fun _ _ h' => h')) fun _ _ h' => h')
    cases ok with
    | false => exact wpAny_pure ⟨rfl, h₃⟩
    | true =>
      exact wpAny_bind (wpAny_bind (wpAny_mono h₃ (fun x s₄ h₄ => wpAny_bind (wpAny_mono h₄ (fun _ s₅ h₅ => wpAny_pure (wpAny_pure ⟨rfl, h₅⟩)) fun _ _ h' => h')) fun _ _ h' => h'))
theorem start3_1 (h0 : codeAny (model prog w) A (.compLoop (.ListComp elt [⟨t0, i0, ifs0, 0⟩, ⟨t1, i1, ifs1, 0⟩, ⟨t2, i2, ifs2, 0⟩] scope pos) 1 it acc env) R s)
    (h : wpAny (model prog w) A (pyIter it) (fun it' s' => codeAny (model prog w) A (.compLoop (.ListComp elt [⟨t0, i0, ifs0, 0⟩, ⟨t1, i1, ifs1, 0⟩, ⟨t2, i2, ifs2, 0⟩] scope pos) 1 it' acc env) R s')
      (notedBy (model prog w) A env fun x s' => R (.error x) s') s) :
    codeAny (model prog w) A (.compStart (.ListComp elt [⟨t0, i0, ifs0, 0⟩, ⟨t1, i1, ifs1, 0⟩, ⟨t2, i2, ifs2, 0⟩] scope pos) 1 it acc env) R s := by
  refine codeAny_of_tree ?_
  show wpAny _ _ ((compStart (.ListComp elt [⟨t0, i0, ifs0, 0⟩, ⟨t1, i1, ifs1, 0⟩, ⟨t2, i2, ifs2, 0⟩] scope pos) 1 it acc env).onRaise (fun x => do noteFrame x env; standAt theWindowsPlace)) _ _ s
  refine wpAny_notedAt ?_
  unfold compStart
  show wpAny _ _ (ask >>= _) _ _ s
  refine wpAny_bind (wpAny_askSetting (wpAny_ite ?_))
  split
  · first
      | exact wpAny_bind (wpAny_pure (wpAny_pure (And.intro rfl h0)))
      | exact wpAny_pure (And.intro rfl h0)
  · first
      | exact wpAny_bind (wpAny_rule (wpAny_bind (wpAny_standAt (wpAny_bind (wpAny_mono h (fun it' s' h' => wpAny_pure (And.intro rfl h')) fun _ _ x => x)))))
      | (refine wpAny_bind (wpAny_rule ?_); show wpAny _ _ (standAt i1.pos >>= _) _ _ s; exact wpAny_bind (wpAny_standAt (wpAny_bind (wpAny_mono h (fun it' s' h' => wpAny_pure (And.intro rfl h')) fun _ _ x => x))))
theorem start3_2 (h0 : codeAny (model prog w) A (.compLoop (.ListComp elt [⟨t0, i0, ifs0, 0⟩, ⟨t1, i1, ifs1, 0⟩, ⟨t2, i2, ifs2, 0⟩] scope pos) 2 it acc env) R s)
    (h : wpAny (model prog w) A (pyIter it) (fun it' s' => codeAny (model prog w) A (.compLoop (.ListComp elt [⟨t0, i0, ifs0, 0⟩, ⟨t1, i1, ifs1, 0⟩, ⟨t2, i2, ifs2, 0⟩] scope pos) 2 it' acc env) R s')
      (notedBy (model prog w) A env fun x s' => R (.error x) s') s) :
    codeAny (model prog w) A (.compStart (.ListComp elt [⟨t0, i0, ifs0, 0⟩, ⟨t1, i1, ifs1, 0⟩, ⟨t2, i2, ifs2, 0⟩] scope pos) 2 it acc env) R s := by
  refine codeAny_of_tree ?_
  show wpAny _ _ ((compStart (.ListComp elt [⟨t0, i0, ifs0, 0⟩, ⟨t1, i1, ifs1, 0⟩, ⟨t2, i2, ifs2, 0⟩] scope pos) 2 it acc env).onRaise (fun x => do noteFrame x env; standAt theWindowsPlace)) _ _ s
  refine wpAny_notedAt ?_
  unfold compStart
  show wpAny _ _ (ask >>= _) _ _ s
  refine wpAny_bind (wpAny_askSetting (wpAny_ite ?_))
  split
  · first
      | exact wpAny_bind (wpAny_pure (wpAny_pure (And.intro rfl h0)))
      | exact wpAny_pure (And.intro rfl h0)
  · first
      | exact wpAny_bind (wpAny_rule (wpAny_bind (wpAny_standAt (wpAny_bind (wpAny_mono h (fun it' s' h' => wpAny_pure (And.intro rfl h')) fun _ _ x => x)))))
      | (refine wpAny_bind (wpAny_rule ?_); show wpAny _ _ (standAt i2.pos >>= _) _ _ s; exact wpAny_bind (wpAny_standAt (wpAny_bind (wpAny_mono h (fun it' s' h' => wpAny_pure (And.intro rfl h')) fun _ _ x => x))))
end
section
variable {X : Cx}
/-- [elt for .. in .. for .. in .. for .. in ..]; vs: the block's names; vs1: those of the second and third target; vs2: those of the third -/
def tLc3 (wi : TI) (g : TG) (tt : TT) (wi1 : TI) (g1 : TG) (tt1 : TT) (wi2 : TI) (g2 : TG) (tt2 : TT) (te : TE) (vs vs1 vs2 : List Nat) : TE := fun σ H Q => wi σ H fun J H1 => ∀ D, H1 D = none → ∃ W : Nat → Nat → Hp → Prop, (∃ m, W 0 m (upd H1 D (.lst []))) ∧ ∀ i m H, W i m H →
  (J.stop i H ∧ Q (.ref D) H) ∨ (J.go i H ∧ ∃ Nx : Hp → Prop, (∀ H', Nx H' → ∃ m', m' < m ∧ W (i + 1) m' H') ∧ ∀ x H', J.yld i H x H' → g x (wipe σ vs) H' fun σ2 H2 => wipe σ2 vs = wipe σ vs ∧ tt σ2 H2 fun b H3 =>
    if b = true then wi1 σ2 H3 fun J1 H4 => ∃ W1 : Nat → Nat → Hp → Prop, (∃ m, W1 0 m H4) ∧ ∀ j k H, W1 j k H →
      (J1.stop j H ∧ Nx H) ∨ (J1.go j H ∧ ∃ Nx1 : Hp → Prop, (∀ H', Nx1 H' → ∃ k', k' < k ∧ W1 (j + 1) k' H') ∧ ∀ x H', J1.yld j H x H' → g1 x (wipe σ2 vs1) H' fun σ3 H5 => wipe σ3 vs1 = wipe σ2 vs1 ∧ tt1 σ3 H5 fun b H6 =>
        if b = true then wi2 σ3 H6 fun J2 H7 => ∃ W2 : Nat → Nat → Hp → Prop, (∃ m, W2 0 m H7) ∧ ∀ j k H, W2 j k H →
          (J2.stop j H ∧ Nx1 H) ∨ (J2.go j H ∧ ∃ Nx2 : Hp → Prop, (∀ H', Nx2 H' → ∃ k', k' < k ∧ W2 (j + 1) k' H') ∧ ∀ x H', J2.yld j H x H' → g2 x (wipe σ3 vs2) H' fun σ4 H8 => wipe σ4 vs2 = wipe σ3 vs2 ∧ tt2 σ4 H8 fun b H9 =>
            if b = true then te σ4 H9 fun y H10 => ∃ acc, H10 D = some (.lst acc) ∧ acc.length < sizeLine ∧ Nx2 (upd H10 D (.lst (acc ++ [y]))) else Nx2 H9)
        else Nx1 H6)
    else Nx H3)
theorem lc3_core {pins : List (Addr × Obj)} {s : Shared} {σ : L2.St} {H : Hp} {Q : VK} {elt tg iter tg1 iter1 tg2 iter2 : Expr} {ifs ifs1 ifs2 : List Expr} {scope : Scope} {own : List (Str × Nat)} {vs1 vs2 : List Nat} {pos pos' : Pos} {wi wi1 wi2 : TI} {g g1 g2 : TG} {tt tt1 tt2 : TT} {te : TE} {use : Option (Value → Sem Unit)} {Qf : Value → Shared → Prop}
    (hc : X.calm = true) (hN : X.N.Nodup) (I : Inv X pins σ H s) (hi : PI X tg iter wi) (ok : BlkOk X.N X.env.scope scope own) (hv : ∀ i ∈ vs1, i ∈ own.map (·.2)) (hv2 : ∀ i ∈ vs2, i ∈ vs1)
    (hg : ∀ (s : Shared) (H : Hp) (C : Addr) (cl : List (Str × Addr)) (fp : List Addr), PG (X.blk s H scope (compEnvC scope cl C X.env) fp) tg g) (ht : ∀ (s : Shared) (H : Hp) (C : Addr) (cl : List (Str × Addr)) (fp : List Addr), PTs (X.blk s H scope (compEnvC scope cl C X.env) fp) ifs tt)
    (he : ∀ (s : Shared) (H : Hp) (C : Addr) (cl : List (Str × Addr)) (fp : List Addr), PE (X.blk s H scope (compEnvC scope cl C X.env) fp) elt te) (hs : ∀ x, foldedSetIterable iter X.env x = pure x)
    (hi1 : ∀ (s : Shared) (H : Hp) (C : Addr) (cl : List (Str × Addr)) (fp : List Addr), PI (X.blk s H scope (compEnvC scope cl C X.env) fp) tg1 iter1 wi1)
    (hg1 : ∀ (s : Shared) (H : Hp) (C : Addr) (cl : List (Str × Addr)) (fp : List Addr), PG (X.blk s H scope (compEnvC scope cl C X.env) fp) tg1 g1)
    (ht1 : ∀ (s : Shared) (H : Hp) (C : Addr) (cl : List (Str × Addr)) (fp : List Addr), PTs (X.blk s H scope (compEnvC scope cl C X.env) fp) ifs1 tt1)
    (hi2 : ∀ (s : Shared) (H : Hp) (C : Addr) (cl : List (Str × Addr)) (fp : List Addr), PI (X.blk s H scope (compEnvC scope cl C X.env) fp) tg2 iter2 wi2)
    (hg2 : ∀ (s : Shared) (H : Hp) (C : Addr) (cl : List (Str × Addr)) (fp : List Addr), PG (X.blk s H scope (compEnvC scope cl C X.env) fp) tg2 g2)
    (ht2 : ∀ (s : Shared) (H : Hp) (C : Addr) (cl : List (Str × Addr)) (fp : List Addr), PTs (X.blk s H scope (compEnvC scope cl C X.env) fp) ifs2 tt2)
    (hs1 : ∀ env x, foldedSetIterable iter1 env x = pure x) (hs2 : ∀ env x, foldedSetIterable iter2 env x = pure x)
    (h : tLc3 wi g tt wi1 g1 tt1 wi2 g2 tt2 te (own.map (·.2)) vs1 vs2 σ H Q)
    (hRR : ∀ D C s' m H', Inv X pins σ H' s' → Q (.ref D) H' → s'.heap.Ns C m → FpOk X pins H' C → compPost (model X.prog X.w) X.A X.xe use Qf (.ref D) C (.ok .next) s') :
    wpAny (model X.prog X.w) X.A (comprehension (.ListComp elt [⟨tg, iter, ifs, 0⟩, ⟨tg1, iter1, ifs1, 0⟩, ⟨tg2, iter2, ifs2, 0⟩] scope pos) scope X.env pos' (newList []) false (eval iter X.env) use) Qf X.xe s := by
  have hfree : ∀ y ∈ scope.names, y.2 = .free → ∃ c, X.env.cells.lookup y.1 = some c := fun y hy e => by
    rcases ok.free y hy e with k | k
    · exact I.ok.has _ (.inl k)
    · exact I.ok.has _ (.inr k)
  refine wpAny_comprehension_free (use := use) rfl hs (closure_ok hfree) ok.kind (fun y hy e => by rw [ok.uniq y hy, e])
    (thn (hi.run pins s σ H _ I h) fun xv s1 hx => thn hx fun itv s2 h2 => ?_)
  obtain ⟨it, fp, tn, J, H2, e, I2, T, st2, f2, q⟩ := h2
  subst e
  refine wpAny_newObj_type (newEnv_comp ?_) (by show 0 ≤ sizeLine; decide)
  generalize hD : s2.heap.objs.size = D
  have hDn : H2 D = none := I2.hok.fresh (Nat.le_of_eq hD)
  obtain ⟨W, ⟨m0, w0⟩, turn⟩ := q D hDn
  -- the new list
  generalize hs3 : ({ s2 with heap := s2.heap.push { cls := .type "list", data := .seq ([] : List Value).toArray } } : Shared) = s3
  have I3 : Inv X pins σ (upd H2 D (.lst [])) s3 := by
    rw [← hs3]
    refine I2.laid (t' := s2.toks) (fun b o e => Heap.get?_push_of_some _ e) (Nat.le_of_eq hD) ⟨Nat.zero_le _, [], 0, .nil, ?_⟩
    rw [← hD]
    exact Heap.get?_push_size _ rfl
  have h3 : s3.heap = s2.heap.push { cls := .type "list", data := .seq ([] : List Value).toArray } := by rw [← hs3]
  have sz : ∀ b ∈ fp, b < s2.heap.objs.size := fun b hb => by
    obtain ⟨o, e, _⟩ := T.obj _ _ st2 b hb
    exact Heap.lt_size e
  have f3 : ∀ b ∈ fp, FpOk X pins (upd H2 D (.lst [])) b ∧ b < s3.heap.objs.size := fun b hb => by
    have hlt := sz b hb
    refine ⟨⟨?_, (f2 b hb).2⟩, by rw [h3, Heap.size_push]; exact Nat.lt_succ_of_lt hlt⟩
    rw [upd_ne (by rw [← hD]; exact Nat.ne_of_lt hlt)]
    exact (f2 b hb).1
  have st3 : tn 0 s3.heap := T.keep _ _ _ st2 fun b _ o e => by rw [h3]; exact Heap.get?_push_of_some _ e
  have I4 := block_start I3 ok hN f3
  have pg := hg s3 (upd H2 D (.lst [])) s3.heap.objs.size (cellsFrom (s3.heap.objs.size + 1) scope.names (cloFrom X.env.cells scope.names [])) fp
  have pt := ht s3 (upd H2 D (.lst [])) s3.heap.objs.size (cellsFrom (s3.heap.objs.size + 1) scope.names (cloFrom X.env.cells scope.names [])) fp
  have pe := he s3 (upd H2 D (.lst [])) s3.heap.objs.size (cellsFrom (s3.heap.objs.size + 1) scope.names (cloFrom X.env.cells scope.names [])) fp
  have pi1 := hi1 s3 (upd H2 D (.lst [])) s3.heap.objs.size (cellsFrom (s3.heap.objs.size + 1) scope.names (cloFrom X.env.cells scope.names [])) fp
  have pg1 := hg1 s3 (upd H2 D (.lst [])) s3.heap.objs.size (cellsFrom (s3.heap.objs.size + 1) scope.names (cloFrom X.env.cells scope.names [])) fp
  have pt1 := ht1 s3 (upd H2 D (.lst [])) s3.heap.objs.size (cellsFrom (s3.heap.objs.size + 1) scope.names (cloFrom X.env.cells scope.names [])) fp
  have pi2 := hi2 s3 (upd H2 D (.lst [])) s3.heap.objs.size (cellsFrom (s3.heap.objs.size + 1) scope.names (cloFrom X.env.cells scope.names [])) fp
  have pg2 := hg2 s3 (upd H2 D (.lst [])) s3.heap.objs.size (cellsFrom (s3.heap.objs.size + 1) scope.names (cloFrom X.env.cells scope.names [])) fp
  have pt2 := ht2 s3 (upd H2 D (.lst [])) s3.heap.objs.size (cellsFrom (s3.heap.objs.size + 1) scope.names (cloFrom X.env.cells scope.names [])) fp
  show codeAny _ _ (.compStart (.ListComp elt [⟨tg, iter, ifs, 0⟩, ⟨tg1, iter1, ifs1, 0⟩, ⟨tg2, iter2, ifs2, 0⟩] scope pos) 0 (.ref it) (.ref D) (compEnvC scope (cellsFrom (s3.heap.objs.size + 1) scope.names (cloFrom X.env.cells scope.names [])) s3.heap.objs.size X.env)) (compPost (model X.prog X.w) X.A X.xe use Qf (.ref D) s3.heap.objs.size) { s3 with heap := pushCells (s3.heap.push { cls := .type "dict", data := .dict #[] }) scope.names }
  have nfp : ∀ b ∈ fp, (upd H2 D (.lst [])) b = none := fun b hb => (f3 b hb).1.1
  generalize hce : compEnvC scope (cellsFrom (s3.heap.objs.size + 1) scope.names (cloFrom X.env.cells scope.names [])) s3.heap.objs.size X.env = ce at I4 pg pt pe pi1 pg1 pt1 pi2 pg2 pt2 ⊢
  have cL : ce.locals = s3.heap.objs.size := by subst hce; rfl
  generalize hH3 : upd H2 D (.lst []) = H3 at I3 I4 pg pt pe pi1 pg1 pt1 pi2 pg2 pt2 w0 nfp f3
  generalize hs4 : ({ s3 with heap := pushCells (s3.heap.push { cls := .type "dict", data := .dict #[] }) scope.names } : Shared) = s4 at I4 ⊢
  have st4 : tn 0 s4.heap := T.keep _ _ _ st3 fun b _ o e => by rw [← hs4]; exact pushCells_keeps _ _ _ _ (Heap.get?_push_of_some _ e)
  have stat : ∀ {σ' : L2.St} {H' : Hp} {s' : Shared}, Inv (X.blk s3 H3 scope ce fp) [] σ' H' s' → (∀ b ∈ fp, H' b = none) → ∀ b ∈ fp, FpOk (X.blk s3 H3 scope ce fp) [] H' b := fun {σ' H' s'} I' hn b hb =>
    ⟨hn b hb, (I'.ok.exf b hb).1, I'.ok.exfs b hb, .inl hb, fun x c e => (I'.ok.exf b hb).2 x c e, fun p hp => absurd (show p ∈ ([] : List (Addr × Obj)) ++ [] from hp) (by simp)⟩
  have loop : codeAny (model X.prog X.w) X.A (.compLoop (.ListComp elt [⟨tg, iter, ifs, 0⟩, ⟨tg1, iter1, ifs1, 0⟩, ⟨tg2, iter2, ifs2, 0⟩] scope pos) 0 (.ref it) (.ref D) ce) (compPost (model X.prog X.w) X.A X.xe use Qf (.ref D) s3.heap.objs.size) s4 := by
    refine loop3_0 (hs1 ce) (fun n s' => ∃ i H', Inv (X.blk s3 H3 scope ce fp) [] (wipe σ (own.map (·.2))) H' s' ∧ tn i s'.heap ∧ (∀ b ∈ fp, H' b = none) ∧ W i n H') ?_ m0 ⟨0, H3, I4, st4, nfp, w0⟩
    rintro n s5 ⟨i, H5, I5, st5, n5, w5⟩
    rcases turn i n H5 w5 with ⟨stop, qq⟩ | ⟨go, Nx, hNx, step⟩
    · have td := T.done (X.blk s3 H3 scope ce fp) rfl rfl rfl hc i [] s5 _ H5 (fun _ _ => False) I5 (stat I5 n5) st5 stop
      refine thnF td fun r s6 ⟨hr, I6⟩ => ?_
      subst hr
      -- back in the def's context
      have I7 : Inv X pins σ H5 s6 := I3.call' (ch := fp) I6.os I6.base I6.hok I6.bare fun b hb => ⟨(f3 b hb).1.2.2.2.1, (f3 b hb).1.2.1, (f3 b hb).1.2.2.2.2.1, (f3 b hb).1.2.2.2.2.2⟩
      have nC : H5 s3.heap.objs.size = none := by
        have z : H5 ce.locals = none := I6.free
        rw [cL] at z
        exact z
      obtain ⟨m, hn, _⟩ := I6.loc
      have hn : s6.heap.Ns ce.locals m := hn
      rw [cL] at hn
      exact hRR D s3.heap.objs.size s6 m H5 I7 qq hn (I3.fpOk (Nat.le_refl _) nC)
    · have ti := T.item (X.blk s3 H3 scope ce fp) rfl rfl rfl hc i [] s5 _ H5 (fun _ _ => False) I5 (stat I5 n5) st5 go
      refine thnF ti fun r s6 ⟨u, hr, h6⟩ => ?_
      subst hr
      refine thnF h6 fun _ s7 ⟨x, H7, I7, r7, y7, st7, n7⟩ => ?_
      have I7' := I7.pinned (stat I7 n7) (T.obj _ _ st7)
      refine thnF (pg.run _ s7 _ H7 x u _ I7' r7 (step x H7 y7)) fun _ s8 ⟨σ8, H8, I8, hw8, q8⟩ => ?_
      refine thnF (pt.run _ s8 σ8 H8 _ I8 q8) fun b s9 ⟨H9, I9, q9⟩ => ?_
      -- the turn's end, from any slots that know what the block knew at its start
      have fin : ∀ {σ9 : L2.St} {s' : Shared} {H' : Hp}, Inv (X.blk s3 H3 scope ce fp) ([] ++ pinsAt fp s7.heap) σ9 H' s' → (wipe σ (own.map (·.2))).length = σ9.length → (∀ (j : Nat) v, (wipe σ (own.map (·.2)))[j]? = some (some v) → σ9[j]? = some (some v)) → Nx H' →
          ∃ m, m < n ∧ ∃ i H', Inv (X.blk s3 H3 scope ce fp) [] (wipe σ (own.map (·.2))) H' s' ∧ tn i s'.heap ∧ (∀ b ∈ fp, H' b = none) ∧ W i m H' := fun {σ9 s' H'} I' hl hk nx => by
        obtain ⟨m', hm, w'⟩ := hNx H' nx
        have pin' : ∀ b ∈ fp, ∀ o, s7.heap.get? b = some o → s'.heap.get? b = some o ∧ H' b = none := fun b hb o e =>
          let z := I'.pin (b, o) (List.mem_append_right _ (List.mem_append_right _ (mem_pinsAt hb e)))
          ⟨z.1, z.2.1⟩
        refine ⟨m', hm, i + 1, H', (I'.unpinned (pins := [])).weak hl hk, T.keep _ _ _ st7 fun b hb o e => (pin' b hb o e).1, fun b hb => ?_, w'⟩
        obtain ⟨o, e, _⟩ := T.obj _ _ st7 b hb
        exact (pin' b hb o e).2
      have hl8 : (wipe σ (own.map (·.2))).length = σ8.length := by rw [← hw8, wipe_length]
      have hk8 : ∀ (j : Nat) v, (wipe σ (own.map (·.2)))[j]? = some (some v) → σ8[j]? = some (some v) := fun j v e => by
        rw [← hw8] at e
        exact (wipe_some e).1
      have hk9 : ∀ (j : Nat) v, (wipe σ (own.map (·.2)))[j]? = some (some v) → (wipe σ8 vs1)[j]? = some (some v) := fun j v e => by
        rw [← hw8] at e
        obtain ⟨e1, e2⟩ := wipe_some e
        rw [wipe_out fun z => e2 (hv j z)]
        exact e1
      cases b with
      | false =>
        simp only [Bool.false_eq_true, if_false] at q9 ⊢
        exact fin I9 hl8 hk8 q9
      | true =>
        simp only [if_true] at q9 ⊢
        refine thnF (pi1.run _ s9 σ8 H9 _ I9 q9) fun xv s10 hx => thnF hx fun itv s11 h11 => ?_
        obtain ⟨it1, fp1, tn1, J1, H11, e1, I11, T1, st11, f11, W1, ⟨m1, w1⟩, turn1⟩ := h11
        subst e1
        -- the inner loop
        have stat1 : ∀ {H' : Hp}, (∀ b ∈ fp1, H' b = none) → ∀ b ∈ fp1, FpOk (X.blk s3 H3 scope ce fp) ([] ++ pinsAt fp s7.heap) H' b := fun hn b hb => ⟨hn b hb, (f11 b hb).2⟩
        have loop1 : codeAny (model X.prog X.w) X.A (.compLoop (.ListComp elt [⟨tg, iter, ifs, 0⟩, ⟨tg1, iter1, ifs1, 0⟩, ⟨tg2, iter2, ifs2, 0⟩] scope pos) 1 (.ref it1) (.ref D) ce)
            (fun r s' => match r with
              | .ok _ => ∃ m, m < n ∧ ∃ i H', Inv (X.blk s3 H3 scope ce fp) [] (wipe σ (own.map (·.2))) H' s' ∧ tn i s'.heap ∧ (∀ b ∈ fp, H' b = none) ∧ W i m H'
              | .error _ => False) s11 := by
          refine loop3_1 (hs2 ce) (fun k s' => ∃ j H', Inv (X.blk s3 H3 scope ce fp) ([] ++ pinsAt fp s7.heap) (wipe σ8 vs1) H' s' ∧ tn1 j s'.heap ∧ (∀ b ∈ fp1, H' b = none) ∧ W1 j k H') ?_ m1 ⟨0, H11, I11.weak (wipe_length _ _) (fun j v e => (wipe_some e).1), st11, fun b hb => (f11 b hb).1, w1⟩
          rintro k s12 ⟨j, H12, I12, st12, n12, w12⟩
          rcases turn1 j k H12 w12 with ⟨stop1, nx1⟩ | ⟨go1, Nx1, hNx1, step1⟩
          · refine thnF (T1.done (X.blk s3 H3 scope ce fp) rfl rfl rfl hc j _ s12 (wipe σ8 vs1) H12 (fun _ _ => False) I12 (stat1 n12) st12 stop1) fun r s13 ⟨hr, I13⟩ => ?_
            subst hr
            exact fin I13 (hl8.trans (wipe_length σ8 vs1).symm) hk9 nx1
          · refine thnF (T1.item (X.blk s3 H3 scope ce fp) rfl rfl rfl hc j _ s12 (wipe σ8 vs1) H12 (fun _ _ => False) I12 (stat1 n12) st12 go1) fun r s13 ⟨u1, hr, h13⟩ => ?_
            subst hr
            refine thnF h13 fun _ s14 ⟨x1, H14, I14, r14, y14, st14, n14⟩ => ?_
            have I14' := I14.pinned (stat1 n14) (T1.obj _ _ st14)
            refine thnF (pg1.run _ s14 (wipe σ8 vs1) H14 x1 u1 _ I14' r14 (step1 x1 H14 y14)) fun _ s15 ⟨σ15, H15, I15, hw15, q15⟩ => ?_
            refine thnF (pt1.run _ s15 σ15 H15 _ I15 q15) fun b1 s16 ⟨H16, I16, q16⟩ => ?_
            have fin1 : ∀ {σ9 : L2.St} {s' : Shared} {H' : Hp}, Inv (X.blk s3 H3 scope ce fp) (([] ++ pinsAt fp s7.heap) ++ pinsAt fp1 s14.heap) σ9 H' s' → (wipe σ8 vs1).length = σ9.length → (∀ (j : Nat) v, (wipe σ8 vs1)[j]? = some (some v) → σ9[j]? = some (some v)) → Nx1 H' → ∃ m, m < k ∧ ∃ j H', Inv (X.blk s3 H3 scope ce fp) ([] ++ pinsAt fp s7.heap) (wipe σ8 vs1) H' s' ∧ tn1 j s'.heap ∧ (∀ b ∈ fp1, H' b = none) ∧ W1 j m H' := fun {σ9 s' H'} I' hl hk nx => by
              obtain ⟨m', hm, w'⟩ := hNx1 H' nx
              have pin' : ∀ b ∈ fp1, ∀ o, s14.heap.get? b = some o → s'.heap.get? b = some o ∧ H' b = none := fun b hb o e =>
                let z := I'.pin (b, o) (List.mem_append_right _ (List.mem_append_right _ (mem_pinsAt hb e)))
                ⟨z.1, z.2.1⟩
              refine ⟨m', hm, j + 1, H', I'.unpinned.weak hl hk, T1.keep _ _ _ st14 fun b hb o e => (pin' b hb o e).1, fun b hb => ?_, w'⟩
              obtain ⟨o, e, _⟩ := T1.obj _ _ st14 b hb
              exact (pin' b hb o e).2
            have hl15 : (wipe σ8 vs1).length = σ15.length := by rw [← hw15, wipe_length]
            have hk15 : ∀ (j : Nat) v, (wipe σ8 vs1)[j]? = some (some v) → σ15[j]? = some (some v) := fun j v e => by
              rw [← hw15] at e
              exact (wipe_some e).1
            have hk16 : ∀ (j : Nat) v, (wipe σ8 vs1)[j]? = some (some v) → (wipe σ15 vs2)[j]? = some (some v) := fun j v e => by
              rw [← hw15] at e
              obtain ⟨e1, e2⟩ := wipe_some e
              rw [wipe_out fun z => e2 (hv2 j z)]
              exact e1
            cases b1 with
            | false =>
              simp only [Bool.false_eq_true, if_false] at q16 ⊢
              exact fin1 I16 hl15 hk15 q16
            | true =>
              simp only [if_true] at q16 ⊢
              refine thnF (pi2.run _ s16 σ15 H16 _ I16 q16) fun xv2 s17 hx2 => thnF hx2 fun itv2 s18 h18 => ?_
              obtain ⟨it2, fp2, tn2, J2, H18, e2, I18, T2, st18, f18, W2, ⟨m2, w2⟩, turn2⟩ := h18
              subst e2
              have stat2 : ∀ {H' : Hp}, (∀ b ∈ fp2, H' b = none) → ∀ b ∈ fp2, FpOk (X.blk s3 H3 scope ce fp) (([] ++ pinsAt fp s7.heap) ++ pinsAt fp1 s14.heap) H' b := fun hn b hb => ⟨hn b hb, (f18 b hb).2⟩
              have loop2 : codeAny (model X.prog X.w) X.A (.compLoop (.ListComp elt [⟨tg, iter, ifs, 0⟩, ⟨tg1, iter1, ifs1, 0⟩, ⟨tg2, iter2, ifs2, 0⟩] scope pos) 2 (.ref it2) (.ref D) ce)
                  (fun r s' => match r with
                    | .ok _ => ∃ m, m < k ∧ ∃ j H', Inv (X.blk s3 H3 scope ce fp) ([] ++ pinsAt fp s7.heap) (wipe σ8 vs1) H' s' ∧ tn1 j s'.heap ∧ (∀ b ∈ fp1, H' b = none) ∧ W1 j m H'
                    | .error _ => False) s18 := by
                refine loop3_2 (fun k' s' => ∃ j H', Inv (X.blk s3 H3 scope ce fp) (([] ++ pinsAt fp s7.heap) ++ pinsAt fp1 s14.heap) (wipe σ15 vs2) H' s' ∧ tn2 j s'.heap ∧ (∀ b ∈ fp2, H' b = none) ∧ W2 j k' H') ?_ m2 ⟨0, H18, I18.weak (wipe_length _ _) (fun j v e => (wipe_some e).1), st18, fun b hb => (f18 b hb).1, w2⟩
                rintro k' s19 ⟨j2, H19, I19, st19, n19, w19⟩
                rcases turn2 j2 k' H19 w19 with ⟨stop2, nx2⟩ | ⟨go2, Nx2, hNx2, step2⟩
                · refine thnF (T2.done (X.blk s3 H3 scope ce fp) rfl rfl rfl hc j2 _ s19 (wipe σ15 vs2) H19 (fun _ _ => False) I19 (stat2 n19) st19 stop2) fun r s20 ⟨hr, I20⟩ => ?_
                  subst hr
                  exact fin1 I20 (hl15.trans (wipe_length σ15 vs2).symm) hk16 nx2
                · refine thnF (T2.item (X.blk s3 H3 scope ce fp) rfl rfl rfl hc j2 _ s19 (wipe σ15 vs2) H19 (fun _ _ => False) I19 (stat2 n19) st19 go2) fun r s20 ⟨u2, hr, h20⟩ => ?_
                  subst hr
                  refine thnF h20 fun _ s21 ⟨x2, H21, I21, r21, y21, st21, n21⟩ => ?_
                  have I21' := I21.pinned (stat2 n21) (T2.obj _ _ st21)
                  refine thnF (pg2.run _ s21 (wipe σ15 vs2) H21 x2 u2 _ I21' r21 (step2 x2 H21 y21)) fun _ s22 ⟨σ22, H22, I22, hw22, q22⟩ => ?_
                  refine thnF (pt2.run _ s22 σ22 H22 _ I22 q22) fun b2 s23 ⟨H23, I23, q23⟩ => ?_
                  have fin2 : ∀ {s' : Shared} {H' : Hp}, Inv (X.blk s3 H3 scope ce fp) ((([] ++ pinsAt fp s7.heap) ++ pinsAt fp1 s14.heap) ++ pinsAt fp2 s21.heap) σ22 H' s' → Nx2 H' → ∃ m, m < k' ∧ ∃ j H', Inv (X.blk s3 H3 scope ce fp) (([] ++ pinsAt fp s7.heap) ++ pinsAt fp1 s14.heap) (wipe σ15 vs2) H' s' ∧ tn2 j s'.heap ∧ (∀ b ∈ fp2, H' b = none) ∧ W2 j m H' := fun {s' H'} I' nx => by
                    obtain ⟨m', hm, w'⟩ := hNx2 H' nx
                    have pin' : ∀ b ∈ fp2, ∀ o, s21.heap.get? b = some o → s'.heap.get? b = some o ∧ H' b = none := fun b hb o e =>
                      let z := I'.pin (b, o) (List.mem_append_right _ (List.mem_append_right _ (mem_pinsAt hb e)))
                      ⟨z.1, z.2.1⟩
                    refine ⟨m', hm, j2 + 1, H', I'.unpinned.weak (by rw [← hw22, wipe_length]) (fun j v e => by rw [← hw22] at e; exact (wipe_some e).1), T2.keep _ _ _ st21 fun b hb o e => (pin' b hb o e).1, fun b hb => ?_, w'⟩
                    obtain ⟨o, e, _⟩ := T2.obj _ _ st21 b hb
                    exact (pin' b hb o e).2
                  cases b2 with
                  | false =>
                    simp only [Bool.false_eq_true, if_false] at q23 ⊢
                    exact fin2 I23 q23
                  | true =>
                    simp only [if_true] at q23 ⊢
                    refine thnF (pe.run _ s23 σ22 H23 _ I23 q23) fun z s24 ⟨yv, H24, I24, r24, acc, hD24, hz24, nx⟩ => ?_
                    exact app_ok (X := (X.blk s3 H3 scope ce fp)) I24 hD24 hz24 r24 fun s25 I25 => fin2 I25 nx
              exact start3_2 loop2 (T2.self X.A 0 _ _ _ st18 loop2)
        exact start3_1 loop1 (T1.self X.A 0 _ _ _ st11 loop1)
  exact codeAny_compStart_list loop (T.self X.A 0 _ _ _ st4 loop)
theorem pe_lc3 {elt tg iter tg1 iter1 tg2 iter2 : Expr} {ifs ifs1 ifs2 : List Expr} {scope : Scope} {own : List (Str × Nat)} {vs1 vs2 : List Nat} {pos : Pos} {wi wi1 wi2 : TI} {g g1 g2 : TG} {tt tt1 tt2 : TT} {te : TE} (hc : X.calm = true) (hN : X.N.Nodup) (hi : PI X tg iter wi) (ok : BlkOk X.N X.env.scope scope own) (hv : ∀ i ∈ vs1, i ∈ own.map (·.2)) (hv2 : ∀ i ∈ vs2, i ∈ vs1)
    (hg : ∀ (s : Shared) (H : Hp) (C : Addr) (cl : List (Str × Addr)) (fp : List Addr), PG (X.blk s H scope (compEnvC scope cl C X.env) fp) tg g) (ht : ∀ (s : Shared) (H : Hp) (C : Addr) (cl : List (Str × Addr)) (fp : List Addr), PTs (X.blk s H scope (compEnvC scope cl C X.env) fp) ifs tt)
    (hi1 : ∀ (s : Shared) (H : Hp) (C : Addr) (cl : List (Str × Addr)) (fp : List Addr), PI (X.blk s H scope (compEnvC scope cl C X.env) fp) tg1 iter1 wi1)
    (hg1 : ∀ (s : Shared) (H : Hp) (C : Addr) (cl : List (Str × Addr)) (fp : List Addr), PG (X.blk s H scope (compEnvC scope cl C X.env) fp) tg1 g1) (ht1 : ∀ (s : Shared) (H : Hp) (C : Addr) (cl : List (Str × Addr)) (fp : List Addr), PTs (X.blk s H scope (compEnvC scope cl C X.env) fp) ifs1 tt1)
    (hi2 : ∀ (s : Shared) (H : Hp) (C : Addr) (cl : List (Str × Addr)) (fp : List Addr), PI (X.blk s H scope (compEnvC scope cl C X.env) fp) tg2 iter2 wi2)
    (hg2 : ∀ (s : Shared) (H : Hp) (C : Addr) (cl : List (Str × Addr)) (fp : List Addr), PG (X.blk s H scope (compEnvC scope cl C X.env) fp) tg2 g2) (ht2 : ∀ (s : Shared) (H : Hp) (C : Addr) (cl : List (Str × Addr)) (fp : List Addr), PTs (X.blk s H scope (compEnvC scope cl C X.env) fp) ifs2 tt2)
    (he : ∀ (s : Shared) (H : Hp) (C : Addr) (cl : List (Str × Addr)) (fp : List Addr), PE (X.blk s H scope (compEnvC scope cl C X.env) fp) elt te) (hs : ∀ x, foldedSetIterable iter X.env x = pure x := by intro _; rfl) (hs1 : ∀ env x, foldedSetIterable iter1 env x = pure x := by intro _ _; rfl) (hs2 : ∀ env x, foldedSetIterable iter2 env x = pure x := by intro _ _; rfl) :
    PE X (.ListComp elt [⟨tg, iter, ifs, 0⟩, ⟨tg1, iter1, ifs1, 0⟩, ⟨tg2, iter2, ifs2, 0⟩] scope pos) (tLc3 wi g tt wi1 g1 tt1 wi2 g2 tt2 te (own.map (·.2)) vs1 vs2) := by
  refine ⟨fun pins s σ H Q I h => ?_⟩
  rw [eval_ListComp]
  refine lc3_core hc hN I hi ok hv hv2 hg ht he hs hi1 hg1 ht1 hi2 hg2 ht2 hs1 hs2 h fun D C s' m H' I' q hn f => ⟨m, hn, fun h'' sb => ?_⟩
  obtain ⟨f0, f1, f2, f3, f4, f5⟩ := f
  exact ⟨.ref D, H', I'.turned (t' := s'.toks) (fun b o hb e => (sb.2 b hb).trans e) f0 f1 f3 f4 f5, rfl, q⟩
end
end Sk

/-! ## SkW -/
namespace Sk
open PySem PySem.Spec PyProof.Rows L2
/-! ### programs, how they are written, and that this is read back -/
inductive Dd where
  | set (p e : Ex)
  | one (w : Str) (e : Ex)
  | alone (w : Str)
  | for_ (n : Tx) (a b c : Ex)
  | do_ (n : Tx) (es : List Ex)
  | new (ns : List Tx)
def strsD (ns : List Tx) : List PyData := ns.map fun n => PyData.str (St n)
def Dd.toD : Dd → PyData
  | .set p e => .tuple [.str "set", p.toD, e.toD]
  | .one w e => .tuple [.str w, e.toD]
  | .alone w => .tuple [.str w]
  | .for_ n a b c => .tuple [.str "for", .str (St n), a.toD, b.toD, c.toD]
  | .do_ n es => .tuple [.str "do", .str (St n), .list (toDs es)]
  | .new ns => .tuple [.str "new", .list (strsD ns)]
def showD : Dd → Tx
  | .set p e => tl "set" ++ 32 :: (showE p ++ 61 :: showE e)
  | .one w e => tl w ++ 32 :: showE e
  | .alone w => if w = "free_all" then tl "free" else tl w
  | .for_ n a b c => tl "for" ++ 32 :: (n ++ 61 :: (showE a ++ 58 :: (showE b ++ 58 :: showE c)))
  | .do_ n es => tl "do" ++ 32 :: (n ++ showP es)
  | .new ns => tl "new" ++ 32 :: TL.joinL [44] ns
def exOk (e : Ex) : Prop := e.wf = true ∧ e.dep ≤ 29
def Dd.ok (labs : List (Tx × Nat)) : Dd → Prop
  | .set p e => p.isPl = true ∧ exOk p ∧ exOk e
  | .one w e => exOk e ∧ ((w = "kill" ∧ e.isPl = true) ∨ ((w = "lock" ∨ w = "free") ∧ ∃ n ps, e = .at_ n ps) ∨ w ∈ word2L)
  | .alone w => w ∈ aloneL ∨ w = "free_all"
  | .for_ n a b c => isNameT n = true ∧ exOk a ∧ exOk b ∧ exOk c
  | .do_ n es => isNameT n = true ∧ (∀ e ∈ es, exOk e) ∧ (n, es.length) ∈ labs
  | .new ns => ns ≠ [] ∧ (∀ n ∈ ns, isNameT n = true) ∧ ns.Nodup
structure Lb where
  nm : Tx
  ps : List Tx
  rows : List (List Dd)
def rowTD (ds : List Dd) : PyData := .list (ds.map Dd.toD)
def Lb.toD (l : Lb) : PyData := .tuple [.str (St l.nm), .list (strsD l.ps), .list (l.rows.map rowTD)]
def showRow (ds : List Dd) : Tx := TL.joinL [59, 32] (ds.map showD) ++ [124]
def showPs (ps : List Tx) : Tx := if ps = [] then [] else 40 :: (TL.joinL [44] ps ++ [41])
def showLb (l : Lb) : Tx := l.nm ++ showPs l.ps ++ 124 :: (l.rows.map fun r => [32, 32] ++ showRow r).flatten
def showPr (p : List Lb) : Tx := (p.map showLb).flatten
def labsOf (p : List Lb) : List (Tx × Nat) := p.map fun l => (l.nm, l.ps.length)
def Lb.ok (labs : List (Tx × Nat)) (l : Lb) : Prop := isNameT l.nm = true ∧ (∀ n ∈ l.ps, isNameT n = true) ∧ l.ps.Nodup ∧ ∀ r ∈ l.rows, ∀ d ∈ r, d.ok labs
/-! reading items back -/
theorem itemsTail_app {α : Type} {sep : Tx} {I : Rd1 PyData} {sh : α → Tx} {td : α → PyData} {r : Tx} (hr : sep.isPrefixOf r = false) : ∀ (xs : List α) (f : Nat), xs.length < f →
    (∀ x ∈ xs, ∀ r', (r' = r ∨ ∃ t, r' = sep ++ t) → I (sh x ++ r') = some (td x, r')) → itemsTail sep I f ((xs.map fun x => sep ++ sh x).flatten ++ r) = some (xs.map td, r)
  | [], f + 1, _, _ => by
    rw [List.map_nil, List.flatten_nil, List.nil_append, itemsTail, if_neg (by rw [hr]; decide)]
    rfl
  | x :: xs, f + 1, hf, h => by
    have ih := itemsTail_app (I := I) (sh := sh) (td := td) hr xs f (by simp at hf; omega) fun y hy => h y (List.mem_cons_of_mem _ hy)
    have hp : sep.isPrefixOf (sep ++ (sh x ++ ((xs.map fun x => sep ++ sh x).flatten ++ r))) = true := List.isPrefixOf_iff_prefix.mpr (List.prefix_append _ _)
    rw [List.map_cons, List.flatten_cons, List.append_assoc, List.append_assoc, itemsTail, if_pos hp, List.drop_left]
    have hx := h x (by simp) ((xs.map fun x => sep ++ sh x).flatten ++ r) (by
      cases xs with
      | nil => exact .inl (by simp)
      | cons y ys => exact .inr ⟨_, by rw [List.map_cons, List.flatten_cons, List.append_assoc, List.append_assoc]⟩)
    rw [hx]
    simp only [ih]
    rfl
theorem joinL_cons {sep x : Tx} : ∀ {xs : List Tx}, TL.joinL sep (x :: xs) = x ++ (xs.map fun y => sep ++ y).flatten
  | [] => by simp [TL.joinL]
  | y :: ys => by
    rw [TL.joinL, joinL_cons (xs := ys)]
    simp
theorem itemsR_app {α : Type} {sep : Tx} {I : Rd1 PyData} {sh : α → Tx} {td : α → PyData} {r : Tx} (hs : sep ≠ []) (hr : sep.isPrefixOf r = false) (x : α) (xs : List α)
    (h : ∀ y ∈ x :: xs, ∀ r', (r' = r ∨ ∃ t, r' = sep ++ t) → I (sh y ++ r') = some (td y, r')) : itemsR sep I (TL.joinL sep ((x :: xs).map sh) ++ r) = some ((x :: xs).map td, r) := by
  have e : TL.joinL sep ((x :: xs).map sh) ++ r = sh x ++ ((xs.map fun y => sep ++ sh y).flatten ++ r) := by
    rw [List.map_cons, joinL_cons, List.map_map, List.append_assoc]
    rfl
  unfold itemsR
  rw [e, h x (by simp) _ (by
      cases xs with
      | nil => exact .inl (by simp)
      | cons y ys => exact .inr ⟨_, by rw [List.map_cons, List.flatten_cons, List.append_assoc, List.append_assoc]⟩)]
  simp only
  have hl : xs.length < ((xs.map fun y => sep ++ sh y).flatten ++ r).length + 1 := by
    have : ∀ l : List α, l.length ≤ (l.map fun y => sep ++ sh y).flatten.length := by
      intro l
      induction l with
      | nil => exact Nat.le_refl _
      | cons y ys ih =>
        have : 0 < sep.length := List.length_pos_iff.mpr hs
        rw [List.map_cons, List.flatten_cons, List.length_append, List.length_append, List.length_cons]
        omega
    have := this xs
    rw [List.length_append]
    omega
  rw [itemsTail_app hr xs _ hl fun y hy => h y (List.mem_cons_of_mem _ hy)]
  rfl
/-! expressions and places within deeds -/
theorem ex_back {e : Ex} (h : exOk e) {r : Tx} (hr : stopE r) : exR 40 (showE e ++ r) = some (e, r) := (read_back e.sz 40 e (Nat.le_refl _) (by decide) h.1 (by have := h.2; omega)).2 r hr
theorem pl_back {e : Ex} (h : exOk e) (hp : e.isPl = true) {r : Tx} (hr : stopS r) : placeR (exR 39) (showE e ++ r) = some (e, r) := by
  refine placeR_app hp h.1 (fun ps hps => ?_) hr
  obtain ⟨g1, g2, g3⟩ := wf_pl h.1 hps
  intro p hpp r hr
  exact (read_back p.sz 39 p (Nat.le_refl _) (by decide) (wfS_mem.mp g1 p hpp) (by have := g2 38 (by have := h.2; omega) p hpp; omega)).2 r hr
theorem parts_back {es : List Ex} (h : ∀ e ∈ es, exOk e) {r : Tx} (hr : ∀ c ∈ r.head?, c ≠ 40) : somePartsR (exR 40) (showP es ++ r) = some (es, r) := somePartsR_app (fun e he r hr => ex_back (h e he) hr) hr
theorem names_back {ns : List Tx} (h0 : ns ≠ []) (h : ∀ n ∈ ns, isNameT n = true) {r : Tx} (hr : ∀ c ∈ r.head?, isLet c = false) (hr2 : ∀ c ∈ r.head?, c ≠ 44) : namesR (TL.joinL [44] ns ++ r) = some (strsD ns, r) := by
  cases ns with
  | nil => exact absurd rfl h0
  | cons n ns =>
    have hp : List.isPrefixOf [44] r = false := by
      cases r with
      | nil => rfl
      | cons c r =>
        have := hr2 c (by simp)
        simp [List.isPrefixOf]
        exact fun e => this e.symm
    have := itemsR_app (I := nameD) (sh := id) (td := fun n => PyData.str (St n)) (r := r) (sep := [44]) (by simp) hp n ns fun y hy r' hr' => by
      unfold nameD
      rw [show (id y : Tx) = y from rfl, nameR_app (h y hy) fun c hc => ?_]
      rcases hr' with rfl | ⟨t, rfl⟩
      · exact hr c hc
      · have : c = 44 := by simpa using hc.symm
        subst this
        decide +kernel
    rw [List.map_id] at this
    exact this
/-- what ends a deed -/
def stopD (r : Tx) : Prop := ∃ c t, r = c :: t ∧ (c = 59 ∨ c = 124)
theorem stopD_E {r : Tx} (h : stopD r) : stopE r := by
  obtain ⟨c, t, rfl, rfl | rfl⟩ := h
  · exact stop_of (by decide +kernel) (by decide +kernel) (by decide) (by decide) (by decide +kernel)
  · exact stop_of (by decide +kernel) (by decide +kernel) (by decide) (by decide) (by decide +kernel)
theorem stopD_let {r : Tx} (h : stopD r) : ∀ c ∈ r.head?, isLet c = false := fun c hc => (stopD_E h).1 c hc |>.1
theorem word_app {w : Tx} (hw : w.all isLet = true) (r : Tx) : (w ++ 32 :: r).takeWhile isLet = w ∧ (w ++ 32 :: r).dropWhile isLet = 32 :: r := tw_app hw fun c hc => by
  have : c = 32 := by simpa using hc.symm
  subst this
  decide +kernel
theorem deedR_word {w : Tx} {r : Tx} (hw : w.all isLet = true) (h1 : St w ∉ aloneL) : deedR (w ++ 32 :: r) = deedB w r := by
  obtain ⟨e1, e2⟩ := word_app hw r
  unfold deedR
  rw [e1, e2, if_neg h1, if_neg (by simp)]
  rfl
theorem deed_back {labs : List (Tx × Nat)} : ∀ (d : Dd), d.ok labs → ∀ r, stopD r → deedR (showD d ++ r) = some (d.toD, r)
  | .set p e, ⟨h0, h1, h2⟩, r, hr => by
    rw [showD, List.append_assoc, List.cons_append, deedR_word (by decide +kernel) (by decide +kernel)]
    unfold deedB
    rw [if_neg (by decide +kernel), if_neg (by decide +kernel), if_pos rfl, List.append_assoc, List.cons_append, pl_back h1 h0 (stop_op (by decide +kernel))]
    simp only [past, List.take_succ_cons, List.take_zero, List.drop_succ_cons, List.drop_zero, if_pos]
    rw [ex_back h2 (stopD_E hr)]
    rfl
  | .one w e, ⟨h1, h2⟩, r, hr => by
    have hw : (tl w).all isLet = true ∧ St (tl w) ∉ aloneL := by
      rcases h2 with ⟨rfl, _⟩ | ⟨rfl | rfl, _⟩ | h2
      · decide +kernel
      · decide +kernel
      · decide +kernel
      · have : ∀ w ∈ word2L, (tl w).all isLet = true ∧ St (tl w) ∉ aloneL := by decide +kernel
        exact this w h2
    rw [showD, List.append_assoc, List.cons_append, deedR_word hw.1 hw.2]
    unfold deedB
    rw [st_tl]
    rcases h2 with ⟨rfl, h3⟩ | ⟨h3, n, ps, rfl⟩ | h2
    · rw [if_pos (by decide +kernel), pl_back h1 h3 (stopD_E hr).1]
      rfl
    · rw [if_pos (by rcases h3 with rfl | rfl <;> decide +kernel), pl_back h1 rfl (stopD_E hr).1]
      rfl
    · rw [if_neg (by have : ∀ w ∈ word2L, w ∉ word1L := by decide +kernel
                     exact this w h2), if_pos h2, ex_back h1 (stopD_E hr)]
      rfl
  | .alone w, h, r, hr => by
    rw [showD]
    by_cases hf : w = "free_all"
    · subst hf
      rw [if_pos rfl]
      obtain ⟨e1, e2⟩ := tw_app (f := isLet) (n := tl "free") (r := r) (by decide +kernel) (stopD_let hr)
      unfold deedR
      have h32 : ¬ r.take 1 = [32] := by obtain ⟨c, t, rfl, rfl | rfl⟩ := hr <;> simp
      rw [e1, e2, if_neg (by decide +kernel), if_pos ⟨rfl, h32⟩]
      rfl
    · rw [if_neg hf]
      have hw : w ∈ aloneL := h.resolve_right hf
      have : ∀ w ∈ aloneL, (tl w).all isLet = true := by decide +kernel
      obtain ⟨e1, e2⟩ := tw_app (f := isLet) (n := tl w) (r := r) (this w hw) (stopD_let hr)
      unfold deedR
      rw [e1, e2, st_tl, if_pos hw]
      rfl
  | .for_ n a b c, ⟨h0, h1, h2, h3⟩, r, hr => by
    rw [showD, List.append_assoc, List.cons_append, deedR_word (by decide +kernel) (by decide +kernel)]
    unfold deedB
    rw [if_neg (by decide +kernel), if_neg (by decide +kernel), if_neg (by decide +kernel), if_pos rfl]
    unfold forR
    have s58 : ∀ t : Tx, stopE (58 :: t) := fun t => stop_of (by decide +kernel) (by decide +kernel) (by decide) (by decide) (by decide +kernel)
    rw [List.append_assoc, List.cons_append, List.append_assoc, List.cons_append, List.append_assoc, List.cons_append, nameR_app h0 fun c hc => by
      have : c = 61 := by simpa using hc.symm
      subst this
      decide +kernel]
    simp only [past, List.take_succ_cons, List.take_zero, List.drop_succ_cons, List.drop_zero, if_pos]
    rw [ex_back h1 (s58 _)]
    simp only [past, List.take_succ_cons, List.take_zero, List.drop_succ_cons, List.drop_zero, if_pos]
    rw [ex_back h2 (s58 _)]
    simp only [past, List.take_succ_cons, List.take_zero, List.drop_succ_cons, List.drop_zero, if_pos]
    rw [ex_back h3 (stopD_E hr)]
    rfl
  | .do_ n es, ⟨h0, h1, h2⟩, r, hr => by
    rw [showD, List.append_assoc, List.cons_append, deedR_word (by decide +kernel) (by decide +kernel)]
    unfold deedB
    rw [if_neg (by decide +kernel), if_neg (by decide +kernel), if_neg (by decide +kernel), if_neg (by decide +kernel), if_pos rfl]
    rw [List.append_assoc, nameR_app h0 (showP_hd es r (stopD_E hr).1)]
    simp only
    rw [parts_back h1 fun c hc => ((stopD_E hr).1 c hc).2.2.2]
    rfl
  | .new ns, ⟨h0, h1, h2⟩, r, hr => by
    rw [showD, List.append_assoc, List.cons_append, deedR_word (by decide +kernel) (by decide +kernel)]
    unfold deedB
    rw [if_neg (by decide +kernel), if_neg (by decide +kernel), if_neg (by decide +kernel), if_neg (by decide +kernel), if_neg (by decide +kernel), if_pos rfl]
    rw [names_back h0 h1 (stopD_let hr) (by obtain ⟨c, t, rfl, rfl | rfl⟩ := hr <;> simp)]
    rfl
theorem row_back {labs : List (Tx × Nat)} {ds : List Dd} (h : ∀ d ∈ ds, d.ok labs) (r : Tx) : rowD (showRow ds ++ r) = some (rowTD ds, r) := by
  unfold rowD rowR thenC showRow
  rw [List.append_assoc, List.singleton_append]
  cases ds with
  | nil =>
    have e : TL.joinL [59, 32] ([].map showD) ++ 124 :: r = 124 :: r := rfl
    rw [e]
    simp
    rfl
  | cons d ds =>
    have hd : ∃ c t, TL.joinL [59, 32] ((d :: ds).map showD) ++ 124 :: r = c :: t ∧ c ≠ 124 := by
      have hw : ∀ w : Tx, w ≠ [] → w.all isLet = true → ∀ t, ∃ c t', w ++ t = c :: t' ∧ c ≠ 124 := by
        intro w hw ha t
        cases w with
        | nil => exact absurd rfl hw
        | cons c w =>
          refine ⟨c, w ++ t, rfl, fun e => ?_⟩
          subst e
          rw [List.all_cons, show isLet 124 = false by decide +kernel] at ha
          cases ha
      rw [List.map_cons, joinL_cons, List.append_assoc]
      have hdd := h d (by simp)
      cases d with
      | set p e => rw [showD, List.append_assoc]; exact hw _ (by decide +kernel) (by decide +kernel) _
      | one w e =>
        rw [showD, List.append_assoc]
        have : tl w ≠ [] ∧ (tl w).all isLet = true := by
          rcases hdd.2 with ⟨rfl, _⟩ | ⟨rfl | rfl, _⟩ | h2
          · decide +kernel
          · decide +kernel
          · decide +kernel
          · have : ∀ w ∈ word2L, tl w ≠ [] ∧ (tl w).all isLet = true := by decide +kernel
            exact this w h2
        exact hw _ this.1 this.2 _
      | alone w =>
        rw [showD]
        by_cases hf : w = "free_all"
        · rw [if_pos hf]; exact hw _ (by decide +kernel) (by decide +kernel) _
        · rw [if_neg hf]
          have : ∀ w ∈ aloneL, tl w ≠ [] ∧ (tl w).all isLet = true := by decide +kernel
          obtain ⟨a, b⟩ := this w (Or.resolve_right hdd hf)
          exact hw _ a b _
      | for_ n a b c => rw [showD, List.append_assoc]; exact hw _ (by decide +kernel) (by decide +kernel) _
      | do_ n es => rw [showD, List.append_assoc]; exact hw _ (by decide +kernel) (by decide +kernel) _
      | new ns => rw [showD, List.append_assoc]; exact hw _ (by decide +kernel) (by decide +kernel) _
    obtain ⟨c, t, e, hc⟩ := hd
    have hi := itemsR_app (I := deedR) (sh := showD) (td := Dd.toD) (r := 124 :: r) (sep := [59, 32]) (by simp) (by simp [List.isPrefixOf]) d ds fun y hy r' hr' => deed_back y (h y hy) r' (by
      rcases hr' with rfl | ⟨t, rfl⟩
      · exact ⟨_, _, rfl, .inr rfl⟩
      · exact ⟨_, _, rfl, .inl rfl⟩)
    have hn : ¬ (TL.joinL [59, 32] ((d :: ds).map showD) ++ 124 :: r).take 1 = [124] := by
      rw [e]
      simpa using hc
    simp only [if_neg hn, hi]
    simp
    rfl
theorem label_back {labs : List (Tx × Nat)} {l : Lb} (h : l.ok labs) (r : Tx) (hr : [32, 32].isPrefixOf r = false) : labelR (showLb l ++ r) = some (l.toD, r) := by
  obtain ⟨h0, h1, _, h2⟩ := h
  unfold labelR showLb
  rw [List.append_assoc, List.append_assoc, nameR_app h0 fun c hc => ?_]
  rotate_left
  · unfold showPs at hc
    by_cases hp : l.ps = []
    · rw [if_pos hp] at hc
      have : c = 124 := by simpa using hc.symm
      subst this
      decide +kernel
    · rw [if_neg hp] at hc
      have : c = 40 := by simpa using hc.symm
      subst this
      decide +kernel
  have hps : paramsR (showPs l.ps ++ (124 :: ((l.rows.map fun r => [32, 32] ++ showRow r).flatten) ++ r)) = some (strsD l.ps, 124 :: ((l.rows.map fun r => [32, 32] ++ showRow r).flatten) ++ r) := by
    unfold paramsR showPs
    by_cases hp : l.ps = []
    · rw [if_pos hp, hp]
      simp
      rfl
    · rw [if_neg hp, List.cons_append, List.append_assoc]
      rw [if_pos (by simp)]
      unfold thenC
      rw [List.drop_succ_cons, List.drop_zero, names_back hp h1 (by simp; decide +kernel) (by simp)]
      simp
  have hl : l.rows.length < ((l.rows.map fun r => [32, 32] ++ showRow r).flatten ++ r).length + 1 := by
    have : ∀ l : List (List Dd), l.length ≤ (l.map fun y => [32, 32] ++ showRow y).flatten.length := by
      intro l
      induction l with
      | nil => exact Nat.le_refl _
      | cons y ys ih =>
        rw [List.map_cons, List.flatten_cons, List.length_append, List.length_append, List.length_cons, List.length_cons, List.length_cons]
        omega
    have := this l.rows
    rw [List.length_append]
    omega
  have hi := itemsTail_app (sh := showRow) (td := rowTD) hr l.rows _ hl fun y hy r' _ => row_back (h2 y hy) r'
  generalize (l.rows.map fun r => [32, 32] ++ showRow r).flatten = T at hps hi ⊢
  simp only
  rw [hps]
  simp only [past, List.cons_append, List.take_succ_cons, List.take_zero, List.drop_succ_cons, List.drop_zero, if_pos]
  rw [hi]
  rfl
theorem prog_back {labs : List (Tx × Nat)} : ∀ (p : List Lb) (f : Nat), p.length < f → (∀ l ∈ p, l.ok labs) → progT f (showPr p) = some (p.map Lb.toD)
  | [], f + 1, _, _ => by
    show progT (f + 1) [] = _
    rw [progT, if_pos rfl]
    rfl
  | l :: p, f + 1, hf, h => by
    have hn := (h l (by simp)).1
    obtain ⟨c, t, e, hc⟩ := name_hd hn
    have e1 : showPr (l :: p) = showLb l ++ showPr p := by unfold showPr; rw [List.map_cons, List.flatten_cons]
    have e2 : showPr (l :: p) ≠ [] := by
      rw [e1]
      unfold showLb
      rw [e]
      simp
    have hr : [32, 32].isPrefixOf (showPr p) = false := by
      cases p with
      | nil => rfl
      | cons l2 p =>
        obtain ⟨c, t, e, hc⟩ := name_hd (h l2 (by simp)).1
        unfold showPr showLb
        rw [List.map_cons, List.flatten_cons, e]
        have : c ≠ 32 := fun e => by subst e; revert hc; decide +kernel
        simp [List.isPrefixOf]
        intro e
        exact absurd e.symm this
    rw [progT, if_neg e2, e1, label_back (h l (by simp)) _ hr]
    simp only
    rw [prog_back p f (by simp at hf; omega) fun x hx => h x (List.mem_cons_of_mem _ hx)]
    rfl
theorem showPr_len : ∀ p : List Lb, p.length ≤ (showPr p).length
  | [] => Nat.le_refl _
  | l :: p => by
    have := showPr_len p
    unfold showPr at this ⊢
    rw [List.map_cons, List.flatten_cons, List.length_append, List.length_cons]
    have : 0 < (showLb l).length := by
      unfold showLb
      rw [List.length_append, List.length_cons]
      omega
    omega
theorem prog_back' {labs : List (Tx × Nat)} {p : List Lb} (h : ∀ l ∈ p, l.ok labs) : progR (showPr p) = some (p.map Lb.toD) := by
  have := showPr_len p
  exact prog_back p _ (by omega) h
end Sk

/-! ## SkC -/
namespace Sk
open PySem PySem.Spec PyProof.Rows L2
/-! ### what is read is its only writing -/
theorem tkc {l : Tx} {c : Nat} (h : l.take 1 = [c]) : l = c :: l.drop 1 := by
  cases l with
  | nil => cases h
  | cons a r => simpa using h
theorem nameR_cv {l n r : Tx} (h : nameR l = some (n, r)) : isNameT n = true ∧ l = n ++ r := by
  unfold nameR at h
  split at h
  · rename_i c
    injection h with h
    injection h with h1 h2
    subst h1 h2
    exact ⟨c, List.takeWhile_append_dropWhile.symm⟩
  · cases h
theorem qBody_cv : ∀ (m : Nat) (l w r : Tx), l.length ≤ m → qBody l = some (w, r) → l = dblQ w ++ 34 :: r
  | m, [], w, r, _, h => by
    rw [qBody.eq_def] at h
    cases h
  | 0, c :: l, w, r, hm, h => by simp at hm
  | m + 1, c :: l, w, r, hm, h => by
    rw [qBody.eq_def] at h
    simp only at h
    by_cases hc : c = 34
    · subst hc
      rw [if_pos rfl] at h
      split at h
      · rename_i r2
        cases hq : qBody r2 with
        | none => rw [hq] at h; cases h
        | some p =>
          rw [hq] at h
          injection h with h
          injection h with h1 h2
          subst h1 h2
          have := qBody_cv m r2 p.1 p.2 (by simp at hm; omega) hq
          rw [dblQ, if_pos rfl, List.cons_append, List.cons_append, ← this]
      · injection h with h
        injection h with h1 h2
        subst h1 h2
        rfl
    · rw [if_neg hc] at h
      cases hq : qBody l with
      | none => rw [hq] at h; cases h
      | some p =>
        rw [hq] at h
        injection h with h
        injection h with h1 h2
        subst h1 h2
        have := qBody_cv m l p.1 p.2 (by simp at hm; omega) hq
        rw [dblQ, if_neg hc, List.cons_append, ← this]
theorem quotedR_cv {l w r : Tx} (h : quotedR l = some (w, r)) : isWorthT w = true ∧ l = quotedW w ++ r := by
  unfold quotedR at h
  split at h
  · cases h
  · rename_i c l
    split at h
    · rename_i hc
      subst hc
      split at h
      · rename_i p hp
        split at h
        · rename_i hw
          injection h with h
          subst h
          refine ⟨hw, ?_⟩
          have := qBody_cv _ l _ _ (Nat.le_refl _) hp
          unfold quotedW
          rw [List.cons_append, List.append_assoc]
          exact congrArg (34 :: ·) this
        · cases h
      · cases h
    · cases h
theorem figs_worth {w : Tx} (h : w.all isFig = true) : isWorthT w = true := by
  unfold isWorthT
  rw [List.all_eq_true] at h ⊢
  intro c hc
  have h1 : c ∈ figures := of_decide_eq_true (h c hc)
  have : ∀ d ∈ figures, isSign d = true := by decide +kernel
  exact this c h1
theorem fig_ne45 {c : Nat} (h : isFig c = true) : c ≠ 45 := fun e => by subst e; revert h; decide +kernel
theorem worthR_cv {l w r : Tx} (h : worthR l = some (w, r)) : isWorthT w = true ∧ l = shownW w ++ r := by
  unfold worthR at h
  split at h
  · split at h
    · rename_i p hp
      split at h
      · cases h
      · rename_i hn
        injection h with h
        subst h
        obtain ⟨h1, h2⟩ := quotedR_cv hp
        refine ⟨h1, ?_⟩
        cases ho : isOwnT w with
        | true => exact absurd (shownW_own ho) hn
        | false => rw [shownW_q ho]; exact h2
    · cases h
  · split at h
    · rename_i hn
      injection h with h
      injection h with h1 h2
      subst h1 h2
      have ha : (l.takeWhile isFig).all isFig = true := List.all_takeWhile
      refine ⟨figs_worth ha, ?_⟩
      have ho : isOwnT (l.takeWhile isFig) = true := by
        unfold isOwnT
        rw [hn, Bool.true_and, decide_eq_true_eq]
        intro e
        cases hl : l.takeWhile isFig with
        | nil => rw [hl] at e; cases e
        | cons c t =>
          rw [hl] at e ha
          rw [List.all_cons, Bool.and_eq_true] at ha
          have : c = 45 := by simpa using e
          exact fig_ne45 ha.1 this
      rw [shownW_own ho, List.takeWhile_append_dropWhile]
    · cases h
def Cv (n : Nat) (E : Rd1 Ex) : Prop := ∀ l e r, E l = some (e, r) → e.wf = true ∧ e.dep ≤ n ∧ l = showE e ++ r
def CvS (n : Nat) (E : Rd1 (List Ex)) : Prop := ∀ l es r, E l = some (es, r) → wfS es = true ∧ depS es ≤ n ∧ l = showP es ++ r
def tailT : List Ex → Tx
  | [] => []
  | e :: r => 44 :: (showE e ++ tailT r)
theorem showT_tail : ∀ es : List Ex, showT es = tailT es ++ [41]
  | [] => by rw [showT, tailT]; rfl
  | e :: r => by rw [showT, tailT, showT_tail r, List.cons_append, List.append_assoc]
theorem partsTail_cv {n : Nat} {E : Rd1 Ex} (hE : Cv n E) : ∀ (k : Nat) (l : Tx) (es : List Ex) (r : Tx), partsTail E k l = some (es, r) → wfS es = true ∧ depS es ≤ n ∧ l = tailT es ++ r
  | 0, l, es, r, h => by cases h
  | k + 1, l, es, r, h => by
    rw [partsTail] at h
    split at h
    · rename_i c
      split at h
      · rename_i e r1 he
        obtain ⟨h1, h2, h3⟩ := hE _ _ _ he
        split at h
        · rename_i es' r2 hs
          obtain ⟨h4, h5, h6⟩ := partsTail_cv hE k _ _ _ hs
          injection h with h
          injection h with g1 g2
          subst g1 g2
          refine ⟨by rw [wfS, h1, h4]; rfl, by rw [depS]; omega, ?_⟩
          rw [tkc c, h3, h6, tailT, List.cons_append, List.append_assoc]
        · cases h
      · cases h
    · injection h with h
      injection h with g1 g2
      subst g1 g2
      exact ⟨rfl, by rw [depS]; omega, rfl⟩
theorem partsR_cv {n : Nat} {E : Rd1 Ex} (hE : Cv n E) {l : Tx} {es : List Ex} {r : Tx} (h : partsR E l = some (es, r)) : es ≠ [] ∧ wfS es = true ∧ depS es ≤ n ∧ l = showP es ++ r := by
  unfold partsR at h
  split at h
  · rename_i c
    split at h
    · rename_i e r1 he
      obtain ⟨h1, h2, h3⟩ := hE _ _ _ he
      split at h
      · rename_i es' r2 hs
        obtain ⟨h4, h5, h6⟩ := partsTail_cv hE _ _ _ _ hs
        split at h
        · rename_i c2
          injection h with h
          injection h with g1 g2
          subst g1 g2
          refine ⟨by simp, by rw [wfS, h1, h4]; rfl, by rw [depS]; omega, ?_⟩
          rw [tkc c, h3, h6, showP, showT_tail, tkc c2]
          simp
        · cases h
      · cases h
    · cases h
  · cases h
theorem somePartsR_cv {n : Nat} {E : Rd1 Ex} (hE : Cv n E) : CvS n (somePartsR E) := by
  intro l es r h
  unfold somePartsR at h
  split at h
  · exact (partsR_cv hE h).2
  · injection h with h
    injection h with g1 g2
    subst g1 g2
    exact ⟨rfl, by rw [depS]; omega, rfl⟩
theorem placeR_cv {n : Nat} {Em : Rd1 Ex} (hE : Cv n Em) {l : Tx} {e : Ex} {r : Tx} (h : placeR Em l = some (e, r)) : e.isPl = true ∧ e.wf = true ∧ e.dep ≤ n + 1 ∧ l = showE e ++ r := by
  unfold placeR at h
  split at h
  · rename_i c
    split at h
    · split at h
      · rename_i ps r1 hp
        obtain ⟨h1, h2, h3, h4⟩ := partsR_cv hE hp
        injection h with h
        injection h with g1 g2
        subst g1 g2
        refine ⟨rfl, by rw [Ex.wf, h2, decide_eq_true h1]; rfl, by rw [Ex.dep]; omega, ?_⟩
        rw [tkc c, h4, showE, List.cons_append]
      · cases h
    · split at h
      · rename_i nm r1 hn
        obtain ⟨n1, n2⟩ := nameR_cv hn
        split at h
        · rename_i ps r2 hp
          obtain ⟨h2, h3, h4⟩ := somePartsR_cv hE _ _ _ hp
          injection h with h
          injection h with g1 g2
          subst g1 g2
          refine ⟨rfl, by rw [Ex.wf, h2, n1]; rfl, by rw [Ex.dep]; omega, ?_⟩
          rw [tkc c, n2, h4, showE, List.cons_append, List.append_assoc]
        · cases h
      · cases h
  · split at h
    · rename_i nm r1 hn
      obtain ⟨n1, n2⟩ := nameR_cv hn
      split at h
      · rename_i ps r2 hp
        obtain ⟨h2, h3, h4⟩ := somePartsR_cv hE _ _ _ hp
        injection h with h
        injection h with g1 g2
        subst g1 g2
        refine ⟨rfl, by rw [Ex.wf, h2, n1]; rfl, by rw [Ex.dep]; omega, ?_⟩
        rw [n2, h4, showE, List.append_assoc]
      · cases h
    · cases h
theorem callR_cv {n : Nat} {E Em : Rd1 Ex} (hE : Cv n E) (hm : Cv (n - 1) Em) (hn : 1 ≤ n) {l : Tx} {e : Ex} {r : Tx} (h : callR E Em l = some (e, r)) : e.isOpX = false ∧ e.wf = true ∧ e.dep ≤ n + 1 ∧ 36 :: l = showE e ++ r := by
  have hl : l.takeWhile isLet ++ l.dropWhile isLet = l := List.takeWhile_append_dropWhile
  unfold callR at h
  split at h
  · rename_i k hk
    split at h
    · rename_i ps r1 hp
      obtain ⟨h1, h2, h3, h4⟩ := partsR_cv hE hp
      split at h
      · rename_i hk2
        injection h with h
        injection h with g1 g2
        subst g1 g2
        refine ⟨rfl, ?_, by rw [Ex.dep]; omega, ?_⟩
        · rw [Ex.wf, h2, Bool.and_true]
          unfold callOk
          rw [hk]
          exact decide_eq_true hk2
        · rw [showE, List.cons_append, List.append_assoc, ← h4, hl]
      · cases h
    · cases h
  · rename_i hk
    split at h
    · rename_i hw
      split at h
      · rename_i c
        split at h
        · rename_i p r1 hp
          obtain ⟨p1, p2, p3, p4⟩ := placeR_cv hm hp
          split at h
          · rename_i ho
            split at h
            · rename_i c2
              split at h
              · rename_i e2 r2 he
                obtain ⟨h1, h2, h3⟩ := hE _ _ _ he
                split at h
                · rename_i c3
                  injection h with h
                  injection h with g1 g2
                  subst g1 g2
                  refine ⟨rfl, ?_, by rw [Ex.dep, depS, depS, depS]; omega, ?_⟩
                  · rw [Ex.wf, wfS, wfS, wfS, p2, h1, Bool.and_true]
                    unfold callOk
                    rw [hk]
                    simp [ho, p1]
                  · have q : l.dropWhile isLet = 40 :: (showE p ++ 44 :: (showE e2 ++ 41 :: r2.drop 1)) := by rw [tkc c, p4, tkc c2, h3, ← tkc c3]
                    refine (congrArg (36 :: ·) (hl.symm.trans (congrArg (l.takeWhile isLet ++ ·) q))).trans ?_
                    rw [showE, showP, showT, showT]
                    simp
                · cases h
              · cases h
            · cases h
          · rename_i ho
            split at h
            · rename_i c3
              injection h with h
              injection h with g1 g2
              subst g1 g2
              refine ⟨rfl, ?_, by rw [Ex.dep, depS, depS]; omega, ?_⟩
              · rw [Ex.wf, wfS, wfS, p2, Bool.and_true]
                unfold callOk
                rw [hk]
                have : isPlaceW (l.takeWhile isLet) = true := by simpa [ho] using hw
                simp [this, p1]
              · have q : l.dropWhile isLet = 40 :: (showE p ++ 41 :: r1.drop 1) := by rw [tkc c, p4, ← tkc c3]
                refine (congrArg (36 :: ·) (hl.symm.trans (congrArg (l.takeWhile isLet ++ ·) q))).trans ?_
                rw [showE, showP, showT]
                simp
            · cases h
        · cases h
      · cases h
    · cases h
theorem underR_cv {n : Nat} {S E : Rd1 Ex} (hS : ∀ l e r, S l = some (e, r) → e.isOpX = false ∧ e.wf = true ∧ e.dep ≤ n ∧ l = showE e ++ r) (hE : Cv n E) {l : Tx} {e : Ex} {r : Tx} (h : underR S E l = some (e, r)) : e.wf = true ∧ e.dep ≤ n ∧ l = undS e ++ r := by
  unfold underR at h
  split at h
  · rename_i c
    split at h
    · rename_i e1 r1 he
      obtain ⟨h1, h2, h3⟩ := hE _ _ _ he
      split at h
      · rename_i ho
        split at h
        · rename_i c2
          injection h with h
          injection h with g1 g2
          subst g1 g2
          refine ⟨h1, h2, ?_⟩
          unfold undS
          rw [if_pos ho, tkc c, h3, tkc c2]
          simp
        · cases h
      · cases h
    · cases h
  · obtain ⟨h1, h2, h3, h4⟩ := hS _ _ _ h
    refine ⟨h2, h3, ?_⟩
    unfold undS
    rw [if_neg (by rw [h1]; decide)]
    exact h4
def CvN (n : Nat) (S : Rd1 Ex) : Prop := ∀ l e r, S l = some (e, r) → e.isOpX = false ∧ e.wf = true ∧ e.dep ≤ n ∧ l = showE e ++ r
theorem pl_noop {e : Ex} (h : e.isPl = true) : e.isOpX = false := by cases e <;> first | rfl | cases h
theorem singleR_cv {n : Nat} {S E Em : Rd1 Ex} (hn : 1 ≤ n) (hS : CvN n S) (hE : Cv n E) (hm : Cv (n - 1) Em) : CvN (n + 1) (singleR S E Em) := by
  intro l e r h
  unfold singleR at h
  split at h
  · split at h
    · rename_i w r1 hr
      obtain ⟨h1, h2⟩ := worthR_cv hr
      injection h with h
      injection h with g1 g2
      subst g1 g2
      exact ⟨rfl, by rw [Ex.wf]; exact h1, by rw [Ex.dep]; omega, by rw [showE]; exact h2⟩
    · cases h
  · split at h
    · rename_i c
      split at h
      · rename_i e1 r1 he
        obtain ⟨h1, h2, h3⟩ := underR_cv hS hE he
        injection h with h
        injection h with g1 g2
        subst g1 g2
        refine ⟨rfl, by rw [Ex.wf]; exact h1, by rw [Ex.dep]; omega, ?_⟩
        rw [showE, tkc c, h3]
        rfl
      · cases h
    · split at h
      · rename_i c
        split at h
        · rename_i e1 r1 he
          obtain ⟨h1, h2, h3⟩ := underR_cv hS hE he
          injection h with h
          injection h with g1 g2
          subst g1 g2
          refine ⟨rfl, by rw [Ex.wf]; exact h1, by rw [Ex.dep]; omega, ?_⟩
          rw [showE, tkc c, h3]
          rfl
        · cases h
      · split at h
        · rename_i c
          obtain ⟨h1, h2, h3, h4⟩ := callR_cv hE hm hn h
          exact ⟨h1, h2, h3, by rw [tkc c]; exact h4⟩
        · obtain ⟨h1, h2, h3, h4⟩ := placeR_cv hE h
          exact ⟨pl_noop h1, h2, h3, h4⟩
theorem opsTail_cv {n : Nat} {U : Rd1 Ex} (hU : ∀ l e r, U l = some (e, r) → e.wf = true ∧ e.dep ≤ n ∧ l = undS e ++ r) : ∀ (k : Nat) (f : Ex) (l : Tx) (g : Ex) (r : Tx), f.wf = true → opsTail U k f l = some (g, r) → g.wf = true ∧ showE f ++ l = showE g ++ r
  | 0, f, l, g, r, hw, h => by
    rw [opsTail] at h
    split at h
    · cases h
    · injection h with h
      injection h with h1 h2
      subst h1 h2
      exact ⟨hw, rfl⟩
  | k + 1, f, l, g, r, hw, h => by
    rw [opsTail] at h
    split at h
    · rename_i c
      split at h
      · rename_i e r1 he
        obtain ⟨h1, h2, h3⟩ := hU _ _ _ he
        cases l with
        | nil => cases c
        | cons s t =>
          have hs : isOp s = true := by simpa using c
          obtain ⟨g1, g2⟩ := opsTail_cv hU k _ _ _ _ (by rw [List.headD_cons, Ex.wf, hs, hw, h1]; rfl) h
          refine ⟨g1, ?_⟩
          rw [← g2, List.headD_cons, showE]
          simp only [List.drop_succ_cons, List.drop_zero] at h3
          rw [h3]
          unfold undS
          simp
      · cases h
    · injection h with h
      injection h with h1 h2
      subst h1 h2
      exact ⟨hw, rfl⟩
theorem exprR_cv {n d m : Nat} (hd : n ≤ d) {S U : Rd1 Ex} (hS : CvN d S) (hU : ∀ l e r, U l = some (e, r) → e.wf = true ∧ e.dep ≤ m ∧ l = undS e ++ r) : Cv d (exprR n S U) := by
  intro l e r h
  unfold exprR at h
  split at h
  · rename_i s r1 hs
    obtain ⟨h1, h2, h3, h4⟩ := hS _ _ _ hs
    split at h
    · split at h
      · rename_i f r2 ho
        obtain ⟨g1, g2⟩ := opsTail_cv hU _ _ _ _ _ h2 ho
        split at h
        · rename_i hd2
          injection h with h
          injection h with q1 q2
          subst q1 q2
          exact ⟨g1, Nat.le_trans hd2 hd, by rw [h4, g2]⟩
        · cases h
      · cases h
    · injection h with h
      injection h with q1 q2
      subst q1 q2
      exact ⟨h2, h3, h4⟩
  · cases h
theorem Cv.mono {n m : Nat} {E : Rd1 Ex} (h : Cv n E) (hm : n ≤ m) : Cv m E := fun l e r he => by
  obtain ⟨h1, h2, h3⟩ := h l e r he
  exact ⟨h1, Nat.le_trans h2 hm, h3⟩
theorem lvl_cv : ∀ n : Nat, CvN (n + 1) (sgR n) ∧ Cv (n + 1) (exR n) ∧ Cv n (exR (n - 1))
  | 0 => ⟨fun _ _ _ h => (by rw [sgR_zero] at h; cases h), fun _ _ _ h => (by rw [exR_zero] at h; cases h), fun _ _ _ h => (by rw [exR_zero] at h; cases h)⟩
  | n + 1 => by
    obtain ⟨h1, h2, h3⟩ := lvl_cv n
    have hs : CvN (n + 2) (sgR (n + 1)) := by
      rw [sgR_succ]
      exact singleR_cv (by omega) h1 h2 h3
    refine ⟨hs, ?_, h2⟩
    rw [exR_succ]
    exact exprR_cv (by omega) hs fun l e r h => underR_cv h1 h2 h
theorem exR_cv {n : Nat} {l : Tx} {e : Ex} {r : Tx} (h : exR n l = some (e, r)) : e.wf = true ∧ e.dep ≤ n + 1 ∧ l = showE e ++ r := (lvl_cv n).2.1 l e r h
end Sk

/-! ## SkP -/
namespace Sk
open PySem PySem.Spec PyProof.Rows L2
/-! ### programs as they are read, and whether they are programs -/
def exW (e : Ex) : Prop := e.wf = true ∧ e.dep ≤ 41
def Ex.isAt : Ex → Bool
  | .at_ .. => true
  | _ => false
def Dd.rd : Dd → Prop
  | .set p e => p.isPl = true ∧ exW p ∧ exW e
  | .one w e => exW e ∧ ((w ∈ word1L ∧ e.isPl = true) ∨ w ∈ word2L)
  | .alone w => w ∈ aloneL ∨ w = "free_all"
  | .for_ n a b c => isNameT n = true ∧ exW a ∧ exW b ∧ exW c
  | .do_ n es => isNameT n = true ∧ ∀ e ∈ es, exW e
  | .new ns => ns ≠ [] ∧ ∀ n ∈ ns, isNameT n = true
def Dd.okB (labs : List (Tx × Nat)) : Dd → Bool
  | .one w e => decide (w ≠ "lock" ∧ w ≠ "free") || e.isAt
  | .do_ n es => decide (labs.lookup n = some es.length)
  | .new ns => decide ns.Nodup
  | _ => true
def Lb.rd (l : Lb) : Prop := isNameT l.nm = true ∧ (∀ n ∈ l.ps, isNameT n = true) ∧ ∀ r ∈ l.rows, ∀ d ∈ r, d.rd
def Lb.okB (labs : List (Tx × Nat)) (l : Lb) : Bool := l.rows.all fun r => r.all fun d => d.okB labs
def okPr (p : List Lb) : Bool := decide ((p.map Lb.nm).Pairwise (· < ·)) && (p.all (fun l => decide l.ps.Nodup) && p.all fun l => l.okB (labsOf p))
theorem exOk.w {e : Ex} (h : exOk e) : exW e := ⟨h.1, by have := h.2; omega⟩
theorem Dd.ok.rd {labs : List (Tx × Nat)} {d : Dd} (h : d.ok labs) : d.rd := by
  cases d with
  | set p e => exact ⟨h.1, h.2.1.w, h.2.2.w⟩
  | one w e =>
    obtain ⟨h1, h2⟩ := h
    refine ⟨h1.w, ?_⟩
    rcases h2 with ⟨rfl, h2⟩ | ⟨h3, n, ps, rfl⟩ | h2
    · exact .inl ⟨by decide +kernel, h2⟩
    · exact .inl ⟨by rcases h3 with rfl | rfl <;> decide +kernel, rfl⟩
    · exact .inr h2
  | alone w => exact h
  | for_ n a b c => exact ⟨h.1, h.2.1.w, h.2.2.1.w, h.2.2.2.w⟩
  | do_ n es => exact ⟨h.1, fun e he => (h.2.1 e he).w⟩
  | new ns => exact ⟨h.1, h.2.1⟩
theorem lookup_mem {n : Tx} {k : Nat} : ∀ {labs : List (Tx × Nat)}, (labs.map Prod.fst).Nodup → (n, k) ∈ labs → labs.lookup n = some k
  | [], _, h => by cases h
  | (a, b) :: r, hn, h => by
    rw [List.map_cons, List.nodup_cons] at hn
    rw [List.lookup_cons]
    rcases List.mem_cons.mp h with h | h
    · cases h
      simp
    · have hne : ¬ n = a := fun e => hn.1 (by rw [← e]; exact List.mem_map.mpr ⟨_, h, rfl⟩)
      have : (n == a) = false := by simpa using hne
      rw [this]
      exact lookup_mem hn.2 h
theorem Dd.ok.okB {labs : List (Tx × Nat)} {d : Dd} (hn : (labs.map Prod.fst).Nodup) (h : d.ok labs) : d.okB labs = true := by
  cases d with
  | one w e =>
    obtain ⟨h1, h2⟩ := h
    show (decide (w ≠ "lock" ∧ w ≠ "free") || e.isAt) = true
    rcases h2 with ⟨rfl, h2⟩ | ⟨h3, n, ps, rfl⟩ | h2
    · rw [decide_eq_true (by decide +kernel)]; rfl
    · rw [show (Ex.at_ n ps).isAt = true from rfl, Bool.or_true]
    · have : ∀ w ∈ word2L, (w ≠ "lock" ∧ w ≠ "free") := by decide +kernel
      rw [decide_eq_true (this w h2)]; rfl
  | do_ n es => exact decide_eq_true (lookup_mem hn h.2.2)
  | new ns => exact decide_eq_true h.2.2
  | set p e => rfl
  | alone w => rfl
  | for_ n a b c => rfl
theorem labs_fst (p : List Lb) : (labsOf p).map Prod.fst = p.map Lb.nm := by
  unfold labsOf
  rw [List.map_map]
  rfl
theorem Lb.ok.rd {labs : List (Tx × Nat)} {l : Lb} (h : l.ok labs) : l.rd := ⟨h.1, h.2.1, fun r hr d hd => (h.2.2.2 r hr d hd).rd⟩
/-! the converse reading -/
theorem past_cv {α : Type} {c : Nat} {R : Rd1 α} {l : Tx} {a : α} {r : Tx} (h : past c R l = some (a, r)) : l = c :: l.drop 1 ∧ R (l.drop 1) = some (a, r) := by
  unfold past at h
  split at h
  · rename_i e
    exact ⟨tkc e, h⟩
  · cases h
theorem thenC_cv {α : Type} {R : Rd1 α} {c : Nat} {l : Tx} {a : α} {r : Tx} (h : thenC R c l = some (a, r)) : R l = some (a, c :: r) := by
  unfold thenC at h
  split at h
  · rename_i a' r' hr
    split at h
    · rename_i e
      injection h with h
      injection h with h1 h2
      subst h1 h2
      rw [hr, ← tkc e]
    · cases h
  · cases h
theorem pre_drop {s l : Tx} (h : s.isPrefixOf l = true) : l = s ++ l.drop s.length := by
  obtain ⟨t, e⟩ := List.isPrefixOf_iff_prefix.mp h
  rw [← e]
  simp
theorem itemsTail_cv {α : Type} {sep : Tx} {I : Rd1 PyData} {td : α → PyData} {sh : α → Tx} {G : α → Prop} (hI : ∀ l d r, I l = some (d, r) → ∃ a, G a ∧ d = td a ∧ l = sh a ++ r) : ∀ (f : Nat) (l : Tx) (ds : List PyData) (r : Tx), itemsTail sep I f l = some (ds, r) →
    ∃ as : List α, (∀ a ∈ as, G a) ∧ ds = as.map td ∧ l = (as.map fun a => sep ++ sh a).flatten ++ r
  | 0, l, ds, r, h => by cases h
  | f + 1, l, ds, r, h => by
    rw [itemsTail] at h
    split at h
    · rename_i c
      split at h
      · rename_i d r1 hd
        obtain ⟨a, ga, ea, el⟩ := hI _ _ _ hd
        split at h
        · rename_i ds' r2 hs
          obtain ⟨as, gs, es, el2⟩ := itemsTail_cv hI f _ _ _ hs
          injection h with h
          injection h with h1 h2
          subst h1 h2
          refine ⟨a :: as, fun x hx => ?_, by rw [ea, es]; rfl, ?_⟩
          · rcases List.mem_cons.mp hx with rfl | hx
            · exact ga
            · exact gs x hx
          · rw [pre_drop c, el, el2, List.map_cons, List.flatten_cons]
            simp
        · cases h
      · cases h
    · injection h with h
      injection h with h1 h2
      subst h1 h2
      exact ⟨[], by simp, rfl, rfl⟩
theorem itemsR_cv {α : Type} {sep : Tx} {I : Rd1 PyData} {td : α → PyData} {sh : α → Tx} {G : α → Prop} (hI : ∀ l d r, I l = some (d, r) → ∃ a, G a ∧ d = td a ∧ l = sh a ++ r) {l : Tx} {ds : List PyData} {r : Tx} (h : itemsR sep I l = some (ds, r)) :
    ∃ as : List α, as ≠ [] ∧ (∀ a ∈ as, G a) ∧ ds = as.map td ∧ l = TL.joinL sep (as.map sh) ++ r := by
  unfold itemsR at h
  split at h
  · rename_i d r1 hd
    obtain ⟨a, ga, ea, el⟩ := hI _ _ _ hd
    split at h
    · rename_i ds' r2 hs
      obtain ⟨as, gs, es, el2⟩ := itemsTail_cv hI _ _ _ _ hs
      injection h with h
      injection h with h1 h2
      subst h1 h2
      refine ⟨a :: as, by simp, fun x hx => ?_, by rw [ea, es]; rfl, ?_⟩
      · rcases List.mem_cons.mp hx with rfl | hx
        · exact ga
        · exact gs x hx
      · rw [el, el2, List.map_cons, joinL_cons, List.map_map, List.append_assoc]
        rfl
    · cases h
  · cases h
theorem nameD_cv {l : Tx} {d : PyData} {r : Tx} (h : nameD l = some (d, r)) : ∃ n : Tx, isNameT n = true ∧ d = PyData.str (St n) ∧ l = id n ++ r := by
  unfold nameD at h
  split at h
  · rename_i n r1 hn
    obtain ⟨h1, h2⟩ := nameR_cv hn
    injection h with h
    injection h with g1 g2
    subst g1 g2
    exact ⟨n, h1, rfl, h2⟩
  · cases h
theorem namesR_cv {l : Tx} {ds : List PyData} {r : Tx} (h : namesR l = some (ds, r)) : ∃ ns : List Tx, ns ≠ [] ∧ (∀ n ∈ ns, isNameT n = true) ∧ ds = strsD ns ∧ l = TL.joinL [44] ns ++ r := by
  obtain ⟨ns, h1, h2, h3, h4⟩ := itemsR_cv (td := fun n => PyData.str (St n)) (sh := id) (fun l d r h => nameD_cv h) h
  rw [List.map_id] at h4
  exact ⟨ns, h1, h2, h3, h4⟩
theorem pl_cv {l : Tx} {e : Ex} {r : Tx} (h : placeR (exR 39) l = some (e, r)) : e.isPl = true ∧ exW e ∧ l = showE e ++ r := by
  obtain ⟨h1, h2, h3, h4⟩ := placeR_cv (n := 40) (lvl_cv 39).2.1 h
  exact ⟨h1, ⟨h2, h3⟩, h4⟩
theorem ex_cv {l : Tx} {e : Ex} {r : Tx} (h : exR 40 l = some (e, r)) : exW e ∧ l = showE e ++ r := by
  obtain ⟨h1, h2, h3⟩ := exR_cv h
  exact ⟨⟨h1, h2⟩, h3⟩
theorem forR_cv {l : Tx} {d : PyData} {r : Tx} (h : forR l = some (d, r)) : ∃ n a b c, (Dd.for_ n a b c).rd ∧ d = (Dd.for_ n a b c).toD ∧ tl "for" ++ 32 :: l = showD (.for_ n a b c) ++ r := by
  unfold forR at h
  split at h
  · rename_i n r1 hn
    obtain ⟨n1, n2⟩ := nameR_cv hn
    split at h
    · rename_i a r2 ha
      obtain ⟨a1, a2⟩ := past_cv ha
      obtain ⟨a3, a4⟩ := ex_cv a2
      split at h
      · rename_i b r3 hb
        obtain ⟨b1, b2⟩ := past_cv hb
        obtain ⟨b3, b4⟩ := ex_cv b2
        split at h
        · rename_i c r4 hc
          obtain ⟨c1, c2⟩ := past_cv hc
          obtain ⟨c3, c4⟩ := ex_cv c2
          injection h with h
          injection h with g1 g2
          subst g1 g2
          refine ⟨n, a, b, c, ⟨n1, a3, b3, c3⟩, rfl, ?_⟩
          rw [showD, n2, a1, a4, b1, b4, c1, c4]
          simp
        · cases h
      · cases h
    · cases h
  · cases h
theorem deedB_cv {w l : Tx} {d : PyData} {r : Tx} (h : deedB w l = some (d, r)) : ∃ dd : Dd, dd.rd ∧ d = dd.toD ∧ w ++ 32 :: l = showD dd ++ r := by
  unfold deedB at h
  split at h
  · rename_i hw
    split at h
    · rename_i e r1 he
      obtain ⟨h1, h2, h3⟩ := pl_cv he
      injection h with h
      injection h with g1 g2
      subst g1 g2
      refine ⟨.one (St w) e, ⟨h2, .inl ⟨hw, h1⟩⟩, rfl, ?_⟩
      rw [showD, tl_st, h3]
      simp
    · cases h
  · split at h
    · rename_i hw
      split at h
      · rename_i e r1 he
        obtain ⟨h2, h3⟩ := ex_cv he
        injection h with h
        injection h with g1 g2
        subst g1 g2
        refine ⟨.one (St w) e, ⟨h2, .inr hw⟩, rfl, ?_⟩
        rw [showD, tl_st, h3]
        simp
      · cases h
    · split at h
      · rename_i hw
        split at h
        · rename_i e r1 he
          obtain ⟨h1, h2, h3⟩ := pl_cv he
          split at h
          · rename_i f r2 hf
            obtain ⟨f1, f2⟩ := past_cv hf
            obtain ⟨f3, f4⟩ := ex_cv f2
            injection h with h
            injection h with g1 g2
            subst g1 g2
            refine ⟨.set e f, ⟨h1, h2, f3⟩, by rw [hw]; rfl, ?_⟩
            rw [showD, hw, h3, f1, f4]
            simp
          · cases h
        · cases h
      · split at h
        · rename_i hw
          obtain ⟨n, a, b, c, h1, h2, h3⟩ := forR_cv h
          exact ⟨_, h1, h2, by rw [hw]; exact h3⟩
        · split at h
          · rename_i hw
            split at h
            · rename_i n r1 hn
              obtain ⟨n1, n2⟩ := nameR_cv hn
              split at h
              · rename_i es r2 hs
                obtain ⟨s1, s2, s3⟩ := somePartsR_cv (n := 41) (lvl_cv 40).2.1 _ _ _ hs
                injection h with h
                injection h with g1 g2
                subst g1 g2
                refine ⟨.do_ n es, ⟨n1, fun e he => ⟨wfS_mem.mp s1 e he, depS_le.mp s2 e he⟩⟩, by rw [hw]; rfl, ?_⟩
                rw [showD, hw, n2, s3]
                simp
              · cases h
            · cases h
          · split at h
            · rename_i hw
              split at h
              · rename_i ns r1 hn
                obtain ⟨ns', n1, n2, n3, n4⟩ := namesR_cv hn
                injection h with h
                injection h with g1 g2
                subst g1 g2
                refine ⟨.new ns', ⟨n1, n2⟩, by rw [hw, n3]; rfl, ?_⟩
                rw [showD, hw, n4]
                simp
              · cases h
            · cases h
theorem deedR_cv {l : Tx} {d : PyData} {r : Tx} (h : deedR l = some (d, r)) : ∃ dd : Dd, dd.rd ∧ d = dd.toD ∧ l = showD dd ++ r := by
  have hl : l.takeWhile isLet ++ l.dropWhile isLet = l := List.takeWhile_append_dropWhile
  unfold deedR at h
  split at h
  · rename_i hw
    injection h with h
    injection h with g1 g2
    subst g1 g2
    refine ⟨.alone (St (l.takeWhile isLet)), .inl hw, rfl, ?_⟩
    have : ∀ w ∈ aloneL, w ≠ "free_all" := by decide +kernel
    rw [showD, if_neg (this _ hw), tl_st, hl]
  · split at h
    · rename_i hw
      injection h with h
      injection h with g1 g2
      subst g1 g2
      refine ⟨.alone "free_all", .inr rfl, rfl, ?_⟩
      rw [showD, if_pos rfl, ← hw.1, hl]
    · obtain ⟨h1, h2⟩ := past_cv h
      obtain ⟨dd, g1, g2, g3⟩ := deedB_cv h2
      refine ⟨dd, g1, g2, ?_⟩
      rw [← g3, ← h1, hl]
theorem rowD_cv {l : Tx} {d : PyData} {r : Tx} (h : rowD l = some (d, r)) : ∃ ds : List Dd, (∀ x ∈ ds, x.rd) ∧ d = rowTD ds ∧ l = showRow ds ++ r := by
  unfold rowD at h
  split at h
  · rename_i ds r1 hr
    injection h with h
    injection h with g1 g2
    subst g1 g2
    have h1 := thenC_cv hr
    split at h1
    · rename_i hc
      injection h1 with h1
      injection h1 with g1 g2
      subst g1
      exact ⟨[], by simp, rfl, by rw [g2]; rfl⟩
    · obtain ⟨as, _, h2, h3, h4⟩ := itemsR_cv (td := Dd.toD) (sh := showD) (fun l d r h => deedR_cv h) h1
      refine ⟨as, h2, by rw [h3]; rfl, ?_⟩
      rw [h4]
      unfold showRow
      simp
  · cases h
theorem labelR_cv {l : Tx} {d : PyData} {r : Tx} (h : labelR l = some (d, r)) : ∃ lb : Lb, lb.rd ∧ d = lb.toD ∧ l = showLb lb ++ r := by
  unfold labelR at h
  split at h
  · rename_i n r1 hn
    obtain ⟨n1, n2⟩ := nameR_cv hn
    split at h
    · rename_i ps r2 hp
      have hps : ∃ qs : List Tx, (∀ n ∈ qs, isNameT n = true) ∧ ps = strsD qs ∧ r1 = showPs qs ++ r2 := by
        unfold paramsR at hp
        split at hp
        · rename_i hc
          have h1 := thenC_cv hp
          obtain ⟨qs, q1, q2, q3, q4⟩ := namesR_cv h1
          refine ⟨qs, q2, q3, ?_⟩
          unfold showPs
          rw [if_neg q1, tkc hc, q4]
          simp
        · injection hp with hp
          injection hp with g1 g2
          subst g1 g2
          exact ⟨[], by simp, rfl, rfl⟩
      obtain ⟨qs, q1, q2, q3⟩ := hps
      split at h
      · rename_i rows r3 hr
        obtain ⟨h1, h2⟩ := past_cv hr
        obtain ⟨rs, g1, g2, g3⟩ := itemsTail_cv (td := rowTD) (sh := showRow) (fun l d r h => rowD_cv h) _ _ _ _ h2
        injection h with h
        injection h with e1 e2
        subst e1 e2
        refine ⟨⟨n, qs, rs⟩, ⟨n1, q1, g1⟩, by rw [q2, g2]; rfl, ?_⟩
        rw [n2, q3, h1, g3]
        unfold showLb
        simp
      · cases h
    · cases h
  · cases h
theorem progT_cv : ∀ (f : Nat) (l : Tx) (ds : List PyData), progT f l = some ds → ∃ p : List Lb, (∀ x ∈ p, x.rd) ∧ ds = p.map Lb.toD ∧ l = showPr p
  | 0, l, ds, h => by cases h
  | f + 1, l, ds, h => by
    rw [progT] at h
    split at h
    · rename_i hl
      injection h with h
      subst h
      exact ⟨[], by simp, rfl, hl⟩
    · split at h
      · rename_i d r hd
        obtain ⟨lb, h1, h2, h3⟩ := labelR_cv hd
        split at h
        · rename_i ds' hs
          obtain ⟨p, g1, g2, g3⟩ := progT_cv f _ _ hs
          injection h with h
          subst h
          refine ⟨lb :: p, fun x hx => ?_, by rw [h2, g2]; rfl, ?_⟩
          · rcases List.mem_cons.mp hx with rfl | hx
            · exact h1
            · exact g1 x hx
          · rw [h3, g3]
            unfold showPr
            rw [List.map_cons, List.flatten_cons]
        · cases h
      · cases h
theorem progR_cv {l : Tx} {ds : List PyData} (h : progR l = some ds) : ∃ p : List Lb, (∀ x ∈ p, x.rd) ∧ ds = p.map Lb.toD ∧ l = showPr p := progT_cv _ _ _ h
/-! sizes -/
theorem showD_posR {d : Dd} (h : d.rd) : 1 ≤ (showD d).length := by
  cases d with
  | alone w =>
    rw [showD]
    by_cases hf : w = "free_all"
    · rw [if_pos hf]; decide +kernel
    · rw [if_neg hf]
      have : ∀ w ∈ aloneL, 1 ≤ (tl w).length := by decide +kernel
      exact this w (Or.resolve_right h hf)
  | _ => rw [showD, List.length_append, List.length_cons]; omega
end Sk

/-! ## SkI -/
namespace Sk
open PySem PySem.Spec PyProof.Rows L2
/-! ### data of texts, lists, tuples: like just where they are the same -/
mutual
def txD : PyData → Bool
  | .str _ => true
  | .list xs => txDs xs
  | .tuple xs => txDs xs
  | _ => false
def txDs : List PyData → Bool
  | [] => true
  | x :: r => txD x && txDs r
end
mutual
theorem eqv_same : ∀ (d e : PyData), txD d = true → txD e = true → PyData.eqv d e = true → d = e
  | .str x, e, _, he, h => by
    cases e with
    | str y => simpa [PyData.eqv] using h
    | list _ => simp [PyData.eqv] at h
    | tuple _ => simp [PyData.eqv] at h
    | _ => simp [txD] at he
  | .list xs, e, hd, he, h => by
    rw [txD] at hd
    cases e with
    | list ys =>
      rw [txD] at he
      rw [PyData.eqv] at h
      rw [eqvs_same xs ys hd he h]
    | str _ => simp [PyData.eqv] at h
    | tuple _ => simp [PyData.eqv] at h
    | _ => simp [txD] at he
  | .tuple xs, e, hd, he, h => by
    rw [txD] at hd
    cases e with
    | tuple ys =>
      rw [txD] at he
      rw [PyData.eqv] at h
      rw [eqvs_same xs ys hd he h]
    | str _ => simp [PyData.eqv] at h
    | list _ => simp [PyData.eqv] at h
    | _ => simp [txD] at he
  | .none, e, hd, _, _ => by simp [txD] at hd
  | .bool _, e, hd, _, _ => by simp [txD] at hd
  | .int _, e, hd, _, _ => by simp [txD] at hd
  | .dict _, e, hd, _, _ => by simp [txD] at hd
theorem eqvs_same : ∀ (xs ys : List PyData), txDs xs = true → txDs ys = true → PyData.eqvAll xs ys = true → xs = ys
  | [], [], _, _, _ => rfl
  | [], _ :: _, _, _, h => by simp [PyData.eqvAll] at h
  | _ :: _, [], _, _, h => by simp [PyData.eqvAll] at h
  | x :: xs, y :: ys, hd, he, h => by
    rw [txDs, Bool.and_eq_true] at hd he
    rw [PyData.eqvAll, Bool.and_eq_true] at h
    rw [eqv_same x y hd.1 he.1 h.1, eqvs_same xs ys hd.2 he.2 h.2]
end
mutual
theorem toD_tx : ∀ e : Ex, txD e.toD = true
  | .is w => by rw [Ex.toD]; rfl
  | .var n ps => by rw [Ex.toD]; simp [txD, txDs, toDs_tx ps]
  | .at_ n ps => by rw [Ex.toD]; simp [txD, txDs, toDs_tx ps]
  | .short ps => by rw [Ex.toD]; simp [txD, txDs, toDs_tx ps]
  | .op s a b => by rw [Ex.toD]; simp [txD, txDs, toD_tx a, toD_tx b]
  | .not a => by rw [Ex.toD]; simp [txD, txDs, toD_tx a]
  | .minus a => by rw [Ex.toD]; simp [txD, txDs, toD_tx a]
  | .call n ps => by rw [Ex.toD]; simp [txD, txDs, toDs_tx ps]
theorem toDs_tx : ∀ es : List Ex, txDs (toDs es) = true
  | [] => by rw [toDs]; rfl
  | e :: r => by rw [toDs, txDs, toD_tx e, toDs_tx r]; rfl
end
/-! the data tell what they are of -/
theorem call_seven {n : Tx} {ps : List Ex} (h : callOk n ps = true) : n ∈ [tl "length", tl "piece", tl "part", tl "order", tl "back", tl "data", tl "other"] := by
  unfold callOk at h
  cases hc : callsN n with
  | some k =>
    unfold callsN at hc
    split at hc
    · rename_i e; rw [e]; decide +kernel
    · split at hc
      · rename_i e; rw [e]; decide +kernel
      · split at hc
        · rename_i e; rw [e]; decide +kernel
        · cases hc
  | none =>
    rw [hc] at h
    simp only [Bool.or_eq_true, Bool.and_eq_true, decide_eq_true_eq] at h
    rcases h with ⟨h, _⟩ | ⟨h, _⟩
    · unfold isPlaceW at h
      simp only [Bool.or_eq_true, decide_eq_true_eq] at h
      rcases h with (h | h) | h <;> rw [h] <;> decide +kernel
    · rw [h]; decide +kernel
def kindL : List Str := ["is", "var", "at", "short", "op", "not", "minus"]
theorem call_ne {n : Tx} {ps : List Ex} (h : callOk n ps = true) : ∀ s ∈ kindL, s ≠ St n := by
  have h1 := call_seven h
  have : ∀ m ∈ [tl "length", tl "piece", tl "part", tl "order", tl "back", tl "data", tl "other"], ∀ s ∈ kindL, s ≠ St m := by decide +kernel
  exact this n h1
theorem kind_ne {a b : Str} {α : Prop} (h : a = b) (hn : a ≠ b := by decide +kernel) : α := absurd h hn
def Ex.tag : Ex → Str
  | .is _ => "is" | .var .. => "var" | .at_ .. => "at" | .short _ => "short" | .op .. => "op" | .not _ => "not" | .minus _ => "minus" | .call n _ => St n
theorem tup_inj {x y : PyData} {xs ys : List PyData} (h : PyData.tuple (x :: xs) = PyData.tuple (y :: ys)) : x = y ∧ xs = ys := by
  injection h with h
  injection h with h1 h2
  exact ⟨h1, h2⟩
theorem tagD {e : Ex} : ∃ r, e.toD = .tuple (.str e.tag :: r) := by cases e <;> exact ⟨_, by rw [Ex.toD]; rfl⟩
theorem tag_eq {e e' : Ex} (h : e.toD = e'.toD) : e.tag = e'.tag := by
  obtain ⟨r, h1⟩ := @tagD e
  obtain ⟨r', h2⟩ := @tagD e'
  rw [h1, h2] at h
  exact PyData.str.inj (tup_inj h).1
theorem tag_call {n : Tx} {ps : List Ex} (h : (Ex.call n ps).wf = true) {s : Str} (hs : s ∈ kindL) (e : s = St n) {α : Prop} : α := by
  rw [Ex.wf, Bool.and_eq_true] at h
  exact absurd e (call_ne h.1 s hs)
mutual
theorem toD_inj : ∀ (e e' : Ex), e.wf = true → e'.wf = true → e.toD = e'.toD → e = e'
  | .is w, e', h, h', he => by
    have ht := tag_eq he
    cases e' with
    | is w' =>
      rw [Ex.toD, Ex.toD] at he
      injection (tup_inj he).2 with e1 _
      rw [st_inj (PyData.str.inj e1)]
    | call n ps =>
      simp only [Ex.tag] at ht
      exact tag_call h' (by decide +kernel) ht
    | _ =>
      simp only [Ex.tag] at ht
      exact kind_ne ht
  | .var n ps, e', h, h', he => by
    have ht := tag_eq he
    rw [Ex.wf, Bool.and_eq_true] at h
    cases e' with
    | var n' ps' =>
      rw [Ex.wf, Bool.and_eq_true] at h'
      rw [Ex.toD, Ex.toD] at he
      injection (tup_inj he).2 with e1 e2
      injection e2 with e2 _
      rw [st_inj (PyData.str.inj e1), toDs_inj ps ps' h.2 h'.2 (PyData.list.inj e2)]
    | call n ps =>
      simp only [Ex.tag] at ht
      exact tag_call h' (by decide +kernel) ht
    | _ =>
      simp only [Ex.tag] at ht
      exact kind_ne ht
  | .at_ n ps, e', h, h', he => by
    have ht := tag_eq he
    rw [Ex.wf, Bool.and_eq_true] at h
    cases e' with
    | at_ n' ps' =>
      rw [Ex.wf, Bool.and_eq_true] at h'
      rw [Ex.toD, Ex.toD] at he
      injection (tup_inj he).2 with e1 e2
      injection e2 with e2 _
      rw [st_inj (PyData.str.inj e1), toDs_inj ps ps' h.2 h'.2 (PyData.list.inj e2)]
    | call n ps =>
      simp only [Ex.tag] at ht
      exact tag_call h' (by decide +kernel) ht
    | _ =>
      simp only [Ex.tag] at ht
      exact kind_ne ht
  | .short ps, e', h, h', he => by
    have ht := tag_eq he
    rw [Ex.wf, Bool.and_eq_true] at h
    cases e' with
    | short ps' =>
      rw [Ex.wf, Bool.and_eq_true] at h'
      rw [Ex.toD, Ex.toD] at he
      injection (tup_inj he).2 with e2 _
      rw [toDs_inj ps ps' h.2 h'.2 (PyData.list.inj e2)]
    | call n ps =>
      simp only [Ex.tag] at ht
      exact tag_call h' (by decide +kernel) ht
    | _ =>
      simp only [Ex.tag] at ht
      exact kind_ne ht
  | .op s a b, e', h, h', he => by
    have ht := tag_eq he
    rw [Ex.wf, Bool.and_eq_true, Bool.and_eq_true] at h
    cases e' with
    | op s' a' b' =>
      rw [Ex.wf, Bool.and_eq_true, Bool.and_eq_true] at h'
      rw [Ex.toD, Ex.toD] at he
      injection (tup_inj he).2 with e1 e2
      injection e2 with e2 e3
      injection e3 with e3 _
      have e1 := st_inj (PyData.str.inj e1)
      injection e1 with e1 _
      rw [e1, toD_inj a a' h.2.1 h'.2.1 e2, toD_inj b b' h.2.2 h'.2.2 e3]
    | call n ps =>
      simp only [Ex.tag] at ht
      exact tag_call h' (by decide +kernel) ht
    | _ =>
      simp only [Ex.tag] at ht
      exact kind_ne ht
  | .not a, e', h, h', he => by
    have ht := tag_eq he
    rw [Ex.wf] at h
    cases e' with
    | not a' =>
      rw [Ex.wf] at h'
      rw [Ex.toD, Ex.toD] at he
      injection (tup_inj he).2 with e1 _
      rw [toD_inj a a' h h' e1]
    | call n ps =>
      simp only [Ex.tag] at ht
      exact tag_call h' (by decide +kernel) ht
    | _ =>
      simp only [Ex.tag] at ht
      exact kind_ne ht
  | .minus a, e', h, h', he => by
    have ht := tag_eq he
    rw [Ex.wf] at h
    cases e' with
    | minus a' =>
      rw [Ex.wf] at h'
      rw [Ex.toD, Ex.toD] at he
      injection (tup_inj he).2 with e1 _
      rw [toD_inj a a' h h' e1]
    | call n ps =>
      simp only [Ex.tag] at ht
      exact tag_call h' (by decide +kernel) ht
    | _ =>
      simp only [Ex.tag] at ht
      exact kind_ne ht
  | .call n ps, e', h, h', he => by
    have ht := tag_eq he
    cases e' with
    | call n' ps' =>
      rw [Ex.wf, Bool.and_eq_true] at h h'
      rw [Ex.toD, Ex.toD] at he
      obtain ⟨e1, e2⟩ := tup_inj he
      rw [st_inj (PyData.str.inj e1), toDs_inj ps ps' h.2 h'.2 e2]
    | _ =>
      simp only [Ex.tag] at ht
      exact tag_call h (by decide +kernel) ht.symm
theorem toDs_inj : ∀ (es es' : List Ex), wfS es = true → wfS es' = true → toDs es = toDs es' → es = es'
  | [], [], _, _, _ => rfl
  | [], _ :: _, _, _, h => by rw [toDs, toDs] at h; cases h
  | _ :: _, [], _, _, h => by rw [toDs, toDs] at h; cases h
  | e :: r, e' :: r', h, h', he => by
    rw [wfS, Bool.and_eq_true] at h h'
    rw [toDs, toDs] at he
    injection he with h1 h2
    rw [toD_inj e e' h.1 h'.1 h1, toDs_inj r r' h.2 h'.2 h2]
end
theorem strsD_inj : ∀ {a b : List Tx}, strsD a = strsD b → a = b
  | [], [], _ => rfl
  | [], _ :: _, h => by cases h
  | _ :: _, [], h => by cases h
  | x :: r, y :: s, h => by
    unfold strsD at h
    rw [List.map_cons, List.map_cons] at h
    injection h with h1 h2
    rw [st_inj (PyData.str.inj h1), strsD_inj h2]
theorem strsD_tx : ∀ ns : List Tx, txDs (strsD ns) = true
  | [] => rfl
  | n :: r => by
    have := strsD_tx r
    unfold strsD at this ⊢
    rw [List.map_cons, txDs, this]
    rfl
def Dd.tag : Dd → Str
  | .set .. => "set" | .one w _ => w | .alone w => w | .for_ .. => "for" | .do_ .. => "do" | .new _ => "new"
theorem dtagD {d : Dd} : ∃ r, d.toD = .tuple (.str d.tag :: r) := by cases d <;> exact ⟨_, rfl⟩
theorem dtag_eq {e e' : Dd} (h : e.toD = e'.toD) : e.tag = e'.tag := by
  obtain ⟨r, h1⟩ := @dtagD e
  obtain ⟨r', h2⟩ := @dtagD e'
  rw [h1, h2] at h
  exact PyData.str.inj (tup_inj h).1
def litL : List Str := ["set", "for", "do", "new"]
def alone2L : List Str := ["else", "quit", "start", "keep", "undo", "halt", "free_all"]
theorem one_w {w : Str} {e : Ex} (h : (Dd.one w e).rd) : w ∈ word1L ++ word2L := by
  rcases h.2 with ⟨h, _⟩ | h
  · exact List.mem_append_left _ h
  · exact List.mem_append_right _ h
theorem alone_w {w : Str} (h : (Dd.alone w).rd) : w ∈ alone2L := by
  rcases h with h | h
  · have : ∀ w ∈ aloneL, w ∈ alone2L := by decide +kernel
    exact this w h
  · rw [h]; decide +kernel
theorem w_ne1 {w s : Str} (h : w ∈ word1L ++ word2L) (hs : s ∈ litL ++ alone2L) : w ≠ s := by
  have : ∀ w ∈ word1L ++ word2L, ∀ s ∈ litL ++ alone2L, w ≠ s := by decide +kernel
  exact this w h s hs
theorem w_ne2 {w s : Str} (h : w ∈ alone2L) (hs : s ∈ litL) : w ≠ s := by
  have : ∀ w ∈ alone2L, ∀ s ∈ litL, w ≠ s := by decide +kernel
  exact this w h s hs
theorem ddD_inj : ∀ (d d' : Dd), d.rd → d'.rd → d.toD = d'.toD → d = d'
  | .set p e, d', h, h', he => by
    have ht := dtag_eq he
    cases d' with
    | set p' e' =>
      injection (tup_inj he).2 with e1 e2
      injection e2 with e2 _
      rw [toD_inj p p' h.2.1.1 h'.2.1.1 e1, toD_inj e e' h.2.2.1 h'.2.2.1 e2]
    | one w e' =>
      simp only [Dd.tag] at ht
      exact absurd ht.symm (w_ne1 (one_w h') (by decide +kernel))
    | alone w =>
      simp only [Dd.tag] at ht
      exact absurd ht.symm (w_ne2 (alone_w h') (by decide +kernel))
    | _ =>
      simp only [Dd.tag] at ht
      exact kind_ne ht
  | .one w e, d', h, h', he => by
    have ht := dtag_eq he
    cases d' with
    | one w' e' =>
      obtain ⟨e1, e2⟩ := tup_inj he
      injection e2 with e2 _
      rw [PyData.str.inj e1, toD_inj e e' h.1.1 h'.1.1 e2]
    | alone w =>
      simp only [Dd.tag] at ht
      exact absurd ht (w_ne1 (one_w h) (List.mem_append_right _ (alone_w h')))
    | _ =>
      simp only [Dd.tag] at ht
      exact absurd ht (w_ne1 (one_w h) (by decide +kernel))
  | .alone w, d', h, h', he => by
    have ht := dtag_eq he
    cases d' with
    | one w' e' =>
      simp only [Dd.tag] at ht
      exact absurd ht.symm (w_ne1 (one_w h') (List.mem_append_right _ (alone_w h)))
    | alone w' => rw [show w = w' from ht]
    | _ =>
      simp only [Dd.tag] at ht
      exact absurd ht (w_ne2 (alone_w h) (by decide +kernel))
  | .for_ n a b c, d', h, h', he => by
    have ht := dtag_eq he
    cases d' with
    | for_ n' a' b' c' =>
      injection (tup_inj he).2 with e1 e2
      injection e2 with e2 e3
      injection e3 with e3 e4
      injection e4 with e4 _
      rw [st_inj (PyData.str.inj e1), toD_inj a a' h.2.1.1 h'.2.1.1 e2, toD_inj b b' h.2.2.1.1 h'.2.2.1.1 e3, toD_inj c c' h.2.2.2.1 h'.2.2.2.1 e4]
    | one w e' =>
      simp only [Dd.tag] at ht
      exact absurd ht.symm (w_ne1 (one_w h') (by decide +kernel))
    | alone w =>
      simp only [Dd.tag] at ht
      exact absurd ht.symm (w_ne2 (alone_w h') (by decide +kernel))
    | _ =>
      simp only [Dd.tag] at ht
      exact kind_ne ht
  | .do_ n es, d', h, h', he => by
    have ht := dtag_eq he
    cases d' with
    | do_ n' es' =>
      injection (tup_inj he).2 with e1 e2
      injection e2 with e2 _
      rw [st_inj (PyData.str.inj e1), toDs_inj es es' (wfS_mem.mpr fun e he => (h.2 e he).1) (wfS_mem.mpr fun e he => (h'.2 e he).1) (PyData.list.inj e2)]
    | one w e' =>
      simp only [Dd.tag] at ht
      exact absurd ht.symm (w_ne1 (one_w h') (by decide +kernel))
    | alone w =>
      simp only [Dd.tag] at ht
      exact absurd ht.symm (w_ne2 (alone_w h') (by decide +kernel))
    | _ =>
      simp only [Dd.tag] at ht
      exact kind_ne ht
  | .new ns, d', h, h', he => by
    have ht := dtag_eq he
    cases d' with
    | new ns' =>
      injection (tup_inj he).2 with e1 _
      rw [strsD_inj (PyData.list.inj e1)]
    | one w e' =>
      simp only [Dd.tag] at ht
      exact absurd ht.symm (w_ne1 (one_w h') (by decide +kernel))
    | alone w =>
      simp only [Dd.tag] at ht
      exact absurd ht.symm (w_ne2 (alone_w h') (by decide +kernel))
    | _ =>
      simp only [Dd.tag] at ht
      exact kind_ne ht
theorem map_inj {α β : Type} {f : α → β} {G : α → Prop} (hf : ∀ a b, G a → G b → f a = f b → a = b) : ∀ {l l' : List α}, (∀ a ∈ l, G a) → (∀ a ∈ l', G a) → l.map f = l'.map f → l = l'
  | [], [], _, _, _ => rfl
  | [], _ :: _, _, _, h => by cases h
  | _ :: _, [], _, _, h => by cases h
  | x :: r, y :: s, g, g', h => by
    rw [List.map_cons, List.map_cons] at h
    injection h with h1 h2
    rw [hf x y (g x (by simp)) (g' y (by simp)) h1, map_inj hf (fun a ha => g a (List.mem_cons_of_mem _ ha)) (fun a ha => g' a (List.mem_cons_of_mem _ ha)) h2]
theorem lbD_inj (l l' : Lb) (h : l.rd) (h' : l'.rd) (he : l.toD = l'.toD) : l = l' := by
  obtain ⟨e1, e2⟩ := tup_inj he
  injection e2 with e2 e3
  injection e3 with e3 _
  have q1 := st_inj (PyData.str.inj e1)
  have q2 := strsD_inj (PyData.list.inj e2)
  have q3 := map_inj (f := rowTD) (G := fun r : List Dd => ∀ d ∈ r, d.rd) (fun a b ga gb hab => map_inj (f := Dd.toD) (G := Dd.rd) ddD_inj ga gb (PyData.list.inj hab)) h.2.2 h'.2.2 (PyData.list.inj e3)
  cases l
  cases l'
  simp only at q1 q2 q3
  rw [q1, q2, q3]
theorem prD_inj {p p' : List Lb} (h : ∀ l ∈ p, l.rd) (h' : ∀ l ∈ p', l.rd) (he : p.map Lb.toD = p'.map Lb.toD) : p = p' := map_inj lbD_inj h h' he
theorem ddD_tx : ∀ d : Dd, txD d.toD = true
  | .set p e => by simp [Dd.toD, txD, txDs, toD_tx]
  | .one w e => by simp [Dd.toD, txD, txDs, toD_tx]
  | .alone w => by simp [Dd.toD, txD, txDs]
  | .for_ n a b c => by simp [Dd.toD, txD, txDs, toD_tx]
  | .do_ n es => by simp [Dd.toD, txD, txDs, toDs_tx]
  | .new ns => by simp [Dd.toD, txD, txDs, strsD_tx]
theorem map_tx {α : Type} {f : α → PyData} (h : ∀ a, txD (f a) = true) : ∀ l : List α, txDs (l.map f) = true
  | [] => rfl
  | x :: r => by rw [List.map_cons, txDs, h x, map_tx h r]; rfl
theorem prD_tx (p : List Lb) : txD (.list (p.map Lb.toD)) = true := by
  rw [txD]
  refine map_tx (fun l => ?_) p
  have : txDs (l.rows.map rowTD) = true := map_tx (fun r => by unfold rowTD; rw [txD]; exact map_tx ddD_tx r) _
  unfold Lb.toD
  simp [txD, txDs, strsD_tx, this]
/-- like things have like writings, unlike ones unlike ones -/
theorem ex_eqv {a b : Ex} (ha : a.wf = true) (hb : b.wf = true) (da : a.dep ≤ 40) (db : b.dep ≤ 40) : PyData.eqv a.toD b.toD = decide (showE a = showE b) := by
  rw [Bool.eq_iff_iff, decide_eq_true_eq]
  constructor
  · intro h
    rw [toD_inj a b ha hb (eqv_same _ _ (toD_tx a) (toD_tx b) h)]
  · intro h
    have h1 := (read_back a.sz 40 a (Nat.le_refl _) (by decide) ha da).2 [] stop_nil
    have h2 := (read_back b.sz 40 b (Nat.le_refl _) (by decide) hb db).2 [] stop_nil
    rw [h, h2] at h1
    injection h1 with h1
    injection h1 with h1 _
    rw [h1]
    exact toD_eqv ha
end Sk

/-! ## SkL -/
namespace Sk
open PySem PySem.Spec PyProof.Rows L2
/-! ### the reading without limits -/
def exprU (S U : Rd1 Ex) : Rd1 Ex := fun l => match S l with
  | some (s, r) => opsTail U r.length s r
  | none => none
def lvU : Nat → Rd1 Ex × Rd1 Ex
  | 0 => (fun _ => none, fun _ => none)
  | n + 1 => (singleR (lvU n).1 (lvU n).2 (lvU n).2, exprU (singleR (lvU n).1 (lvU n).2 (lvU n).2) (underR (lvU n).1 (lvU n).2))
def sU (n : Nat) : Rd1 Ex := (lvU n).1
def eU (n : Nat) : Rd1 Ex := (lvU n).2
def uU (n : Nat) : Rd1 Ex := underR (sU n) (eU n)
theorem sU_succ (n : Nat) : sU (n + 1) = singleR (sU n) (eU n) (eU n) := rfl
theorem eU_succ (n : Nat) : eU (n + 1) = exprU (sU (n + 1)) (uU n) := rfl
/-! its readings are the only writings -/
def Cw (E : Rd1 Ex) : Prop := ∀ l e r, E l = some (e, r) → e.wf = true ∧ l = showE e ++ r
def CwS (E : Rd1 (List Ex)) : Prop := ∀ l es r, E l = some (es, r) → wfS es = true ∧ l = showP es ++ r
theorem partsTail_cw {E : Rd1 Ex} (hE : Cw E) : ∀ (k : Nat) (l : Tx) (es : List Ex) (r : Tx), partsTail E k l = some (es, r) → wfS es = true ∧ l = tailT es ++ r
  | 0, l, es, r, h => by cases h
  | k + 1, l, es, r, h => by
    rw [partsTail] at h
    split at h
    · rename_i c
      split at h
      · rename_i e r1 he
        obtain ⟨h1, h3⟩ := hE _ _ _ he
        split at h
        · rename_i es' r2 hs
          obtain ⟨h4, h6⟩ := partsTail_cw hE k _ _ _ hs
          injection h with h
          injection h with g1 g2
          subst g1 g2
          refine ⟨by rw [wfS, h1, h4]; rfl, ?_⟩
          rw [tkc c, h3, h6, tailT, List.cons_append, List.append_assoc]
        · cases h
      · cases h
    · injection h with h
      injection h with g1 g2
      subst g1 g2
      exact ⟨rfl, rfl⟩
theorem partsR_cw {E : Rd1 Ex} (hE : Cw E) {l : Tx} {es : List Ex} {r : Tx} (h : partsR E l = some (es, r)) : es ≠ [] ∧ wfS es = true ∧ l = showP es ++ r := by
  unfold partsR at h
  split at h
  · rename_i c
    split at h
    · rename_i e r1 he
      obtain ⟨h1, h3⟩ := hE _ _ _ he
      split at h
      · rename_i es' r2 hs
        obtain ⟨h4, h6⟩ := partsTail_cw hE _ _ _ _ hs
        split at h
        · rename_i c2
          injection h with h
          injection h with g1 g2
          subst g1 g2
          refine ⟨by simp, by rw [wfS, h1, h4]; rfl, ?_⟩
          rw [tkc c, h3, h6, showP, showT_tail, tkc c2]
          simp
        · cases h
      · cases h
    · cases h
  · cases h
theorem somePartsR_cw {E : Rd1 Ex} (hE : Cw E) : CwS (somePartsR E) := by
  intro l es r h
  unfold somePartsR at h
  split at h
  · exact (partsR_cw hE h).2
  · injection h with h
    injection h with g1 g2
    subst g1 g2
    exact ⟨rfl, rfl⟩
theorem placeR_cw {Em : Rd1 Ex} (hE : Cw Em) {l : Tx} {e : Ex} {r : Tx} (h : placeR Em l = some (e, r)) : e.isPl = true ∧ e.wf = true ∧ l = showE e ++ r := by
  unfold placeR at h
  split at h
  · rename_i c
    split at h
    · split at h
      · rename_i ps r1 hp
        obtain ⟨h1, h2, h4⟩ := partsR_cw hE hp
        injection h with h
        injection h with g1 g2
        subst g1 g2
        refine ⟨rfl, by rw [Ex.wf, h2, decide_eq_true h1]; rfl, ?_⟩
        rw [tkc c, h4, showE, List.cons_append]
      · cases h
    · split at h
      · rename_i nm r1 hn
        obtain ⟨n1, n2⟩ := nameR_cv hn
        split at h
        · rename_i ps r2 hp
          obtain ⟨h2, h4⟩ := somePartsR_cw hE _ _ _ hp
          injection h with h
          injection h with g1 g2
          subst g1 g2
          refine ⟨rfl, by rw [Ex.wf, h2, n1]; rfl, ?_⟩
          rw [tkc c, n2, h4, showE, List.cons_append, List.append_assoc]
        · cases h
      · cases h
  · split at h
    · rename_i nm r1 hn
      obtain ⟨n1, n2⟩ := nameR_cv hn
      split at h
      · rename_i ps r2 hp
        obtain ⟨h2, h4⟩ := somePartsR_cw hE _ _ _ hp
        injection h with h
        injection h with g1 g2
        subst g1 g2
        refine ⟨rfl, by rw [Ex.wf, h2, n1]; rfl, ?_⟩
        rw [n2, h4, showE, List.append_assoc]
      · cases h
    · cases h
theorem callR_cw {E Em : Rd1 Ex} (hE : Cw E) (hm : Cw Em) {l : Tx} {e : Ex} {r : Tx} (h : callR E Em l = some (e, r)) : e.isOpX = false ∧ e.wf = true ∧ 36 :: l = showE e ++ r := by
  have hl : l.takeWhile isLet ++ l.dropWhile isLet = l := List.takeWhile_append_dropWhile
  unfold callR at h
  split at h
  · rename_i k hk
    split at h
    · rename_i ps r1 hp
      obtain ⟨h1, h2, h4⟩ := partsR_cw hE hp
      split at h
      · rename_i hk2
        injection h with h
        injection h with g1 g2
        subst g1 g2
        refine ⟨rfl, ?_, ?_⟩
        · rw [Ex.wf, h2, Bool.and_true]
          unfold callOk
          rw [hk]
          exact decide_eq_true hk2
        · rw [showE, List.cons_append, List.append_assoc, ← h4, hl]
      · cases h
    · cases h
  · rename_i hk
    split at h
    · rename_i hw
      split at h
      · rename_i c
        split at h
        · rename_i p r1 hp
          obtain ⟨p1, p2, p4⟩ := placeR_cw hm hp
          split at h
          · rename_i ho
            split at h
            · rename_i c2
              split at h
              · rename_i e2 r2 he
                obtain ⟨h1, h3⟩ := hE _ _ _ he
                split at h
                · rename_i c3
                  injection h with h
                  injection h with g1 g2
                  subst g1 g2
                  refine ⟨rfl, ?_, ?_⟩
                  · rw [Ex.wf, wfS, wfS, wfS, p2, h1, Bool.and_true]
                    unfold callOk
                    rw [hk]
                    simp [ho, p1]
                  · have q : l.dropWhile isLet = 40 :: (showE p ++ 44 :: (showE e2 ++ 41 :: r2.drop 1)) := by rw [tkc c, p4, tkc c2, h3, ← tkc c3]
                    refine (congrArg (36 :: ·) (hl.symm.trans (congrArg (l.takeWhile isLet ++ ·) q))).trans ?_
                    rw [showE, showP, showT, showT]
                    simp
                · cases h
              · cases h
            · cases h
          · rename_i ho
            split at h
            · rename_i c3
              injection h with h
              injection h with g1 g2
              subst g1 g2
              refine ⟨rfl, ?_, ?_⟩
              · rw [Ex.wf, wfS, wfS, p2, Bool.and_true]
                unfold callOk
                rw [hk]
                have : isPlaceW (l.takeWhile isLet) = true := by simpa [ho] using hw
                simp [this, p1]
              · have q : l.dropWhile isLet = 40 :: (showE p ++ 41 :: r1.drop 1) := by rw [tkc c, p4, ← tkc c3]
                refine (congrArg (36 :: ·) (hl.symm.trans (congrArg (l.takeWhile isLet ++ ·) q))).trans ?_
                rw [showE, showP, showT]
                simp
            · cases h
        · cases h
      · cases h
    · cases h
theorem underR_cw {S E : Rd1 Ex} (hS : ∀ l e r, S l = some (e, r) → e.isOpX = false ∧ e.wf = true ∧ l = showE e ++ r) (hE : Cw E) {l : Tx} {e : Ex} {r : Tx} (h : underR S E l = some (e, r)) : e.wf = true ∧ l = undS e ++ r := by
  unfold underR at h
  split at h
  · rename_i c
    split at h
    · rename_i e1 r1 he
      obtain ⟨h1, h3⟩ := hE _ _ _ he
      split at h
      · rename_i ho
        split at h
        · rename_i c2
          injection h with h
          injection h with g1 g2
          subst g1 g2
          refine ⟨h1, ?_⟩
          unfold undS
          rw [if_pos ho, tkc c, h3, tkc c2]
          simp
        · cases h
      · cases h
    · cases h
  · obtain ⟨h1, h2, h4⟩ := hS _ _ _ h
    refine ⟨h2, ?_⟩
    unfold undS
    rw [if_neg (by rw [h1]; decide)]
    exact h4
def CwN (S : Rd1 Ex) : Prop := ∀ l e r, S l = some (e, r) → e.isOpX = false ∧ e.wf = true ∧ l = showE e ++ r
theorem singleR_cw {S E Em : Rd1 Ex} (hS : CwN S) (hE : Cw E) (hm : Cw Em) : CwN (singleR S E Em) := by
  intro l e r h
  unfold singleR at h
  split at h
  · split at h
    · rename_i w r1 hr
      obtain ⟨h1, h2⟩ := worthR_cv hr
      injection h with h
      injection h with g1 g2
      subst g1 g2
      exact ⟨rfl, by rw [Ex.wf]; exact h1, by rw [showE]; exact h2⟩
    · cases h
  · split at h
    · rename_i c
      split at h
      · rename_i e1 r1 he
        obtain ⟨h1, h3⟩ := underR_cw hS hE he
        injection h with h
        injection h with g1 g2
        subst g1 g2
        refine ⟨rfl, by rw [Ex.wf]; exact h1, ?_⟩
        rw [showE, tkc c, h3]
        rfl
      · cases h
    · split at h
      · rename_i c
        split at h
        · rename_i e1 r1 he
          obtain ⟨h1, h3⟩ := underR_cw hS hE he
          injection h with h
          injection h with g1 g2
          subst g1 g2
          refine ⟨rfl, by rw [Ex.wf]; exact h1, ?_⟩
          rw [showE, tkc c, h3]
          rfl
        · cases h
      · split at h
        · rename_i c
          obtain ⟨h1, h2, h4⟩ := callR_cw hE hm h
          exact ⟨h1, h2, by rw [tkc c]; exact h4⟩
        · obtain ⟨h1, h2, h4⟩ := placeR_cw hE h
          exact ⟨pl_noop h1, h2, h4⟩
theorem opsTail_cw {U : Rd1 Ex} (hU : ∀ l e r, U l = some (e, r) → e.wf = true ∧ l = undS e ++ r) : ∀ (k : Nat) (f : Ex) (l : Tx) (g : Ex) (r : Tx), f.wf = true → opsTail U k f l = some (g, r) → g.wf = true ∧ showE f ++ l = showE g ++ r
  | 0, f, l, g, r, hw, h => by
    rw [opsTail] at h
    split at h
    · cases h
    · injection h with h
      injection h with h1 h2
      subst h1 h2
      exact ⟨hw, rfl⟩
  | k + 1, f, l, g, r, hw, h => by
    rw [opsTail] at h
    split at h
    · rename_i c
      split at h
      · rename_i e r1 he
        obtain ⟨h1, h3⟩ := hU _ _ _ he
        cases l with
        | nil => cases c
        | cons s t =>
          have hs : isOp s = true := by simpa using c
          obtain ⟨g1, g2⟩ := opsTail_cw hU k _ _ _ _ (by rw [List.headD_cons, Ex.wf, hs, hw, h1]; rfl) h
          refine ⟨g1, ?_⟩
          rw [← g2, List.headD_cons, showE]
          simp only [List.drop_succ_cons, List.drop_zero] at h3
          rw [h3]
          unfold undS
          simp
      · cases h
    · injection h with h
      injection h with h1 h2
      subst h1 h2
      exact ⟨hw, rfl⟩
theorem exprU_cw {S U : Rd1 Ex} (hS : CwN S) (hU : ∀ l e r, U l = some (e, r) → e.wf = true ∧ l = undS e ++ r) : Cw (exprU S U) := by
  intro l e r h
  unfold exprU at h
  split at h
  · rename_i s r1 hs
    obtain ⟨h1, h2, h4⟩ := hS _ _ _ hs
    obtain ⟨g1, g2⟩ := opsTail_cw hU _ _ _ _ _ h2 h
    exact ⟨g1, by rw [h4, g2]⟩
  · cases h
theorem lvU_cw : ∀ n : Nat, CwN (sU n) ∧ Cw (eU n)
  | 0 => ⟨fun _ _ _ h => (by cases h), fun _ _ _ h => (by cases h)⟩
  | n + 1 => by
    obtain ⟨h1, h2⟩ := lvU_cw n
    have hs : CwN (sU (n + 1)) := by
      rw [sU_succ]
      exact singleR_cw h1 h2 h2
    refine ⟨hs, ?_⟩
    rw [eU_succ]
    exact exprU_cw hs fun l e r h => underR_cw h1 h2 h
/-! more levels, no limits: what is read is read so -/
def Le {α : Type} (R R' : Rd1 α) : Prop := ∀ l x, R l = some x → R' l = some x
theorem Le.refl {α : Type} (R : Rd1 α) : Le R R := fun _ _ h => h
theorem Le.trans {α : Type} {R R' R'' : Rd1 α} (h : Le R R') (h' : Le R' R'') : Le R R'' := fun l x e => h' l x (h l x e)
theorem partsTail_le {E E' : Rd1 Ex} (hE : Le E E') : ∀ k, Le (partsTail E k) (partsTail E' k)
  | 0, l, x, h => by cases h
  | k + 1, l, x, h => by
    rw [partsTail] at h ⊢
    split at h
    · rename_i c
      rw [if_pos c]
      split at h
      · rename_i e r1 he
        rw [hE _ _ he]
        simp only
        split at h
        · rename_i es r2 hs
          rw [partsTail_le hE k _ _ hs]
          exact h
        · cases h
      · cases h
    · rename_i c
      rw [if_neg c]
      exact h
theorem partsR_le {E E' : Rd1 Ex} (hE : Le E E') : Le (partsR E) (partsR E') := by
  intro l x h
  unfold partsR at h ⊢
  split at h
  · rename_i c
    rw [if_pos c]
    split at h
    · rename_i e r1 he
      rw [hE _ _ he]
      simp only
      split at h
      · rename_i es r2 hs
        rw [partsTail_le hE _ _ _ hs]
        exact h
      · cases h
    · cases h
  · cases h
theorem somePartsR_le {E E' : Rd1 Ex} (hE : Le E E') : Le (somePartsR E) (somePartsR E') := by
  intro l x h
  unfold somePartsR at h ⊢
  split at h
  · rename_i c
    rw [if_pos c]
    exact partsR_le hE _ _ h
  · rename_i c
    rw [if_neg c]
    exact h
theorem placeR_le {E E' : Rd1 Ex} (hE : Le E E') : Le (placeR E) (placeR E') := by
  intro l x h
  unfold placeR at h ⊢
  split at h
  · rename_i c
    rw [if_pos c]
    split at h
    · rename_i c2
      rw [if_pos c2]
      split at h
      · rename_i ps r hp
        rw [partsR_le hE _ _ hp]
        exact h
      · cases h
    · rename_i c2
      rw [if_neg c2]
      split at h
      · rename_i n r hn
        try rw [hn]
        try simp only
        split at h
        · rename_i ps r2 hp
          rw [somePartsR_le hE _ _ hp]
          exact h
        · cases h
      · cases h
  · rename_i c
    rw [if_neg c]
    split at h
    · rename_i n r hn
      try rw [hn]
      try simp only
      split at h
      · rename_i ps r2 hp
        rw [somePartsR_le hE _ _ hp]
        exact h
      · cases h
    · cases h
theorem callR_le {E E' Em Em' : Rd1 Ex} (hE : Le E E') (hm : Le Em Em') : Le (callR E Em) (callR E' Em') := by
  intro l x h
  unfold callR at h ⊢
  split at h
  · rename_i k hk
    try rw [hk]
    try simp only
    split at h
    · rename_i ps r hp
      rw [partsR_le hE _ _ hp]
      exact h
    · cases h
  · rename_i hk
    try rw [hk]
    try simp only
    split at h
    · rename_i c
      rw [if_pos c]
      split at h
      · rename_i c2
        rw [if_pos c2]
        split at h
        · rename_i p r hp
          rw [placeR_le hm _ _ hp]
          simp only
          split at h
          · rename_i c3
            rw [if_pos c3]
            split at h
            · rename_i c4
              rw [if_pos c4]
              split at h
              · rename_i e r2 he
                rw [hE _ _ he]
                exact h
              · cases h
            · cases h
          · rename_i c3
            rw [if_neg c3]
            exact h
        · cases h
      · cases h
    · cases h
theorem underR_le {S S' E E' : Rd1 Ex} (hS : Le S S') (hE : Le E E') : Le (underR S E) (underR S' E') := by
  intro l x h
  unfold underR at h ⊢
  split at h
  · rename_i c
    rw [if_pos c]
    split at h
    · rename_i e r he
      rw [hE _ _ he]
      exact h
    · cases h
  · rename_i c
    rw [if_neg c]
    exact hS _ _ h
theorem singleR_le {S S' E E' Em Em' : Rd1 Ex} (hS : Le S S') (hE : Le E E') (hm : Le Em Em') : Le (singleR S E Em) (singleR S' E' Em') := by
  intro l x h
  unfold singleR at h ⊢
  split at h
  · rename_i c
    rw [if_pos c]
    exact h
  · rename_i c
    rw [if_neg c]
    split at h
    · rename_i c2
      rw [if_pos c2]
      split at h
      · rename_i e r he
        rw [underR_le hS hE _ _ he]
        exact h
      · cases h
    · rename_i c2
      rw [if_neg c2]
      split at h
      · rename_i c3
        rw [if_pos c3]
        split at h
        · rename_i e r he
          rw [underR_le hS hE _ _ he]
          exact h
        · cases h
      · rename_i c3
        rw [if_neg c3]
        split at h
        · rename_i c4
          rw [if_pos c4]
          exact callR_le hE hm _ _ h
        · rename_i c4
          rw [if_neg c4]
          exact placeR_le hE _ _ h
theorem opsTail_le {U U' : Rd1 Ex} (hU : Le U U') (hs : Sh U) : ∀ (k k' : Nat) (f : Ex) (l : Tx) (x : Ex × Tx), l.length ≤ k' → opsTail U k f l = some x → opsTail U' k' f l = some x
  | 0, k', f, l, x, hk, h => by
    rw [opsTail] at h
    split at h
    · cases h
    · rename_i c
      cases k' with
      | zero => rw [opsTail, if_neg c]; exact h
      | succ k' => rw [opsTail, if_neg c]; exact h
  | k + 1, k', f, l, x, hk, h => by
    rw [opsTail] at h
    split at h
    · rename_i c
      have hl := tkAny c
      split at h
      · rename_i e r he
        have h2 := hs _ _ _ he
        cases k' with
        | zero => omega
        | succ k' =>
          rw [opsTail, if_pos c, hU _ _ he]
          exact opsTail_le hU hs k k' _ _ _ (by omega) h
      · cases h
    · rename_i c
      cases k' with
      | zero => rw [opsTail, if_neg c]; exact h
      | succ k' => rw [opsTail, if_neg c]; exact h
theorem exprU_sh {S U : Rd1 Ex} (hS : Sh S) (hU : Sh U) : Sh (exprU S U) := by
  intro l e r h
  unfold exprU at h
  split at h
  · rename_i s r1 hs
    have h1 := hS _ _ _ hs
    have h2 := opsTail_sh hU _ _ _ _ _ h
    omega
  · cases h
theorem lvU_sh : ∀ n, Sh (sU n) ∧ Sh (eU n)
  | 0 => ⟨fun _ _ _ h => (by cases h), fun _ _ _ h => (by cases h)⟩
  | n + 1 => by
    obtain ⟨h1, h2⟩ := lvU_sh n
    have hs : Sh (sU (n + 1)) := by
      rw [sU_succ]
      exact singleR_sh h1 h2 h2 worthR_len
    refine ⟨hs, ?_⟩
    rw [eU_succ]
    exact exprU_sh hs (underR_sh h1 h2)
theorem exprU_le {S S' U U' : Rd1 Ex} (hS : Le S S') (hU : Le U U') (hs : Sh U) : Le (exprU S U) (exprU S' U') := by
  intro l x h
  unfold exprU at h ⊢
  split at h
  · rename_i s r he
    rw [hS _ _ he]
    exact opsTail_le hU hs _ _ _ _ _ (Nat.le_refl _) h
  · cases h
theorem lvU_up : ∀ n, Le (sU n) (sU (n + 1)) ∧ Le (eU n) (eU (n + 1))
  | 0 => ⟨fun _ _ h => (by cases h), fun _ _ h => (by cases h)⟩
  | n + 1 => by
    obtain ⟨h1, h2⟩ := lvU_up n
    have hs : Le (sU (n + 1)) (sU (n + 2)) := by
      rw [sU_succ, sU_succ]
      exact singleR_le h1 h2 h2
    refine ⟨hs, ?_⟩
    rw [eU_succ, eU_succ]
    exact exprU_le hs (underR_le h1 h2) (underR_sh (lvU_sh n).1 (lvU_sh n).2)
theorem eU_mono {m n : Nat} (h : m ≤ n) : Le (eU m) (eU n) := by
  induction h with
  | refl => exact Le.refl _
  | step _ ih => exact ih.trans (lvU_up _).2
theorem none_le {α : Type} {R : Rd1 α} : Le (fun _ => none) R := fun _ _ h => by cases h
theorem exprR_le {n : Nat} {S S' U U' : Rd1 Ex} (hS : Le S S') (hU : Le U U') (hs : Sh U) : Le (exprR n S U) (exprU S' U') := by
  intro l x h
  unfold exprR at h
  unfold exprU
  split at h
  · rename_i s r he
    rw [hS _ _ he]
    simp only
    split at h
    · split at h
      · rename_i f r2 ho
        split at h
        · rw [opsTail_le hU hs _ _ _ _ _ (Nat.le_refl _) ho]
          exact h
        · cases h
      · cases h
    · rename_i c
      cases hr : r.length with
      | zero => rw [opsTail, if_neg c]; exact h
      | succ k => rw [opsTail, if_neg c]; exact h
  · cases h
/-- what the program reads is read without limits, too -/
theorem exR_le : ∀ n, Le (sgR n) (sU n) ∧ Le (exR n) (eU n) ∧ Le (exR (n - 1)) (eU n)
  | 0 => ⟨by rw [sgR_zero]; exact none_le, by rw [exR_zero]; exact none_le, by rw [exR_zero]; exact none_le⟩
  | n + 1 => by
    obtain ⟨h1, h2, h3⟩ := exR_le n
    have hs : Le (sgR (n + 1)) (sU (n + 1)) := by
      rw [sgR_succ, sU_succ]
      exact singleR_le h1 h2 h3
    refine ⟨hs, ?_, h2.trans (lvU_up n).2⟩
    rw [exR_succ, eU_succ]
    exact exprR_le hs (underR_le h1 h2) (underR_sh (sgR_sh n) (exR_sh n))
end Sk

/-! ## SkD -/
namespace Sk
open PySem PySem.Spec PyProof.Rows L2
/-! ### a room that counts each call once -/
structure RoomD (m : Nat) (A : Around) : Prop where
  hd : A.handled = none
  dp : A.depth + m + 14 < recursionLimit
  un : A.units + 3 * m + 300 < cLine
theorem RoomD.mono {j k : Nat} {A : Around} (r : RoomD k A) (h : j ≤ k) : RoomD j A := ⟨r.hd, by have := r.dp; omega, by have := r.un; omega⟩
theorem RoomD.deeper {k : Nat} {A : Around} (r : RoomD (k + 1) A) (env : Env) : RoomD k (A.deeper env) :=
  ⟨r.hd, by have := r.dp; show A.depth + 1 + k + 14 < _; omega, by have := r.un; show A.units + 3 + 3 * k + 300 < _; omega⟩
theorem RoomD.room {k : Nat} {A : Around} (r : RoomD k A) : Room 3 A := ⟨r.hd, by have := r.dp; omega, by have := r.un; omega⟩
theorem RoomD.units {k : Nat} {A : Around} (r : RoomD k A) : A.units + 64 < cLine := by have := r.un; omega
theorem RoomD.depth {k : Nat} {A : Around} (r : RoomD k A) : A.depth < recursionLimit := by have := r.dp; omega
theorem roomD_of {k m : Nat} {A : Around} (r : Room k A) (h : m + 9 ≤ 3 * k) (h2 : 3 * m + 100 ≤ 16 * k) : RoomD m A := ⟨r.hd, by have := r.dp; omega, by have := r.un; omega⟩
structure FnD (P : Program) (w : World) (K : PySem.W.Frag) (mg : Str → Option Value) (base : Heap) (CX : CXT) (k : Nat) (f : Addr) (fd : FuncData) (ps : List Str) (sp : Sp) : Prop where
  len : ∀ vs H Q E, sp vs H Q E → vs.length = ps.length
  run : ∀ (A : Around) (outer : List Env) (s : Shared) (H : Hp) (args : Args) (us : List Value) (vs : List V) (Q : VK) (E : XK), RoomD k A → Env0 P w K mg base A outer s H → BindsTo s fd args (ps.zip us) → Vals vs us → sp vs H Q E →
    codeAny (model P w) A (.call (.ref f) args) (CR CX outer P w H s Q E) s
theorem fnD_of {CX : CXT} {P : Program} {w : World} {K : PySem.W.Frag} {mg : Str → Option Value} {base : Heap} {k : Nat} {f : Addr} {name qual : Str} {params : Arguments} {body : List Stmt} {scope : Scope} {dV kV doc pm cdv ct oc : Value} {an od : Option Addr}
    {osl : Array (Option Value)} {N ps : List Str} {sp : Sp} (lk : K.lookup f = some ⟨oc, od, .func (PySem.W.fnOf name qual params body scope dV kV doc pm an cdv ct), osl⟩) (hcd : PySem.W.codeIn K cdv qual = true) (S : FnScope N ps scope)
    (len : ∀ vs H Q E, sp vs H Q E → vs.length = ps.length)
    (hbody : ∀ (A : Around) (outer : List Env) (s : Shared) (H : Hp) (vs : List V) (Q : VK) (E : XK), RoomD k (A.deeper (envOfC qual scope s.heap.objs.size f cdv)) → sp vs H Q E →
      ∃ t, PSs (cxOf CX P w K mg base N qual scope f cdv A outer s H E) body t ∧ t { nx := fun _ H' => Q .non H', rt := Q } (start N vs) H) :
    FnD P w K mg base CX (k + 1) f (PySem.W.fnOf name qual params body scope dV kV doc pm an cdv ct) ps sp := by
  refine ⟨len, fun A outer s H args us vs Q E hr e0 hb r hsp => ?_⟩
  have hl := len _ _ _ _ hsp
  have KX : K.In s.heap := e0.mod.kin.keeps fun b o e => (e0.bs b o e).1
  have lim : s.heap.NoLimit := e0.mod.nolimit.keeps fun b o e => (e0.bs b o e).1
  have hkind : ∀ y ∈ ps.zip us, scope.names.lookup y.1 = some .local ∨ (scope.names.lookup y.1 = some .cell ∧ ((cellsFrom (s.heap.objs.size + 1) scope.names []).lookup y.1).isSome = true) := fun ⟨n, v⟩ hy => by
    rcases S.par n (List.of_mem_zip hy).1 with q | q
    · exact .inl q
    · exact .inr ⟨q, PySem.W.cellsFrom_some _ _ _ (.inl q)⟩
  refine codeAny_call_function hr.depth (KX _ _ lk) rfl S.co S.gen rfl (PySem.W.codeRec_of KX hcd) (hb _ _ _ _ ?_)
  refine wpAny_newFunctionEnv_cells S.kind hkind fun env he s1 x => ?_
  subst he
  refine ⟨lim.keeps x.toInCall.keep, codeAny_func ?_⟩
  obtain ⟨t, ht, hq⟩ := hbody A outer s H vs Q E (hr.deeper _) hsp
  have I : Inv (cxOf CX P w K mg base N qual scope f cdv A outer s H E) [] (start N vs) H s1 := inv_start S hr.hd e0 hl r x
  refine wpAny_mono (ht.run [] s1 (start N vs) H _ I hq) (fun fl s' hs => ?_) fun e s' hs => hs
  have fin : ∀ {σ' : SS} {H' : Hp} {v : V} {u : Value}, Inv (cxOf CX P w K mg base N qual scope f cdv A outer s H E) [] σ' H' s' → RelV v u → Q v H' → CE outer P w H s Q u s' :=
    fun {σ' H' v u} J rv q => ⟨v, H', J.os, J.bare, J.base, J.hok, rv, q⟩
  cases fl with
  | ret u =>
    obtain ⟨v, σ', H', J, rv, q⟩ := hs
    exact fin J rv q
  | next =>
    obtain ⟨σ', H', J, q⟩ := hs
    exact fin (v := V.non) (u := Value.none) J rfl q
  | brk =>
    obtain ⟨_, _, _, q⟩ := hs
    exact False.elim q
  | cont =>
    obtain ⟨_, _, _, q⟩ := hs
    exact False.elim q
section
variable (P : Program) (w : World) (K : PySem.W.Frag) (mg : Str → Option Value) (base : Heap)
structure DnD (k : Nat) (x : Str) (sp : Sp) : Prop where
  ex : ∃ (f : Addr) (fd : FuncData) (ps : List Str), FnD P w K mg base (L2N.CX P w) k f fd ps sp ∧ mg x = some (.ref f) ∧ PySem.W.keepIn K (.ref f) = true ∧ Binds K fd ps []
end
section
variable {P : Program} {w : World} {K : PySem.W.Frag} {mg : Str → Option Value} {base : Heap}
theorem FnD.mono {CX : CXT} {j k : Nat} {f : Addr} {fd : FuncData} {ps : List Str} {sp : Sp} (F : FnD P w K mg base CX j f fd ps sp) (h : j ≤ k) : FnD P w K mg base CX k f fd ps sp := ⟨F.len, fun A outer s H args us vs Q E hr => F.run A outer s H args us vs Q E (hr.mono h)⟩
theorem DnD.mono {j k : Nat} {x : Str} {sp : Sp} (D : DnD P w K mg base j x sp) (h : j ≤ k) : DnD P w K mg base k x sp := by
  obtain ⟨f, fd, ps, F, a, b, c⟩ := D.ex
  exact ⟨f, fd, ps, F.mono h, a, b, c⟩
theorem DnD.imp {k : Nat} {x : Str} {sp sp' : Sp} (D : DnD P w K mg base k x sp) (h : ∀ vs H Q E, sp' vs H Q E → sp vs H Q E) : DnD P w K mg base k x sp' := by
  obtain ⟨f, fd, ps, F, a, b, c⟩ := D.ex
  exact ⟨f, fd, ps, ⟨fun vs H Q E q => F.len vs H Q E (h _ _ _ _ q), fun A outer s H args us vs Q E hr he hb hv hs => F.run A outer s H args us vs Q E hr he hb hv (h _ _ _ _ hs)⟩, a, b, c⟩
theorem dnD_mk {x : Str} {st : Stmt} {f : Addr} {fd : FuncData} {N ps : List Str} {k : Nat} {sp : Sp} (F : Fun K x x st f fd) (hm : mg x = some (.ref f)) (b : Binds K fd ps []) (S : FnScope N ps (defScope st)) (len : ∀ vs H Q E, sp vs H Q E → vs.length = ps.length)
    (hbody : ∀ (cdv : Value) (A : Around) (outer : List Env) (s : Shared) (H : Hp) (vs : List V) (Q : VK) (E : XK), RoomD k (A.deeper (envOfC x (defScope st) s.heap.objs.size f cdv)) → L2N.Takes (cxOf (L2N.CX P w) P w K mg base N x (defScope st) f cdv A outer s H E) (fun cls d _ H => E cls d H) → sp vs H Q E →
      ∃ t, PSs (cxOf (L2N.CX P w) P w K mg base N x (defScope st) f cdv A outer s H E) (defBody st) t ∧ t { nx := fun _ H' => Q .non H', rt := Q } (start N vs) H) : DnD P w K mg base (k + 1) x sp := by
  have hkp := F.kp
  obtain ⟨_, _, _, _, _, _, cdv, _, _, rfl, hl, hc⟩ := F.ex
  exact ⟨f, _, ps, fnD_of hl hc S len fun A outer s H vs Q E hr h => hbody cdv A outer s H vs Q E hr (L2N.takes_of rfl rfl rfl rfl) h, hm, hkp, b⟩
end
section
variable {X : Cx} {k j : Nat} {x : Str} {sp : Sp} {E : SS → XK} {p pos : Pos} {e : Expr} {es : List Expr} {t : TA}
/-- f(..), f counting its calls once -/
theorem pe_dD (c : DnD X.prog X.w X.K X.mg X.base k x sp) (hr : RoomD j X.A) (hk : k ≤ j) (hx : ∀ σ, PassesAt (L2N.CX X.prog X.w) X σ (E σ)) (hg : Gl X x) (ha : PA X (e :: es) t)
    (hdb : (x == ("__debug__" : Str)) = false := by decide) (he : starEach (e :: es) X.env = (false, eval e X.env) :: starEach es X.env := by rfl) (hpl : (backTo pos (starEach es X.env)).any (·.1) = false := by rfl) :
    PE X (.Call (.Name x p) (e :: es) [] pos) (tCallS sp E t) := by
  obtain ⟨f, fd, ps, F, hm, kp, b⟩ := c.ex
  refine ⟨fun pins s σ H Q I h => ?_⟩
  refine wpAny_Call_Name_kw (ld_glob I hg hm ?_ hdb)
  refine PySem.W.callWith_K (h₀ := X.base) I.ok.mod.kin kp (thn (ha.run pos pins s σ H _ I h) fun us s1 ⟨vs, H1, I1, r, q⟩ => ⟨I1.kIn, ?_⟩) he hpl
  have hl : us.length = ps.length := by rw [← r.length]; exact F.len _ _ _ _ q
  have b2 := b s1 us I1.kIn (by rw [List.append_nil]; exact hl)
  rw [List.append_nil] at b2
  refine wpAny_call (codeAny_mono (F.run X.A X.stack s1 H1 ⟨us, []⟩ us vs Q (E σ) (hr.mono hk) I1.env0 b2 r q) fun r s' hq => ?_)
  cases r with
  | error e => exact hx σ pins H1 s1 e s' I1 hq
  | ok fl =>
    cases fl with
    | ret u => exact I1.after hq
    | next => exact False.elim hq
    | brk => exact False.elim hq
    | cont => exact False.elim hq
/-- a leaf, from there -/
theorem pe_dL (c : Dn X.prog X.w X.K X.mg X.base k x sp) (hr : RoomD j X.A) (hk : k ≤ 3) (hx : ∀ σ, PassesAt (L2N.CX X.prog X.w) X σ (E σ)) (hg : Gl X x) (ha : PA X (e :: es) t)
    (hdb : (x == ("__debug__" : Str)) = false := by decide) (he : starEach (e :: es) X.env = (false, eval e X.env) :: starEach es X.env := by rfl) (hpl : (backTo pos (starEach es X.env)).any (·.1) = false := by rfl) :
    PE X (.Call (.Name x p) (e :: es) [] pos) (tCallS sp E t) := pe_d c hr.room hk hx hg ha hdb he hpl
end
end Sk

/-! ## SkZ -/
namespace Sk
open PySem PySem.Spec PyProof.Rows L2
/-! ### text[::-1], of two signs at most -/
def tRevS (te : TE) : TE := fun σ H Q => te σ H fun x H1 => ∃ z : Str, x = .str z ∧ z.length ≤ 2 ∧ ∀ z' : Str, z'.length ≤ 2 → Q (.str z') H1
section
variable {X : Cx}
theorem revLen : ∀ n : Nat, n ≤ 2 → (Builtin.Str.strSliceIndices none none (-1) n).length ≤ 2 := by
  intro n hn
  have h : ∀ n < 3, (Builtin.Str.strSliceIndices none none (-1) n).length ≤ 2 := by decide +kernel
  exact h n (by omega)
theorem pe_revS {e : Expr} {te : TE} {k : Nat} {p1 p2 p3 pos : Pos} (he : PE X e te) : PE X (.Subscript e (.Slice none none (some (.UnaryOp .USub (.Constant (.int 1) k p1) p2)) p3) pos) (tRevS te) := by
  refine ⟨fun pins s σ H Q I h => ?_⟩
  refine Subscript_ (thn (he.run pins s σ H _ I h) fun v s1 ⟨x, H1, I1, r1, q1⟩ => ?_)
  obtain ⟨z, ex, hx, q⟩ := q1
  subst ex
  obtain ⟨t, rfl⟩ := r1
  have hst : PO X (some (.UnaryOp .USub (.Constant (.int 1) k p1) p2)) (tPart (tUn (rU fun i => .int (-i)) (tC (.int 1)))) := po_some (pe_un un_neg pe_int)
  refine wpAny_Slice (thn (po_none.run pins s1 σ H1 (fun o H2 => o = none ∧ H2 = H1) I1 ⟨rfl, rfl⟩) fun vl s2 ⟨l, H2, I2, pl, el, e2⟩ => ?_)
  subst el e2
  refine thn (po_none.run pins s2 σ H2 (fun o H3 => o = none ∧ H3 = H2) I2 ⟨rfl, rfl⟩) fun vu s3 ⟨u, H3, I3, pu, eu, e3⟩ => ?_
  subst eu e3
  refine thn (hst.run pins s3 σ H3 (fun o H4 => o = some (-1) ∧ H4 = H3) I3 ⟨1, rfl, -1, rfl, rfl, rfl⟩) fun vs s4 ⟨o, H4, I4, ps, eo, e4⟩ => ?_
  subst eo e4
  have I5 : Inv X pins σ H4 { s4 with heap := s4.heap.push { cls := .type "slice", data := .fields #[vl, vu, vs] } } := I4.kept (t' := s4.toks) fun b ob q => Heap.get?_push_of_some _ q
  obtain ⟨l, rfl, hl1⟩ := IsPart.raw pl
  obtain ⟨u, rfl, hu1⟩ := IsPart.raw pu
  obtain ⟨w, rfl, hw1⟩ := IsPart.raw ps
  show wpAny (model X.prog X.w) X.A (subscriptTail e (.Slice none none (some (.UnaryOp .USub (.Constant (.int 1) k p1) p2)) p3) (.str z t) (.ref s4.heap.objs.size)) (EP X pins σ Q) X.xe _
  refine tail_any (ops := [.str z t, .ref s4.heap.objs.size]) (typeIs_str _ z t) (F.slot_str_getitem.lookup) ?_ (by with_unfolding_all rfl)
  refine wpAny_getItem_str_slice (l := l) (u := u) (st := w) ⟨_, Heap.get?_push_size _ rfl, rfl, rfl⟩ (by rw [hw1]; rfl) ?_
  unfold sliceMade
  rw [hw1, if_neg (by simp)]
  have hlen : (slicePicked z l u w).length ≤ 2 := by
    unfold slicePicked
    rw [hl1, hu1, hw1]
    exact revLen _ hx
  have hz : (⟨((slicePicked z l u w).filterMap (z.cps[·]?)).toArray⟩ : Str).length ≤ 2 := by
    have := List.length_filterMap_le (z.cps[·]?) (slicePicked z l u w)
    show (List.toArray _).size ≤ 2
    rw [List.size_toArray]
    omega
  refine ⟨by rw [sizeLine_eq]; exact Nat.le_trans hz (by decide), .str _, H4, I5.tok _, ⟨_, rfl⟩, q _ hz⟩
end
/-! ### a def that is called with defaults -/
section
variable (P : Program) (w : World) (K : PySem.W.Frag) (mg : Str → Option Value) (base : Heap)
structure DnF (k : Nat) (x : Str) (dvs : List V) (sp : Sp) : Prop where
  ex : ∃ (f : Addr) (fd : FuncData) (ps : List Str) (ds : List Value), FnOk P w K mg base (L2N.CX P w) k f fd ps sp ∧ mg x = some (.ref f) ∧ PySem.W.keepIn K (.ref f) = true ∧ Binds K fd ps ds ∧ Vals dvs ds
end
section
variable {P : Program} {w : World} {K : PySem.W.Frag} {mg : Str → Option Value} {base : Heap}
theorem DnF.mono {j k : Nat} {x : Str} {dvs : List V} {sp : Sp} (D : DnF P w K mg base j x dvs sp) (h : j ≤ k) : DnF P w K mg base k x dvs sp := by
  obtain ⟨f, fd, ps, ds, F, r⟩ := D.ex
  exact ⟨f, fd, ps, ds, F.mono h, r⟩
/-- the body's proof is the def's, defaults or none -/
theorem okND {x qual : Str} {params : Arguments} {body : List Stmt} {scope : Scope} {dvs : List V} {kws : List (Str × V)} {f : Addr} {fd : FuncData} {N ps : List Str} {k : Nat} {sp : Sp} (F : FunD K x qual params body scope dvs kws f fd) (S : FnScope N ps scope) (len : ∀ vs H Q E, sp vs H Q E → vs.length = ps.length)
    (hbody : ∀ (cdv : Value) (A : Around) (outer : List Env) (s : Shared) (H : Hp) (vs : List V) (Q : VK) (E : XK), Room k (A.deeper (envOfC qual scope s.heap.objs.size f cdv)) → L2N.Takes (cxOf (L2N.CX P w) P w K mg base N qual scope f cdv A outer s H E) (fun cls d _ H => E cls d H) → sp vs H Q E →
      ∃ t, PSs (cxOf (L2N.CX P w) P w K mg base N qual scope f cdv A outer s H E) body t ∧ t { nx := fun _ H' => Q .non H', rt := Q } (start N vs) H) : FnOk P w K mg base (L2N.CX P w) (k + 1) f fd ps sp := by
  obtain ⟨oc, od, dV, kV, doc, pm, an, cdv, ct, osl, rfl, lk, hcd, _, _⟩ := F.ex
  exact fn_of lk hcd S len fun A outer s H vs Q E hr h => hbody cdv A outer s H vs Q E hr (L2N.takes_of rfl rfl rfl rfl) h
theorem passF {X : Cx} : Passes (L2N.CX X.prog X.w) X (fun _ _ _ => False) := fun _ _ _ _ _ _ _ c => by
  obtain ⟨a, B, H', cls, d, _, _, _, _, _, _, _, w⟩ := c
  exact w.elim
end
section
variable {X : Cx} {k j : Nat} {x : Str} {dvs : List V} {sp : Sp} {E : XK} {p pos : Pos} {e : Expr} {es : List Expr} {t : TA}
theorem pe_dF (c : DnF X.prog X.w X.K X.mg X.base k x dvs sp) (hr : Room j X.A) (hk : k ≤ j) (hx : Passes (L2N.CX X.prog X.w) X E) (hg : Gl X x) (ha : PA X (e :: es) t)
    (hdb : (x == ("__debug__" : Str)) = false := by decide) (he : starEach (e :: es) X.env = (false, eval e X.env) :: starEach es X.env := by rfl) (hpl : (backTo pos (starEach es X.env)).any (·.1) = false := by rfl) :
    PE X (.Call (.Name x p) (e :: es) [] pos) (tCall sp dvs E t) := by
  obtain ⟨f, fd, ps, ds, F, hm, kp, b, v⟩ := c.ex
  exact pe_call F (hr.mono hk) hg hm kp b v hx ha hdb he hpl
end
end Sk

/-! ## C1 -/
namespace Sk
open PySem PySem.Spec PyProof.Rows L2
def sflds (z : Str) (i : Nat) : List (Str × V) := [("signs", .str z), ("spot", .int i)]
def SrcAt (K : PySem.W.Frag) (H : Hp) (p : Addr) (z : Str) (i : Nat) : Prop := (∃ dx, H p = some (.ins (He.ga K "Source") dx (sflds z i))) ∧ i ≤ z.length ∧ z.length ≤ 5000000
def But (p : Addr) (H H' : Hp) : Prop := ∀ b o, H b = some o → b ≠ p → H' b = some o
theorem sf_signs (z : Str) (i : Nat) : (sflds z i).lookup ("signs" : Str) = some (.str z) := by rfl
theorem sf_spot (z : Str) (i : Nat) : (sflds z i).lookup ("spot" : Str) = some (.int i) := by rfl
theorem sf_put (z : Str) (i : Nat) (j : Int) (h : 0 ≤ j) : putF "spot" (.int j) (sflds z i) = sflds z j.toNat := by
  have e : j = (j.toNat : Int) := by omega
  rw [e]
  rfl
theorem sf_no {z : Str} {i : Nat} {m : Str} (h1 : ¬ ("signs" : Str) = m) (h2 : ¬ ("spot" : Str) = m) : (sflds z i).lookup m = none := by
  unfold sflds
  have e1 : (m == ("signs" : Str)) = false := by simpa using fun e => h1 e.symm
  have e2 : (m == ("spot" : Str)) = false := by simpa using fun e => h2 e.symm
  simp [List.lookup, e1, e2]
theorem But.upd1 {p : Addr} {H : Hp} {o : HO} : But p H (upd H p o) := fun b u e h => by rw [upd_ne h]; exact e
theorem But.refl {p : Addr} {H : Hp} : But p H H := fun _ _ e _ => e
theorem But.trans {p : Addr} {H H1 H2 : Hp} (a : But p H H1) (b : But p H1 H2) : But p H H2 := fun c o e h => b c o (a c o e h) h
theorem But.of {p : Addr} {H H' : Hp} (s : Same H H') : But p H H' := fun b o e _ => s b o e
theorem big1 : (5000000 : Nat) ≤ sizeLine := by rw [sizeLine_eq]; omega
def exNT (K : PySem.W.Frag) : Value := .ref (He.ga K "NoText")

theorem rem_cons {z : Str} {j : Nat} (h : j < z.length) : ∃ c, rem z j = c :: rem z (j + 1) := by
  have h' : j < (tl z).length := by rw [tl_len]; exact h
  exact ⟨(tl z)[j], List.drop_eq_getElem_cons h'⟩
theorem rem_nil {z : Str} {j : Nat} (h : z.length ≤ j) : rem z j = [] := List.drop_eq_nil_of_le (by rw [tl_len]; exact h)
theorem rem_at {z : Str} {j : Nat} {c : Nat} {r : Tx} (h : rem z j = c :: r) : (tl z)[j]? = some c := by
  have e : (rem z j)[0]? = some c := by rw [h]; rfl
  rw [rem, List.getElem?_drop] at e
  simpa using e
theorem take_more {z : Str} {i j c : Nat} {r : Tx} (h1 : i ≤ j) (h : rem z j = c :: r) : (rem z i).take (j - i) ++ [c] = (rem z i).take (j + 1 - i) := by
  have e : (rem z i)[j - i]? = some c := by
    rw [rem, List.getElem?_drop, show i + (j - i) = j by omega]
    exact rem_at h
  rw [show j + 1 - i = (j - i) + 1 by omega, List.take_add_one, e]
  rfl
theorem cutS_one {z : Str} {i : Nat} (hi : i ≤ z.length) : cutS z (some (i : Int)) (some ((i : Int) + 1)) = St ((rem z i).take 1) := by
  unfold cutS
  have e1 : HT.sIx z.length 0 (some (i : Int)) = i := by rw [HT.sIx_nat]; omega
  have e2 : HT.sIx z.length z.length (some ((i : Int) + 1)) = min (i + 1) z.length := HT.sIx_nat _ _ (i + 1)
  rw [e1, e2]
  show St _ = _
  congr 1
  by_cases h : i < z.length
  · rw [show min (i + 1) z.length - i = 1 by omega]
    rfl
  · rw [show min (i + 1) z.length - i = 0 by omega, rem_nil (by omega)]
    rfl
theorem sg_inj {x c : Nat} : ((⟨#[x]⟩ : Str) = ⟨#[c]⟩) = (x = c) := by
  rw [eq_iff_iff]
  exact ⟨fun h => by injection h with h; simpa using h, fun h => by rw [h]⟩
set_option hygiene false in
local macro_rules | `(tactic| walk_at "rd") => `(tactic| simp only [tVar, tC, tB, tAnd, tOr, tNot, tAndV, tOrV, tNotV, tIf, tNext, tSeq, tBreak, tCont, tDrop, tRet, tRetN, tIfS, tAsg, tAug, tOp, tUn, tTest, tChain, tFld, sFldAug, sFld, rAdd, tNil, tCons, tTup, tLst, tCB, tNoPart, tPart, tSl, tBM0, tBM, tYes, tM0, tM1, CwR.tReplC, tCallS, tMethS, tMakeS, gName, wipe, tyV, gTup, gCons, gNil,
  rI, rI0, rEq, rNe, scal, rPlus, rPlusI, rPlusS, rCat, rCatA, rIx, rIxL, rIxT, rIxS, rSl, rSlS, rSlL, rSlA, iPlus, iPlusI, iPlusS, ipI, rAll, rAny, LenV, WE, E0, rAppend,
  L2.start, List.map_cons, List.map_nil, List.length_cons, List.length_nil, Nat.zero_add, Nat.add_zero, Nat.reduceAdd, Nat.reduceSub, Nat.sub_self, List.replicate_zero, List.replicate_succ, List.append_nil, List.nil_append, List.cons_append, List.getElem?_cons_zero, List.getElem?_cons_succ, List.set_cons_zero, List.set_cons_succ, Option.some.injEq,
  V.int.injEq, V.str.injEq, V.bl.injEq, V.ref.injEq, V.ty.injEq, HO.ins.injEq, HO.lst.injEq, HO.tup.injEq, List.cons.injEq, reduceCtorEq, false_and, and_false, true_and, and_true, and_assoc, exists_const, exists_false, false_or, or_false, exists_eq_left', exists_eq_left, exists_eq_right, exists_eq_right', exists_and_left, ↓reduceIte, decide_eq_true_eq, Bool.not_eq_true', decide_eq_false_iff_not, if_true, if_false, cxOf, and_self, Bool.not_true, Bool.not_false, Bool.false_eq_true,
  sf_signs, sf_spot, sf_put, T.cl_Source, T.na_Source_signs, T.na_Source_spot, sg_inj, upd_same, rIsS, tyN, kb1, kb2, kb3, kb4, kb5, kb6, kb7, kb8, kb9, kb10, kb11, kb12, kb13, kb14, kb15, kb16, kb17, kb18, kb19, kb20, kb21, tDNewK, rPowW])
section
variable {P : Program} {w : World} {K : PySem.W.Frag} {mg : Str → Option Value} {base : Heap}
def spCN (K : PySem.W.Frag) : Sp := fun vs H Q _ => ∃ p z i y, vs = [.ref p, .str y] ∧ SrcAt K H p z i ∧ Q (.bl ((tl y).isPrefixOf (rem z i))) H
theorem sc_Source_comes_next : FnScope ["self", "sign"] ["self", "sign"] (defScope s_Source_comes_next) := ⟨rfl, rfl, rfl, by decide +kernel, rfl, by decide +kernel, by decide +kernel⟩
theorem ok_Source_comes_next (T : Hd w K mg)  : Mt P w K mg base 1 (He.ga K "Source") "comes_next" (spCN K) := by
  obtain ⟨fd, F⟩ := T.fn_Source_comes_next
  refine mt_mk T.cl_Source T.me_Source_comes_next F (F.binds (ps := ["self", "sign"]) fun _ _ _ _ _ _ us hl => match us, hl with | [_, _], _ => rfl) sc_Source_comes_next (fun vs H Q E h => ?_) (fun cdv A outer s H vs Q E hr tk h => ?_)
  · obtain ⟨p, z, i, y, rfl, ⟨⟨dx, hp⟩, hi, hz⟩, q⟩ := h
    rfl
  obtain ⟨p, z, i, y, rfl, ⟨⟨dx, hp⟩, hi, hz⟩, q⟩ := h
  refine ⟨_, (pss_one (ps_ret (pe_bm PySem.F.plainAttrs_str PySem.F.slot_str_startswith PySem.F.type_str_startswith mt_startswith3 (pe_fld (pv 0) rfl) (pa_cons (pv 1) (pa_cons (pe_fld (pv 0) rfl) pa_nil))))), ?_⟩
  walk_at "rd"
  simp only [hp]
  walk_at "rd"
  rw [sw3 hi]
  exact q
def spSk (K : PySem.W.Frag) : Sp := fun vs H Q _ => ∃ p z i y, vs = [.ref p, .str y] ∧ SrcAt K H p z i ∧ ((tl y).isPrefixOf (rem z i) = false → Q (.bl false) H) ∧
  ((tl y).isPrefixOf (rem z i) = true → ∀ H', But p H H' → SrcAt K H' p z (i + y.length) → Q (.bl true) H')
theorem pre_len {z y : Str} {i : Nat} (h : (tl y).isPrefixOf (rem z i) = true) (hi : i ≤ z.length) : i + y.length ≤ z.length := by
  have := (List.isPrefixOf_iff_prefix.mp h).length_le
  rw [rem_len, tl_len] at this
  omega
theorem sc_Source_skips : FnScope ["self", "sign"] ["self", "sign"] (defScope s_Source_skips) := ⟨rfl, rfl, rfl, by decide +kernel, rfl, by decide +kernel, by decide +kernel⟩
theorem ok_Source_skips (T : Hd w K mg) (M_Source_comes_next : Mt P w K mg base 1 (He.ga K "Source") "comes_next" (spCN K)) : Mt P w K mg base 2 (He.ga K "Source") "skips" (spSk K) := by
  obtain ⟨fd, F⟩ := T.fn_Source_skips
  refine mt_mk T.cl_Source T.me_Source_skips F (F.binds (ps := ["self", "sign"]) fun _ _ _ _ _ _ us hl => match us, hl with | [_, _], _ => rfl) sc_Source_skips (fun vs H Q E h => ?_) (fun cdv A outer s H vs Q E hr tk h => ?_)
  · obtain ⟨p, z, i, y, rfl, hS, q0, q1⟩ := h
    rfl
  obtain ⟨p, z, i, y, rfl, hS, q0, q1⟩ := h
  refine ⟨_, (pss_cons (ps_if (pt_not (pt_val (pe_m (pv 0) M_Source_comes_next hr (by first | decide | omega) (fun σ => L2N.passAt tk σ) (pa_cons (pv 1) pa_nil)))) (pss_one (ps_ret pe_bl)) pss_nil) (pss_cons (ps_fldaug (pv 0) (pe_callB call_len (by rfl) T.f_len (by decide +kernel) (pa_cons (pv 1) pa_nil)) in_add) (pss_one (ps_ret pe_bl)))), ?_⟩
  obtain ⟨⟨dx, hp⟩, hi, hz⟩ := id hS
  walk_at "rd"
  simp only [hp]
  walk_at "rd"
  refine ⟨sf_no (by decide +kernel) (by decide +kernel), p, z, i, y, rfl, hS, ?_⟩
  walk_at "rd"
  cases c : (tl y).isPrefixOf (rem z i) with
  | false =>
    rw [if_pos rfl]
    exact q0 c
  | true =>
    have hl := pre_len c hi
    simp only [hp]
    walk_at "rd"
    have e : (0 : Int) ≤ (i : Int) + (y.length : Int) := by omega
    refine ⟨Nat.le_trans (by omega) big1, (by show 2 < 1000; decide), ?_⟩
    rw [sf_put _ _ _ e]
    refine q1 c _ But.upd1 ⟨⟨dx, ?_⟩, hl, hz⟩
    rw [upd_same]
    congr
def spGo (K : PySem.W.Frag) : Sp := fun vs H Q E => ∃ p z i y, vs = [.ref p, .str y] ∧ SrcAt K H p z i ∧ ((tl y).isPrefixOf (rem z i) = false → E (exNT K) none H) ∧
  ((tl y).isPrefixOf (rem z i) = true → ∀ H', But p H H' → SrcAt K H' p z (i + y.length) → Q .non H')
theorem sc_Source_goes_past : FnScope ["self", "sign"] ["self", "sign"] (defScope s_Source_goes_past) := ⟨rfl, rfl, rfl, by decide +kernel, rfl, by decide +kernel, by decide +kernel⟩
theorem ok_Source_goes_past (T : Hd w K mg) (M_Source_skips : Mt P w K mg base 2 (He.ga K "Source") "skips" (spSk K)) : Mt P w K mg base 3 (He.ga K "Source") "goes_past" (spGo K) := by
  obtain ⟨fd, F⟩ := T.fn_Source_goes_past
  refine mt_mk T.cl_Source T.me_Source_goes_past F (F.binds (ps := ["self", "sign"]) fun _ _ _ _ _ _ us hl => match us, hl with | [_, _], _ => rfl) sc_Source_goes_past (fun vs H Q E h => ?_) (fun cdv A outer s H vs Q E hr tk h => ?_)
  · obtain ⟨p, z, i, y, rfl, hS, q0, q1⟩ := h
    rfl
  obtain ⟨p, z, i, y, rfl, hS, q0, q1⟩ := h
  refine ⟨_, (pss_one (ps_if (pt_not (pt_val (pe_m (pv 0) M_Source_skips hr (by first | decide | omega) (fun σ => L2N.passAt tk σ) (pa_cons (pv 1) pa_nil)))) (pss_one (L2N.ps_raise rfl tk (L2N.pmk_own PySem.F.excBase_ValueError T.x_NoText T.g_NoText T.k_NoText (raises_own T.b_NoText T.t_NoText) rfl))) pss_nil)), ?_⟩
  obtain ⟨⟨dx, hp⟩, hi, hz⟩ := id hS
  walk_at "rd"
  simp only [hp]
  walk_at "rd"
  refine ⟨sf_no (by decide +kernel) (by decide +kernel), p, z, i, y, rfl, hS, fun c => ?_, fun c H' hb hS' => ?_⟩
  · walk_at "rd"
    exact q0 c
  · walk_at "rd"
    exact q1 c H' hb hS'
def spRun (K : PySem.W.Frag) : Sp := fun vs H Q _ => ∃ p z i y, vs = [.ref p, .str y] ∧ SrcAt K H p z i ∧
  ∀ H', But p H H' → SrcAt K H' p z (i + ((rem z i).takeWhile fun c => decide (c ∈ tl y)).length) → Q (.str (St ((rem z i).takeWhile fun c => decide (c ∈ tl y)))) H'
theorem sc_Source_run_of : FnScope ["self", "some", "first"] ["self", "some"] (defScope s_Source_run_of) := ⟨rfl, rfl, rfl, by decide +kernel, rfl, by decide +kernel, by decide +kernel⟩
theorem ok_Source_run_of (T : Hd w K mg)  : Mt P w K mg base 1 (He.ga K "Source") "run_of" (spRun K) := by
  obtain ⟨fd, F⟩ := T.fn_Source_run_of
  refine mt_mk T.cl_Source T.me_Source_run_of F (F.binds (ps := ["self", "some"]) fun _ _ _ _ _ _ us hl => match us, hl with | [_, _], _ => rfl) sc_Source_run_of (fun vs H Q E h => ?_) (fun cdv A outer s H vs Q E hr tk h => ?_)
  · obtain ⟨p, z, i, y, rfl, hS, q⟩ := h
    rfl
  obtain ⟨p, z, i, y, rfl, hS, q⟩ := h
  refine ⟨_, (pss_cons (ps_set (i := 2) sc_Source_run_of.nd rfl (by first | exact Or.inl rfl | exact Or.inr rfl) (pe_fld (pv 0) rfl)) (pss_cons (ps_while (passes_of rfl) (PW.pt (pw_and (pt_cmpR op_lt (pe_fld (pv 0) rfl) (pe_callB call_len (by rfl) T.f_len (by decide +kernel) (pa_cons (pe_fld (pv 0) rfl) pa_nil)) (nomark _)) (pw_and1 (pt_cmpR op_in_sign (pe_ix ix_str (pe_fld (pv 0) rfl) (pe_fld (pv 0) rfl) (fun _ _ => rfl)) (pv 1) rfl)))) (pss_one (ps_fldaug (pv 0) pe_int in_add))) (pss_one (ps_ret (pe_slice sl_str (pe_fld (pv 0) rfl) (po_some (pv 2)) (po_some (pe_fld (pv 0) rfl))))))), ?_⟩
  obtain ⟨⟨dx, hp⟩, hi, hz⟩ := id hS
  walk_at "rd"
  simp only [hp]
  walk_at "rd"
  refine ⟨fun m σ H' => ∃ j, i ≤ j ∧ j ≤ z.length ∧ σ = [some (.ref p), some (.str y), some (.int (i : Int))] ∧ SrcAt K H' p z j ∧ But p H H' ∧ (rem z i).takeWhile (fun c => decide (c ∈ tl y)) = (rem z i).take (j - i) ++ (rem z j).takeWhile (fun c => decide (c ∈ tl y)) ∧ m = z.length - j, ⟨_, i, Nat.le_refl _, hi, rfl, hS, But.refl, by simp, rfl⟩, ?_⟩
  rintro m σ H1 ⟨j, h1, h2, rfl, hS1, hb, e, rfl⟩
  obtain ⟨⟨dy, hp1⟩, _, _⟩ := id hS1
  walk_at "rd"
  simp only [hp1]
  walk_at "rd"
  refine ⟨Nat.le_trans hz big1, ?_⟩
  have done : ¬ (∃ c, (rem z j).head? = some c ∧ c ∈ tl y) → z.length ≤ sizeLine ∧ Q (V.str (cutS z (some (i : Int)) (some (j : Int)))) H1 := fun hn => by
    have e2 : (rem z j).takeWhile (fun c => decide (c ∈ tl y)) = [] := by
      cases hr : rem z j with
      | nil => rfl
      | cons c r =>
        rw [List.takeWhile_cons, if_neg]
        intro hc
        exact hn ⟨c, by rw [hr]; rfl, of_decide_eq_true hc⟩
    rw [e2, List.append_nil] at e
    refine ⟨Nat.le_trans hz big1, ?_⟩
    rw [cutS_mid h1 h2, ← e]
    have e3 : ((rem z i).takeWhile fun c => decide (c ∈ tl y)).length = j - i := by
      rw [e, List.length_take, rem_len]
      omega
    refine q H1 hb ?_
    rw [e3, show i + (j - i) = j by omega]
    exact hS1
  by_cases hj : j < z.length
  · rw [if_pos (by omega)]
    obtain ⟨c, hc⟩ := rem_cons hj
    refine ⟨Nat.le_trans hz big1, c, atI_nat (rem_at hc), ?_⟩
    by_cases hm : c ∈ y.cps.toList
    · rw [if_pos hm]
      refine ⟨fun σ' H' => σ' = [some (V.ref p), some (V.str y), some (V.int (i : Int))] ∧ SrcAt K H' p z (j + 1) ∧ But p H H', fun σ' H' h => ?_, (by show 2 < 1000; decide), rfl, ⟨⟨dy, ?_⟩, by omega, hz⟩, hb.trans But.upd1⟩
      · obtain ⟨rfl, hS2, hb2⟩ := h
        refine ⟨z.length - (j + 1), by omega, j + 1, by omega, by omega, rfl, hS2, hb2, ?_, rfl⟩
        rw [e, hc, List.takeWhile_cons, if_pos (show decide (c ∈ tl y) = true from decide_eq_true hm), ← take_more h1 hc, List.append_assoc]
        rfl
      · rw [upd_same, sf_put _ _ _ (by omega)]
        congr
    · rw [if_neg hm]
      exact done fun ⟨d, hd, hd2⟩ => hm (by rw [hc] at hd; cases hd; exact hd2)
  · rw [if_neg (by omega)]
    exact done fun ⟨d, hd, hd2⟩ => by
      rw [rem_nil (by omega)] at hd
      cases hd
def spNx (K : PySem.W.Frag) : Sp := fun vs H Q _ => ∃ p z i, vs = [.ref p] ∧ SrcAt K H p z i ∧ Q (.str (St ((rem z i).take 1))) H
theorem sc_Source_next_sign : FnScope ["self"] ["self"] (defScope s_Source_next_sign) := ⟨rfl, rfl, rfl, by decide +kernel, rfl, by decide +kernel, by decide +kernel⟩
theorem ok_Source_next_sign (T : Hd w K mg)  : Mt P w K mg base 1 (He.ga K "Source") "next_sign" (spNx K) := by
  obtain ⟨fd, F⟩ := T.fn_Source_next_sign
  refine mt_mk T.cl_Source T.me_Source_next_sign F (F.binds (ps := ["self"]) fun _ _ _ _ _ _ us hl => match us, hl with | [_], _ => rfl) sc_Source_next_sign (fun vs H Q E h => ?_) (fun cdv A outer s H vs Q E hr tk h => ?_)
  · obtain ⟨p, z, i, rfl, hS, q⟩ := h
    rfl
  obtain ⟨p, z, i, rfl, hS, q⟩ := h
  refine ⟨_, (pss_one (ps_ret (pe_slice sl_str (pe_fld (pv 0) rfl) (po_some (pe_fld (pv 0) rfl)) (po_some (pe_op op_add (pe_fld (pv 0) rfl) pe_int))))), ?_⟩
  obtain ⟨⟨dx, hp⟩, hi, hz⟩ := id hS
  walk_at "rd"
  simp only [hp]
  walk_at "rd"
  refine ⟨Nat.le_trans hz big1, ?_⟩
  rw [cutS_one hi]
  exact q
def spEnd (K : PySem.W.Frag) : Sp := fun vs H Q _ => ∃ p z i, vs = [.ref p] ∧ SrcAt K H p z i ∧ Q (.bl (decide (rem z i = []))) H
theorem sc_Source_at_end : FnScope ["self"] ["self"] (defScope s_Source_at_end) := ⟨rfl, rfl, rfl, by decide +kernel, rfl, by decide +kernel, by decide +kernel⟩
theorem ok_Source_at_end (T : Hd w K mg)  : Mt P w K mg base 1 (He.ga K "Source") "at_end" (spEnd K) := by
  obtain ⟨fd, F⟩ := T.fn_Source_at_end
  refine mt_mk T.cl_Source T.me_Source_at_end F (F.binds (ps := ["self"]) fun _ _ _ _ _ _ us hl => match us, hl with | [_], _ => rfl) sc_Source_at_end (fun vs H Q E h => ?_) (fun cdv A outer s H vs Q E hr tk h => ?_)
  · obtain ⟨p, z, i, rfl, hS, q⟩ := h
    rfl
  obtain ⟨p, z, i, rfl, hS, q⟩ := h
  refine ⟨_, (pss_one (ps_ret (pe_cmpR op_eq (pe_fld (pv 0) rfl) (pe_callB call_len (by rfl) T.f_len (by decide +kernel) (pa_cons (pe_fld (pv 0) rfl) pa_nil)) (nomark _)))), ?_⟩
  obtain ⟨⟨dx, hp⟩, hi, hz⟩ := id hS
  walk_at "rd"
  simp only [hp]
  walk_at "rd"
  refine ⟨Nat.le_trans hz big1, ?_⟩
  have e : decide ((i : Int) = (z.length : Int)) = decide (rem z i = []) := by
    rw [decide_eq_decide]
    have h := rem_len z i
    constructor
    · intro h2
      exact List.eq_nil_of_length_eq_zero (by omega)
    · intro h2
      rw [h2] at h
      simp at h
      omega
  rw [e]
  exact q
def spIsName : Sp := fun vs H Q _ => ∃ z, vs = [.str z] ∧ z.length ≤ 5000000 ∧ ∀ H', Same H H' → Q (.bl (isNameT (tl z))) H'
theorem sc_is_name : FnScope ["thing", "sign"] ["thing"] (defScope s_is_name) := ⟨rfl, rfl, rfl, by decide +kernel, rfl, by decide +kernel, by decide +kernel⟩
theorem ok_is_name (T : Hd w K mg)  : Dn P w K mg base 1 "is_name" (spIsName) := by
  obtain ⟨fd, F⟩ := T.fn_is_name
  refine dn_mk F T.g_is_name (F.binds (ps := ["thing"]) fun _ _ _ _ _ _ us hl => match us, hl with | [_], _ => rfl) sc_is_name (fun vs H Q E h => ?_) (fun cdv A outer s H vs Q E hr tk h => ?_)
  · obtain ⟨z, rfl, hz, q⟩ := h
    rfl
  obtain ⟨z, rfl, hz, q⟩ := h
  refine ⟨_, (pss_cons (ps_if (PW.pt (pw_or (pt_not (pt_val (pe_callB call_isS (by rfl) T.f_isinstance (by decide +kernel) (pa_cons (pv 0) (pa_cons (pe_bltn (v := .ty "str") (u := .type "str") (by rfl) T.f_str (by decide +kernel) rfl) pa_nil))))) (pw_or1 (pt_not (pt_chain op_le op_le pe_int (pe_callB call_len (by rfl) T.f_len (by decide +kernel) (pa_cons (pv 0) pa_nil)) (C8.pe_gc (by rfl) T.c_MOST_LETTERS)))))) (pss_one (ps_ret pe_bl)) pss_nil) (pss_one (ps_ret (pe_callB (cr_all rfl) (by rfl) T.f_all (by decide +kernel) (pa_cons (pe_lc (own := [("sign", 1)]) (by rfl) sc_is_name.nd (pi_seq (pv 0)) (blkOk_by (own := [("sign", 1)]) (N := ["thing", "sign"]) (sc := defScope s_is_name) (by decide +kernel)) (fun _ _ _ _ _ => (pg_name (i := 1) sc_is_name.nd rfl (Or.inl rfl))) (fun _ _ _ _ _ => pts_nil) (fun _ _ _ _ _ => (pe_cmpR op_in_sign (pv 1) (C8.pe_gc (by rfl) T.c_LETTERS) rfl))) pa_nil))))), ?_⟩
  walk_at "rd"
  refine ⟨Nat.le_trans hz big1, ?_⟩
  by_cases c1 : 1 ≤ (z.length : Int)
  · rw [if_pos c1]
    by_cases c2 : (z.length : Int) ≤ 8
    · rw [if_neg (by omega)]
      refine tLc_str z (fun c => .bl (isLet c)) (fun R h => ⟨_, rfl, h⟩) (Nat.le_trans hz big1) (fun j c H' Q' hc s h => ⟨rfl, ?_⟩) (fun D H' nD s h => ⟨_, rfl, _, SqL.of (by rw [← bl_map]; exact h), ?_⟩)
      · walk_at "rd"
        exact h H' (Same.refl _)
      · rw [all_id]
        have e : isNameT (tl z) = (tl z).all isLet := by
          unfold isNameT
          rw [decide_eq_true (by rw [tl_len]; omega), Bool.true_and]
        have q2 := q H' s
        rw [e] at q2
        exact q2
    · rw [if_pos (by omega)]
      have e : isNameT (tl z) = false := by
        unfold isNameT
        rw [decide_eq_false (by rw [tl_len]; omega), Bool.false_and]
      have q2 := q H (Same.refl _)
      rw [e] at q2
      exact q2
  · rw [if_neg c1]
    have e : isNameT (tl z) = false := by
      unfold isNameT
      rw [decide_eq_false (by rw [tl_len]; omega), Bool.false_and]
    have q2 := q H (Same.refl _)
    rw [e] at q2
    exact q2
def spIsWorth : Sp := fun vs H Q _ => ∃ z, vs = [.str z] ∧ z.length ≤ 5000000 ∧ ∀ H', Same H H' → Q (.bl (isWorthT (tl z))) H'
theorem sc_is_worth : FnScope ["thing", "sign"] ["thing"] (defScope s_is_worth) := ⟨rfl, rfl, rfl, by decide +kernel, rfl, by decide +kernel, by decide +kernel⟩
theorem ok_is_worth (T : Hd w K mg)  : Dn P w K mg base 1 "is_worth" (spIsWorth) := by
  obtain ⟨fd, F⟩ := T.fn_is_worth
  refine dn_mk F T.g_is_worth (F.binds (ps := ["thing"]) fun _ _ _ _ _ _ us hl => match us, hl with | [_], _ => rfl) sc_is_worth (fun vs H Q E h => ?_) (fun cdv A outer s H vs Q E hr tk h => ?_)
  · obtain ⟨z, rfl, hz, q⟩ := h
    rfl
  obtain ⟨z, rfl, hz, q⟩ := h
  refine ⟨_, (pss_one (ps_ret (pe_and (pe_callB call_isS (by rfl) T.f_isinstance (by decide +kernel) (pa_cons (pv 0) (pa_cons (pe_bltn (v := .ty "str") (u := .type "str") (by rfl) T.f_str (by decide +kernel) rfl) pa_nil))) (pe_one (pe_callB (cr_all rfl) (by rfl) T.f_all (by decide +kernel) (pa_cons (pe_lc (own := [("sign", 1)]) (by rfl) sc_is_worth.nd (pi_seq (pv 0)) (blkOk_by (own := [("sign", 1)]) (N := ["thing", "sign"]) (sc := defScope s_is_worth) (by decide +kernel)) (fun _ _ _ _ _ => (pg_name (i := 1) sc_is_worth.nd rfl (Or.inl rfl))) (fun _ _ _ _ _ => pts_nil) (fun _ _ _ _ _ => (pe_cmpR op_in_sign (pv 1) (C8.pe_gc (by rfl) T.c_SIGNS) rfl))) pa_nil)))))), ?_⟩
  walk_at "rd"
  refine tLc_str z (fun c => .bl (isSign c)) (fun R h => ⟨_, rfl, h⟩) (Nat.le_trans hz big1) (fun j c H' Q' hc s h => ⟨rfl, ?_⟩) (fun D H' nD s h => ⟨_, rfl, _, SqL.of (by rw [← bl_map]; exact h), ?_⟩)
  · walk_at "rd"
    exact h H' (Same.refl _)
  · rw [all_id]
    exact q H' s
end
end Sk

/-! ## C2 -/
namespace Sk
open PySem PySem.Spec PyProof.Rows L2
set_option hygiene false in
local macro_rules | `(tactic| walk_at "rd") => `(tactic| simp only [tVar, tC, tB, tAnd, tOr, tNot, tAndV, tOrV, tNotV, tIf, tNext, tSeq, tBreak, tCont, tDrop, tRet, tRetN, tIfS, tAsg, tAug, tOp, tUn, tTest, tChain, tFld, sFldAug, sFld, rAdd, tNil, tCons, tTup, tLst, tCB, tNoPart, tPart, tSl, tBM0, tBM, tYes, tM0, tM1, CwR.tReplC, tCallS, tMethS, tMakeS, gName, wipe, tyV, gTup, gCons, gNil,
  rI, rI0, rEq, rNe, scal, rPlus, rPlusI, rPlusS, rCat, rCatA, rIx, rIxL, rIxT, rIxS, rSl, rSlS, rSlL, rSlA, iPlus, iPlusI, iPlusS, ipI, rAll, rAny, LenV, WE, E0, rAppend,
  L2.start, List.map_cons, List.map_nil, List.length_cons, List.length_nil, Nat.zero_add, Nat.add_zero, Nat.reduceAdd, Nat.reduceSub, Nat.sub_self, List.replicate_zero, List.replicate_succ, List.append_nil, List.nil_append, List.cons_append, List.getElem?_cons_zero, List.getElem?_cons_succ, List.set_cons_zero, List.set_cons_succ, Option.some.injEq,
  V.int.injEq, V.str.injEq, V.bl.injEq, V.ref.injEq, V.ty.injEq, HO.ins.injEq, HO.lst.injEq, HO.tup.injEq, List.cons.injEq, reduceCtorEq, false_and, and_false, true_and, and_true, and_assoc, exists_const, exists_false, false_or, or_false, exists_eq_left', exists_eq_left, exists_eq_right, exists_eq_right', exists_and_left, ↓reduceIte, decide_eq_true_eq, Bool.not_eq_true', decide_eq_false_iff_not, if_true, if_false, cxOf, and_self, Bool.not_true, Bool.not_false, Bool.false_eq_true,
  sf_signs, sf_spot, sf_put, T.cl_Source, T.na_Source_signs, T.na_Source_spot, sg_inj, upd_same, rIsS, tyN, kb1, kb2, kb3, kb4, kb5, kb6, kb7, kb8, kb9, kb10, kb11, kb12, kb13, kb14, kb15, kb16, kb17, kb18, kb19, kb20, kb21, tDNewK, rPowW])
theorem replL_dbl : ∀ l : Tx, PySem.StrLaws.replL [34] [34, 34] l = dblQ l
  | [] => by rw [PySem.StrLaws.replL_nil]; rfl
  | c :: r => by
    by_cases h : c = 34
    · subst h
      rw [PySem.StrLaws.replL_hit (by simp) (by simp)]
      show 34 :: 34 :: PySem.StrLaws.replL [34] [34, 34] r = _
      rw [replL_dbl r]
      simp [dblQ]
    · rw [PySem.StrLaws.replL_miss (by simpa using h), replL_dbl r]
      simp [dblQ, h]
theorem st_eq {a b : Tx} : (St a = St b) = (a = b) := by rw [eq_iff_iff]; exact ⟨st_inj, fun h => by rw [h]⟩
theorem z_eq {z : Str} {b : Tx} : (z = St b) = (tl z = b) := by rw [eq_iff_iff]; exact ⟨fun h => by subst h; rfl, fun h => by rw [← st_tl z, h]⟩
theorem cutS_hd {z : Str} : cutS z none (some 1) = St ((tl z).take 1) := by
  have e := cutS_one (z := z) (i := 0) (Nat.zero_le _)
  have e2 : cutS z (some ((0 : Nat) : Int)) (some (((0 : Nat) : Int) + 1)) = cutS z none (some 1) := rfl
  rw [← e2, e]
  rfl
theorem cutS_tl {z : Str} : cutS z (some 1) none = St ((tl z).drop 1) := by
  unfold cutS
  have e1 : HT.sIx z.length 0 (some (1 : Int)) = min 1 z.length := HT.sIx_nat _ _ 1
  have e2 : HT.sIx z.length z.length none = z.length := rfl
  rw [e1, e2]
  show St _ = _
  congr 1
  cases h : tl z with
  | nil =>
    have : z.cps.toList = [] := h
    rw [this]
    simp
  | cons c r =>
    have h1 : z.length = r.length + 1 := by rw [← tl_len, h]; rfl
    have : z.cps.toList = c :: r := h
    rw [this, h1, show min 1 (r.length + 1) = 1 by omega]
    simp
theorem sc_dash : Str.ofString "-" = St [45] := by decide +kernel
theorem sc_zero : Str.ofString "0" = St [48] := by decide +kernel
theorem sc_emp : Str.ofString "" = St [] := by decide +kernel
theorem sc_q : Str.ofString "\"" = St [34] := by decide +kernel
theorem sc_qq : Str.ofString "\"\"" = St [34, 34] := by decide +kernel
theorem sg_st {c : Nat} : (⟨#[c]⟩ : Str) = St [c] := rfl
theorem dblQ_len : ∀ l : Tx, (dblQ l).length ≤ 2 * l.length
  | [] => Nat.le_refl _
  | c :: r => by
    have := dblQ_len r
    unfold dblQ
    split <;> simp <;> omega
theorem repl_q (z : Str) : Txt.replace z (St [34]) (St [34, 34]) = St (dblQ (tl z)) := by
  apply tl_inj
  show (Txt.replace z (St [34]) (St [34, 34])).cps.toList = _
  rw [PySem.StrLaws.replace_list (by decide)]
  exact replL_dbl (tl z)
section
variable {P : Program} {w : World} {K : PySem.W.Frag} {mg : Str → Option Value} {base : Heap}
/-- a while loop by a word -/
theorem while_w {c : TT} {tb : TS} {D : Ends} {σ : SS} {H : Hp} (W : Nat → SS → Hp → Prop) (m0 : Nat) (h0 : W m0 σ H) (hs : ∀ m σ H, W m σ H → c σ H fun b H1 => if b = true then ∃ N : SS → Hp → Prop, (∀ σ' H', N σ' H' → ∃ m', m' < m ∧ W m' σ' H') ∧ tb { D with nx := N, ct := N, bk := D.nx } σ H1 else D.nx σ H1) : tWhile c tb D σ H := ⟨W, ⟨m0, h0⟩, hs⟩
def spAhead : Sp := fun vs H Q _ => ∃ z y, vs = [.str z, .str y] ∧ z.length ≤ 5000000 ∧ Q (.int ((tl z).takeWhile fun c => decide (c ∈ tl y)).length) H
theorem sc_signs_ahead : FnScope ["worth", "some", "many"] ["worth", "some"] (defScope s_signs_ahead) := ⟨rfl, rfl, rfl, by decide +kernel, rfl, by decide +kernel, by decide +kernel⟩
theorem ok_signs_ahead (T : Hd w K mg)  : Dn P w K mg base 1 "signs_ahead" (spAhead) := by
  obtain ⟨fd, F⟩ := T.fn_signs_ahead
  refine dn_mk F T.g_signs_ahead (F.binds (ps := ["worth", "some"]) fun _ _ _ _ _ _ us hl => match us, hl with | [_, _], _ => rfl) sc_signs_ahead (fun vs H Q E h => ?_) (fun cdv A outer s H vs Q E hr tk h => ?_)
  · obtain ⟨z, y, rfl, hz, q⟩ := h
    rfl
  obtain ⟨z, y, rfl, hz, q⟩ := h
  refine ⟨_, (pss_cons (ps_set (i := 2) sc_signs_ahead.nd rfl (by first | exact Or.inl rfl | exact Or.inr rfl) pe_int) (pss_cons (ps_while (passes_of rfl) (PW.pt (pw_and (pt_cmpR op_lt (pv 2) (pe_callB call_len (by rfl) T.f_len (by decide +kernel) (pa_cons (pv 0) pa_nil)) (nomark _)) (pw_and1 (pt_cmpR op_in_sign (pe_ix ix_str (pv 0) (pv 2) (fun _ _ => rfl)) (pv 1) rfl)))) (pss_one (ps_aug (i := 2) sc_signs_ahead.nd rfl (by first | exact Or.inl rfl | exact Or.inr rfl) pe_int ip_plus))) (pss_one (ps_ret (pv 2))))), ?_⟩
  walk_at "rd"
  refine while_w (fun m σ H' => ∃ j, j ≤ z.length ∧ σ = [some (.str z), some (.str y), some (.int (j : Int))] ∧ H' = H ∧ (tl z).takeWhile (fun c => decide (c ∈ tl y)) = (tl z).take j ++ (rem z j).takeWhile (fun c => decide (c ∈ tl y)) ∧ m = z.length - j) z.length ⟨0, Nat.zero_le _, rfl, rfl, rfl, rfl⟩ ?_
  rintro m σ H1 ⟨j, h1, rfl, rfl, e, rfl⟩
  walk_at "rd"
  refine ⟨Nat.le_trans hz big1, ?_⟩
  have done : (rem z j).takeWhile (fun c => decide (c ∈ tl y)) = [] → Q (V.int (j : Int)) H1 := fun e2 => by
    rw [e, e2, List.append_nil, List.length_take, tl_len, Nat.min_eq_left h1] at q
    exact q
  by_cases hj : j < z.length
  · rw [if_pos (by omega)]
    obtain ⟨c, hc⟩ := rem_cons hj
    refine ⟨Nat.le_trans hz big1, c, atI_nat (rem_at hc), ?_⟩
    by_cases hm : c ∈ y.cps.toList
    · rw [if_pos hm]
      refine ⟨fun σ' H' => σ' = [some (.str z), some (.str y), some (.int ((j + 1 : Nat) : Int))] ∧ H' = H1, fun σ' H' h => ?_, rfl, rfl⟩
      obtain ⟨rfl, rfl⟩ := h
      refine ⟨z.length - (j + 1), by omega, j + 1, hj, rfl, rfl, ?_, rfl⟩
      have tm := take_more (z := z) (i := 0) (Nat.zero_le j) hc
      rw [e, hc, List.takeWhile_cons, if_pos (show decide (c ∈ tl y) = true from decide_eq_true hm)]
      rw [show j - 0 = j by omega, show j + 1 - 0 = j + 1 by omega] at tm
      have e0 : rem z 0 = tl z := rfl
      rw [e0] at tm
      rw [← tm, List.append_assoc]
      rfl
    · rw [if_neg hm]
      refine done ?_
      rw [hc, List.takeWhile_cons, if_neg]
      exact fun h => hm (of_decide_eq_true h)
  · rw [if_neg (by omega)]
    refine done ?_
    rw [rem_nil (by omega)]
    rfl
def spNumT : Sp := fun vs H Q _ => ∃ z, vs = [.str z] ∧ z.length ≤ 5000000 ∧ Q (.bl (isNumT (tl z))) H
/-- behind the sign ahead -/
theorem numT_of {z f : Str} (hf : tl f = figsOf (tl z)) (hz : f.length ≤ 5000000) {H : Hp} {Q : VK} {E : XK} (q : Q (V.bl (isNumT (tl z))) H) (R : VK)
    (hR : ∀ n : Int, R (.int n) H ↔ (f.length ≤ sizeLine ∧ if n < (f.length : Int) then Q (V.bl false) H else if z = Str.ofString "0" then Q (V.bl true) H else f.length ≤ sizeLine ∧ ∃ x, atI f.cps.toList 0 = some x ∧ Q (V.bl !decide ((⟨#[x]⟩ : Str) = Str.ofString "0")) H)) :
    if f = Str.ofString "" then Q (V.bl false) H else spAhead [V.str f, V.str (Str.ofString "0123456789")] H R E := by
  have hb := Nat.le_trans hz big1
  have es : (f = Str.ofString "") = (tl f = []) := by rw [sc_emp, z_eq]
  have ez : (z = Str.ofString "0") = (tl z = [48]) := by rw [sc_zero, z_eq]
  simp only [es]
  unfold isNumT at q
  rw [← hf] at q
  by_cases h0 : tl f = []
  · rw [if_pos h0]
    rw [if_pos (.inl h0)] at q
    exact q
  rw [if_neg h0]
  refine ⟨f, _, rfl, hz, ?_⟩
  rw [hR]
  refine ⟨hb, ?_⟩
  have ef : (fun c => decide (c ∈ tl (Str.ofString "0123456789"))) = isFig := rfl
  rw [ef, ← tl_len f]
  by_cases h1 : ((tl f).takeWhile isFig).length < (tl f).length
  · rw [if_pos (by omega)]
    rw [if_pos (.inr h1)] at q
    exact q
  rw [if_neg (by omega)]
  rw [if_neg (by rintro (h | h) <;> contradiction)] at q
  simp only [ez]
  by_cases h2 : tl z = [48]
  · rw [if_pos h2]
    rw [decide_eq_true h2, Bool.true_or] at q
    exact q
  rw [if_neg h2]
  rw [decide_eq_false h2, Bool.false_or] at q
  refine ⟨by rw [tl_len]; exact hb, ?_⟩
  cases hc : tl f with
  | nil => exact absurd hc h0
  | cons c r =>
    have ea : atI f.cps.toList 0 = some c := atI_nat (j := 0) (by show (tl f)[0]? = some c; rw [hc]; rfl)
    refine ⟨c, ea, ?_⟩
    rw [hc] at q
    have e : (!decide ((⟨#[c]⟩ : Str) = Str.ofString "0")) = decide (List.take 1 (c :: r) ≠ [48]) := by
      rw [sc_zero, sg_st, ← decide_not, decide_eq_decide, st_eq]
      rfl
    rw [e]
    exact q
theorem sc_is_number_text : FnScope ["worth", "figures"] ["worth"] (defScope s_is_number_text) := ⟨rfl, rfl, rfl, by decide +kernel, rfl, by decide +kernel, by decide +kernel⟩
theorem ok_is_number_text (T : Hd w K mg) (D_signs_ahead : Dn P w K mg base 1 "signs_ahead" spAhead) : Dn P w K mg base 2 "is_number_text" (spNumT) := by
  obtain ⟨fd, F⟩ := T.fn_is_number_text
  refine dn_mk F T.g_is_number_text (F.binds (ps := ["worth"]) fun _ _ _ _ _ _ us hl => match us, hl with | [_], _ => rfl) sc_is_number_text (fun vs H Q E h => ?_) (fun cdv A outer s H vs Q E hr tk h => ?_)
  · obtain ⟨z, rfl, hz, q⟩ := h
    rfl
  obtain ⟨z, rfl, hz, q⟩ := h
  refine ⟨_, (pss_cons (ps_set (i := 1) sc_is_number_text.nd rfl (by first | exact Or.inl rfl | exact Or.inr rfl) (pe_ifExp (pt_cmpR op_eq (pe_slice sl_str (pv 0) po_none (po_some pe_int)) pe_str (nomark _)) (pe_slice sl_str (pv 0) (po_some pe_int) po_none) (pv 0))) (pss_cons (ps_if (PW.pt (pw_or (pt_cmpR op_eq (pv 1) pe_str (nomark _)) (pw_or1 (pt_cmpR op_lt (pe_d D_signs_ahead hr (by first | decide | omega) (fun σ => L2N.passAt tk σ) (by rfl) (pa_cons (pv 1) (pa_cons (C8.pe_gc (by rfl) T.c_FIGURES) pa_nil))) (pe_callB call_len (by rfl) T.f_len (by decide +kernel) (pa_cons (pv 1) pa_nil)) (nomark _))))) (pss_one (ps_ret pe_bl)) pss_nil) (pss_one (ps_ret (pe_or (pe_cmpR op_eq (pv 0) pe_str (nomark _)) (pe_one (pe_cmpR op_ne (pe_ix ix_str (pv 1) pe_int (fun _ _ => rfl)) pe_str (nomark _)))))))), ?_⟩
  walk_at "rd"
  refine ⟨Nat.le_trans hz big1, ?_⟩
  simp only [cutS_hd, sc_dash, st_eq]
  by_cases h : (tl z).take 1 = [45]
  · rw [if_pos h]
    refine ⟨Nat.le_trans hz big1, ?_⟩
    have hl : (cutS z (some 1) none).length ≤ z.length := cutS_length _ _ _
    refine numT_of (z := z) ?_ (Nat.le_trans hl hz) q _ (fun n => ?_)
    · rw [cutS_tl]
      show (tl z).drop 1 = figsOf (tl z)
      unfold figsOf
      rw [if_pos h]
    · walk_at "rd"
  · rw [if_neg h]
    refine numT_of (z := z) ?_ hz q _ (fun n => ?_)
    · unfold figsOf
      rw [if_neg h]
    · walk_at "rd"
def spQuoted : Sp := fun vs H Q _ => ∃ z, vs = [.str z] ∧ z.length ≤ 5000000 ∧ Q (.str (St (quotedW (tl z)))) H
theorem sc_quoted : FnScope ["worth"] ["worth"] (defScope s_quoted) := ⟨rfl, rfl, rfl, by decide +kernel, rfl, by decide +kernel, by decide +kernel⟩
theorem ok_quoted (T : Hd w K mg)  : Dn P w K mg base 1 "quoted" (spQuoted) := by
  obtain ⟨fd, F⟩ := T.fn_quoted
  refine dn_mk F T.g_quoted (F.binds (ps := ["worth"]) fun _ _ _ _ _ _ us hl => match us, hl with | [_], _ => rfl) sc_quoted (fun vs H Q E h => ?_) (fun cdv A outer s H vs Q E hr tk h => ?_)
  · obtain ⟨z, rfl, hz, q⟩ := h
    rfl
  obtain ⟨z, rfl, hz, q⟩ := h
  refine ⟨_, (pss_one (ps_ret (pe_op op_plus (pe_strT op_plus (CwR.pet_replC (pv 0))) pe_str))), ?_⟩
  walk_at "rd"
  rw [sc_q, sc_qq, repl_q, st_app, st_app]
  have h1 := dblQ_len (tl z)
  rw [tl_len] at h1
  have hs := sizeLine_eq
  have e1 : (St [34, 34]).length = 2 := rfl
  have e2 : (St [34]).length = 1 := rfl
  refine ⟨by rw [e1]; omega, by rw [e2, ← tl_len, tl_st]; omega, ?_, ?_⟩
  · rw [e2, ← tl_len, tl_st, List.length_append]
    simp
    omega
  · exact q
def spShownW : Sp := fun vs H Q _ => ∃ z, vs = [.str z] ∧ z.length ≤ 5000000 ∧ Q (.str (St (shownW (tl z)))) H
theorem sc_shown_worth : FnScope ["worth"] ["worth"] (defScope s_shown_worth) := ⟨rfl, rfl, rfl, by decide +kernel, rfl, by decide +kernel, by decide +kernel⟩
theorem ok_shown_worth (T : Hd w K mg) (D_is_number_text : Dn P w K mg base 2 "is_number_text" spNumT) (D_quoted : Dn P w K mg base 1 "quoted" spQuoted) : Dn P w K mg base 3 "shown_worth" (spShownW) := by
  obtain ⟨fd, F⟩ := T.fn_shown_worth
  refine dn_mk F T.g_shown_worth (F.binds (ps := ["worth"]) fun _ _ _ _ _ _ us hl => match us, hl with | [_], _ => rfl) sc_shown_worth (fun vs H Q E h => ?_) (fun cdv A outer s H vs Q E hr tk h => ?_)
  · obtain ⟨z, rfl, hz, q⟩ := h
    rfl
  obtain ⟨z, rfl, hz, q⟩ := h
  refine ⟨_, (pss_cons (ps_if (PW.pt (pw_and (pt_val (pe_d D_is_number_text hr (by first | decide | omega) (fun σ => L2N.passAt tk σ) (by rfl) (pa_cons (pv 0) pa_nil))) (pw_and1 (pt_cmpR op_ne (pe_ix ix_seq (pv 0) pe_int (fun _ _ => rfl)) pe_str (nomark _))))) (pss_one (ps_ret (pv 0))) pss_nil) (pss_one (ps_ret (pe_d D_quoted hr (by first | decide | omega) (fun σ => L2N.passAt tk σ) (by rfl) (pa_cons (pv 0) pa_nil))))), ?_⟩
  walk_at "rd"
  refine ⟨z, rfl, hz, _, rfl, ?_⟩
  unfold shownW at q
  cases h : isNumT (tl z) with
  | false =>
    rw [h, Bool.false_and] at q
    exact iteF ⟨z, rfl, hz, q⟩
  | true =>
    rw [h, Bool.true_and] at q
    refine iteT ⟨Nat.le_trans hz big1, ?_⟩
    cases hc : tl z with
    | nil =>
      exfalso
      rw [hc] at h
      revert h
      decide +kernel
    | cons c r =>
      refine ⟨c, atI_nat (j := 0) (by show (tl z)[0]? = some c; rw [hc]; rfl), ?_⟩
      simp only [sc_dash, sg_st, st_eq]
      by_cases h2 : c = 45
      · subst h2
        rw [if_neg (by simp)]
        rw [hc, if_neg (by simp), ← hc] at q
        exact ⟨z, rfl, hz, q⟩
      · rw [if_pos (by simpa using h2)]
        rw [hc, if_pos (by simpa using h2), ← hc] at q
        exact q
end
end Sk

/-! ## C3 -/
namespace Sk
open PySem PySem.Spec PyProof.Rows L2
set_option hygiene false in
local macro_rules | `(tactic| walk_at "rd") => `(tactic| simp only [tVar, tC, tB, tAnd, tOr, tNot, tAndV, tOrV, tNotV, tIf, tNext, tSeq, tBreak, tCont, tDrop, tRet, tRetN, tIfS, tAsg, tAug, tOp, tUn, tTest, tChain, tFld, sFldAug, sFld, rAdd, tNil, tCons, tTup, tLst, tCB, tNoPart, tPart, tSl, tBM0, tBM, tYes, tM0, tM1, CwR.tReplC, tCallS, tMethS, tMakeS, gName, wipe, tyV, gTup, gCons, gNil,
  rI, rI0, rEq, rNe, scal, rPlus, rPlusI, rPlusS, rCat, rCatA, rIx, rIxL, rIxT, rIxS, rSl, rSlS, rSlL, rSlA, iPlus, iPlusI, iPlusS, ipI, rAll, rAny, LenV, WE, E0, rAppend,
  L2.start, List.map_cons, List.map_nil, List.length_cons, List.length_nil, Nat.zero_add, Nat.add_zero, Nat.reduceAdd, Nat.reduceSub, Nat.sub_self, List.replicate_zero, List.replicate_succ, List.append_nil, List.nil_append, List.cons_append, List.getElem?_cons_zero, List.getElem?_cons_succ, List.set_cons_zero, List.set_cons_succ, Option.some.injEq,
  V.int.injEq, V.str.injEq, V.bl.injEq, V.ref.injEq, V.ty.injEq, HO.ins.injEq, HO.lst.injEq, HO.tup.injEq, List.cons.injEq, reduceCtorEq, false_and, and_false, true_and, and_true, and_assoc, exists_const, exists_false, false_or, or_false, exists_eq_left', exists_eq_left, exists_eq_right, exists_eq_right', exists_and_left, ↓reduceIte, decide_eq_true_eq, Bool.not_eq_true', decide_eq_false_iff_not, if_true, if_false, cxOf, and_self, Bool.not_true, Bool.not_false, Bool.false_eq_true,
  sf_signs, sf_spot, sf_put, T.cl_Source, T.na_Source_signs, T.na_Source_spot, sg_inj, upd_same, rIsS, tyN, kb1, kb2, kb3, kb4, kb5, kb6, kb7, kb8, kb9, kb10, kb11, kb12, kb13, kb14, kb15, kb16, kb17, kb18, kb19, kb20, kb21, tDNewK, rPowW])
theorem getD_rem {z : Str} {v : Nat} (h : v < z.length) : rem z v = z.cps.getD v 0 :: rem z (v + 1) := by
  obtain ⟨c, hc⟩ := rem_cons h
  have e := PySem.StrLaws.getD_of_getElem? (x := z) (rem_at hc)
  rw [e, hc]
theorem find3q {z : Str} {j : Nat} (hj : j ≤ z.length) : (Txt.find3 z (St [34]) (j : Int) = -1 ∧ 34 ∉ rem z j) ∨
    ∃ k : Nat, Txt.find3 z (St [34]) (j : Int) = (k : Int) ∧ j ≤ k ∧ k < z.length ∧ rem z j = (rem z j).take (k - j) ++ 34 :: rem z (k + 1) ∧ 34 ∉ (rem z j).take (k - j) := by
  rcases PySem.StrLaws.find3_spec z 34 (j : Int) with ⟨h1, h2⟩ | ⟨k, h1, h2, h3, h4, h5⟩
  · refine .inl ⟨h1, fun hm => ?_⟩
    obtain ⟨n, hn, e⟩ := List.mem_iff_getElem.mp hm
    rw [rem_len] at hn
    rw [fromIndex_nat hj] at h2
    refine h2 (j + n) (by omega) (by omega) ?_
    have e2 : (rem z j)[n]? = some 34 := by rw [List.getElem?_eq_getElem (by rw [rem_len]; exact hn), e]
    rw [rem, List.getElem?_drop] at e2
    exact PySem.StrLaws.getD_of_getElem? e2
  · rw [fromIndex_nat hj] at h2 h5
    refine .inr ⟨k, h1, h2, h3, ?_, fun hm => ?_⟩
    · have e1 : (rem z j).drop (k - j) = rem z k := by rw [rem, rem, List.drop_drop]; congr 1; omega
      have e2 := List.take_append_drop (k - j) (rem z j)
      rw [e1, getD_rem h3, h4] at e2
      exact e2.symm
    · obtain ⟨n, hn, e⟩ := List.mem_iff_getElem.mp hm
      rw [List.length_take, rem_len] at hn
      refine h5 (j + n) (by omega) (by omega) ?_
      rw [List.getElem_take] at e
      have e2 : (rem z j)[n]? = some 34 := by rw [List.getElem?_eq_getElem (by rw [rem_len]; omega), e]
      rw [rem, List.getElem?_drop] at e2
      exact PySem.StrLaws.getD_of_getElem? e2
theorem qBody_none : ∀ {l : Tx}, 34 ∉ l → qBody l = none
  | [], _ => by rw [qBody]
  | c :: r, h => by
    have h1 : c ≠ 34 := fun e => h (by rw [e]; exact List.mem_cons_self)
    rw [qBody.eq_def]
    simp only
    rw [if_neg h1, qBody_none fun m => h (List.mem_cons_of_mem _ m)]
    rfl
theorem qBody_app : ∀ {a : Tx} (l : Tx), 34 ∉ a → qBody (a ++ l) = (qBody l).map fun p => (a ++ p.1, p.2)
  | [], l, _ => by simp
  | c :: r, l, h => by
    have h1 : c ≠ 34 := fun e => h (by rw [e]; exact List.mem_cons_self)
    rw [List.cons_append, qBody.eq_def]
    simp only
    rw [if_neg h1, qBody_app l fun m => h (List.mem_cons_of_mem _ m), Option.map_map]
    rfl
theorem qBody_q (l : Tx) : qBody (34 :: l) = if l.take 1 = [34] then (qBody (l.drop 1)).map fun p => (34 :: p.1, p.2) else some ([], l) := by
  rw [qBody.eq_def]
  simp only [if_true]
  cases l with
  | nil => rfl
  | cons c r =>
    by_cases h : c = 34
    · subst h
      simp
    · simp [h]
theorem pre_q (l : Tx) : (tl (St [34])).isPrefixOf l = decide (l.take 1 = [34]) := by
  rw [tl_st]
  cases l with
  | nil => rfl
  | cons c r =>
    simp [List.isPrefixOf]
    by_cases h : c = 34
    · subst h
      rfl
    · have : (34 == c) = false := by simpa using fun e => h e.symm
      simp [this, h]
section
variable {P : Program} {w : World} {K : PySem.W.Frag} {mg : Str → Option Value} {base : Heap}
def PQ (K : PySem.W.Frag) {α : Type} (R : Rd1 α) (rep : Hp → V → α → Prop) (p : Addr) (z : Str) (i : Nat) (H : Hp) (Q : VK) (E : XK) : Prop :=
  (∀ a r, R (rem z i) = some (a, r) → ∀ H' v j, But p H H' → SrcAt K H' p z j → i ≤ j → rem z j = r → rep H' v a → Q v H') ∧ (R (rem z i) = none → ∀ H', But p H H' → E (exNT K) none H')
def repT : Hp → V → Tx → Prop := fun _ v a => v = .str (St a)
def spName (K : PySem.W.Frag) : Sp := fun vs H Q E => ∃ p z i, vs = [.ref p] ∧ SrcAt K H p z i ∧ PQ K nameR repT p z i H Q E
theorem rem_drop {z : Str} {i n : Nat} : rem z (i + n) = (rem z i).drop n := by rw [rem, rem, List.drop_drop]
theorem drop_takeW (f : Nat → Bool) : ∀ l : Tx, l.drop (l.takeWhile f).length = l.dropWhile f
  | [] => rfl
  | c :: r => by
    rw [List.takeWhile_cons, List.dropWhile_cons]
    split
    · simp [drop_takeW f r]
    · rfl
theorem sc_name_read : FnScope ["source", "name"] ["source"] (defScope s_name_read) := ⟨rfl, rfl, rfl, by decide +kernel, rfl, by decide +kernel, by decide +kernel⟩
theorem ok_name_read (T : Hd w K mg) (M_Source_run_of : Mt P w K mg base 1 (He.ga K "Source") "run_of" (spRun K)) (D_is_name : Dn P w K mg base 1 "is_name" spIsName) : Dn P w K mg base 3 "name_read" (spName K) := by
  obtain ⟨fd, F⟩ := T.fn_name_read
  refine dn_mk F T.g_name_read (F.binds (ps := ["source"]) fun _ _ _ _ _ _ us hl => match us, hl with | [_], _ => rfl) sc_name_read (fun vs H Q E h => ?_) (fun cdv A outer s H vs Q E hr tk h => ?_)
  · obtain ⟨p, z, i, rfl, hS, q1, q2⟩ := h
    rfl
  obtain ⟨p, z, i, rfl, hS, q1, q2⟩ := h
  refine ⟨_, (pss_cons (ps_set (i := 1) sc_name_read.nd rfl (by first | exact Or.inl rfl | exact Or.inr rfl) (pe_m (pv 0) M_Source_run_of hr (by first | decide | omega) (fun σ => L2N.passAt tk σ) (pa_cons (C8.pe_gc (by rfl) T.c_LETTERS) pa_nil))) (pss_cons (ps_if (pt_not (pt_val (pe_d D_is_name hr (by first | decide | omega) (fun σ => L2N.passAt tk σ) (by rfl) (pa_cons (pv 1) pa_nil)))) (pss_one (L2N.ps_raise rfl tk (L2N.pmk_own PySem.F.excBase_ValueError T.x_NoText T.g_NoText T.k_NoText (raises_own T.b_NoText T.t_NoText) rfl))) pss_nil) (pss_one (ps_ret (pv 1))))), ?_⟩
  obtain ⟨⟨dx, hp⟩, hi, hz⟩ := id hS
  walk_at "rd"
  simp only [hp]
  walk_at "rd"
  have hl : ((rem z i).takeWhile isLet).length ≤ z.length := Nat.le_trans ((List.takeWhile_sublist _).length_le) (by rw [rem_len]; omega)
  refine ⟨sf_no (by decide +kernel) (by decide +kernel), p, z, i, _, rfl, hS, fun H1 hb hS1 => ?_⟩
  have e1 : (fun c => decide (c ∈ tl (Str.ofString "abcdefghijklmnopqrstuvwxyz"))) = isLet := rfl
  rw [e1] at hS1 ⊢
  walk_at "rd"
  refine ⟨_, rfl, ?_, fun H2 s2 => ?_⟩
  · rw [← tl_len, tl_st]
    omega
  rw [tl_st]
  unfold nameR at q1 q2
  walk_at "rd"
  have hb2 := hb.trans (But.of s2)
  cases h : isNameT ((rem z i).takeWhile isLet) with
  | true =>
    rw [if_neg (by decide)]
    rw [if_pos h] at q1
    refine q1 _ _ rfl H2 _ _ hb2 ?_ (Nat.le_add_right _ ((rem z i).takeWhile isLet).length) ?_ rfl
    · obtain ⟨⟨dy, hp2⟩, h3, h4⟩ := hS1
      exact ⟨⟨dy, s2 _ _ hp2⟩, h3, h4⟩
    · rw [rem_drop, drop_takeW]
  | false =>
    rw [if_pos rfl]
    rw [if_neg (by rw [h]; decide)] at q2
    exact q2 rfl H2 hb2
/-- the word of the loop that reads a worth: how far, what is found, whether more comes -/
def QI (K : PySem.W.Frag) (p : Addr) (z : Str) (i : Nat) (H : Hp) (j : Nat) (acc : Tx) (b : Bool) (σ' : SS) (H' : Hp) : Prop :=
  (∃ v, σ' = [some (.ref p), some (.str (St acc)), some (.bl b), v]) ∧ SrcAt K H' p z j ∧ i ≤ j ∧ But p H H' ∧ acc.length + i ≤ j ∧
    (b = true → qBody (rem z (i + 1)) = (qBody (rem z j)).map fun q => (acc ++ q.1, q.2)) ∧ (b = false → qBody (rem z (i + 1)) = some (acc, rem z j))
def QN (K : PySem.W.Frag) (p : Addr) (z : Str) (i : Nat) (H : Hp) (lo : Nat) (σ' : SS) (H' : Hp) : Prop := ∃ (j : Nat) (acc : Tx) (b : Bool), lo < j ∧ QI K p z i H j acc b σ' H'
def QW (K : PySem.W.Frag) (p : Addr) (z : Str) (i : Nat) (H : Hp) (m : Nat) (σ' : SS) (H' : Hp) : Prop := ∃ (j : Nat) (acc : Tx) (b : Bool), QI K p z i H j acc b σ' H' ∧ m = (z.length - j) + (if b = true then 1 else 0)
def spQuR (K : PySem.W.Frag) : Sp := fun vs H Q E => ∃ p z i, vs = [.ref p] ∧ SrcAt K H p z i ∧ PQ K quotedR repT p z i H Q E
theorem sc_quoted_read : FnScope ["source", "found", "more", "end"] ["source"] (defScope s_quoted_read) := ⟨rfl, rfl, rfl, by decide +kernel, rfl, by decide +kernel, by decide +kernel⟩
theorem ok_quoted_read (T : Hd w K mg) (M_Source_goes_past : Mt P w K mg base 3 (He.ga K "Source") "goes_past" (spGo K)) (M_Source_skips : Mt P w K mg base 2 (He.ga K "Source") "skips" (spSk K)) (D_is_worth : Dn P w K mg base 1 "is_worth" spIsWorth) : Dn P w K mg base 4 "quoted_read" (spQuR K) := by
  obtain ⟨fd, F⟩ := T.fn_quoted_read
  refine dn_mk F T.g_quoted_read (F.binds (ps := ["source"]) fun _ _ _ _ _ _ us hl => match us, hl with | [_], _ => rfl) sc_quoted_read (fun vs H Q E h => ?_) (fun cdv A outer s H vs Q E hr tk h => ?_)
  · obtain ⟨p, z, i, rfl, hS, q1, q2⟩ := h
    rfl
  obtain ⟨p, z, i, rfl, hS, q1, q2⟩ := h
  refine ⟨_, (pss_cons (ps_expr (pe_m (pv 0) M_Source_goes_past hr (by first | decide | omega) (fun σ => L2N.passAt tk σ) (pa_cons pe_str pa_nil))) (pss_cons (ps_set (i := 1) sc_quoted_read.nd rfl (by first | exact Or.inl rfl | exact Or.inr rfl) pe_str) (pss_cons (ps_set (i := 2) sc_quoted_read.nd rfl (by first | exact Or.inl rfl | exact Or.inr rfl) pe_bl) (pss_cons (ps_while (passes_of rfl) (pt_val (pv 2)) (pss_cons (ps_set (i := 3) sc_quoted_read.nd rfl (by first | exact Or.inl rfl | exact Or.inr rfl) (pe_bm PySem.F.plainAttrs_str PySem.F.slot_str_find PySem.F.type_str_find mt_find3 (pe_fld (pv 0) rfl) (pa_cons pe_str (pa_cons (pe_fld (pv 0) rfl) pa_nil)))) (pss_cons (ps_if (pt_cmpR op_lt (pv 3) pe_int (nomark _)) (pss_one (L2N.ps_raise rfl tk (L2N.pmk_own PySem.F.excBase_ValueError T.x_NoText T.g_NoText T.k_NoText (raises_own T.b_NoText T.t_NoText) rfl))) pss_nil) (pss_cons (ps_aug (i := 1) sc_quoted_read.nd rfl (by first | exact Or.inl rfl | exact Or.inr rfl) (pe_slice sl_str (pe_fld (pv 0) rfl) (po_some (pe_fld (pv 0) rfl)) (po_some (pv 3))) ip_plusS1) (pss_cons (ps_fld (pv 0) (pe_op op_add (pv 3) pe_int) rfl) (pss_cons (ps_set (i := 2) sc_quoted_read.nd rfl (by first | exact Or.inl rfl | exact Or.inr rfl) (pe_m (pv 0) M_Source_skips hr (by first | decide | omega) (fun σ => L2N.passAt tk σ) (pa_cons pe_str pa_nil))) (pss_one (ps_aug (i := 1) sc_quoted_read.nd rfl (by first | exact Or.inl rfl | exact Or.inr rfl) (pe_ifExp (pt_val (pv 2)) pe_str pe_str) ip_plusS1)))))))) (pss_cons (ps_if (pt_not (pt_val (pe_d D_is_worth hr (by first | decide | omega) (fun σ => L2N.passAt tk σ) (by rfl) (pa_cons (pv 1) pa_nil)))) (pss_one (L2N.ps_raise rfl tk (L2N.pmk_own PySem.F.excBase_ValueError T.x_NoText T.g_NoText T.k_NoText (raises_own T.b_NoText T.t_NoText) rfl))) pss_nil) (pss_one (ps_ret (pv 1)))))))), ?_⟩
  obtain ⟨⟨dx, hp⟩, hi, hz⟩ := id hS
  walk_at "rd"
  simp only [hp]
  walk_at "rd"
  refine ⟨sf_no (by decide +kernel) (by decide +kernel), p, z, i, _, rfl, hS, fun c => ?_, fun c H1 hb hS1 => ?_⟩
  · rw [sc_q, pre_q] at c
    have c := of_decide_eq_false c
    walk_at "rd"
    refine q2 ?_ H But.refl
    unfold quotedR
    cases hr : rem z i with
    | nil => rfl
    | cons d r =>
      rw [hr] at c
      simp only
      rw [if_neg (by simpa using c)]
  rw [sc_q, pre_q] at c
  have c := of_decide_eq_true c
  have e0 : (Str.ofString "\"").length = 1 := by decide +kernel
  rw [e0] at hS1
  have hr : rem z i = 34 :: rem z (i + 1) := by
    cases hr : rem z i with
    | nil => rw [hr] at c; cases c
    | cons d r =>
      rw [hr] at c
      have h3 : d = 34 := by simpa using c
      have h4 : rem z (i + 1) = r := by rw [rem_drop, hr]; rfl
      rw [h3, h4]
  have hq : quotedR (rem z i) = (match qBody (rem z (i + 1)) with
    | some p => if isWorthT p.1 then some p else none
    | none => none) := by rw [hr]; rfl
  refine while_w (QW K p z i H) _ ⟨i + 1, [], true, ⟨⟨none, rfl⟩, hS1, by omega, hb, by simp, fun _ => by simp, fun h => (by cases h)⟩, rfl⟩ ?_
  rintro m σ H2 ⟨j, acc, b, ⟨⟨v, rfl⟩, hS2, hij, hb2, hl, k1, k2⟩, rfl⟩
  walk_at "rd"
  cases b with
  | false =>
    rw [if_neg (by decide)]
    have k3 := k2 rfl
    rw [k3] at hq
    have hj := hS2.2.1
    refine ⟨_, rfl, by rw [← tl_len, tl_st]; omega, fun H3 s3 => ?_⟩
    rw [tl_st]
    walk_at "rd"
    have hb3 := hb2.trans (But.of s3)
    cases h : isWorthT acc with
    | true =>
      rw [if_neg (by decide)]
      simp only [h, if_true] at hq
      refine q1 _ _ hq H3 _ j hb3 ?_ hij rfl rfl
      obtain ⟨⟨dy, hp2⟩, h3, h4⟩ := hS2
      exact ⟨⟨dy, s3 _ _ hp2⟩, h3, h4⟩
    | false =>
      rw [if_pos rfl]
      simp only [h] at hq
      exact q2 hq H3 hb3
  | true =>
    rw [if_pos rfl]
    have k3 := k1 rfl
    obtain ⟨⟨dy, hp2⟩, hj, _⟩ := id hS2
    simp only [hp2]
    walk_at "rd"
    refine ⟨QN K p z i H j, fun σ' H' h => ?_, ?_⟩
    · obtain ⟨j', acc', b', hjj, hq'⟩ := h
      have := hq'.2.1.2.1
      exact ⟨_, by split <;> omega, j', acc', b', hq', rfl⟩
    rw [sc_q]
    rcases find3q hj with ⟨f1, f2⟩ | ⟨k, f1, f2, f3, f4, f5⟩
    · rw [f1, if_pos (by decide)]
      rw [qBody_none f2] at k3
      rw [k3] at hq
      exact q2 hq H2 hb2
    · rw [f1, if_neg (by omega)]
      have ek : qBody (rem z j) = _ := congrArg qBody f4
      rw [qBody_app _ f5, qBody_q] at ek
      have hlk : ((rem z j).take (k - j)).length = k - j := by rw [List.length_take, rem_len]; omega
      refine ⟨Nat.le_trans hz big1, ?_, by show 2 < 1000; decide, ?_⟩
      · rw [cutS_mid f2 (by omega), ← tl_len, ← tl_len, tl_st, tl_st, hlk, sizeLine_eq]
        omega
      rw [sf_put _ _ _ (by omega), cutS_mid f2 (by omega), st_app]
      have hS3 : SrcAt K (upd H2 p (.ins (He.ga K "Source") dy (sflds z (k + 1)))) p z (k + 1) := ⟨⟨dy, upd_same⟩, by omega, hz⟩
      have ekk : ((k : Int) + 1).toNat = k + 1 := by omega
      rw [ekk]
      have hb3 := hb2.trans (But.upd1 (o := .ins (He.ga K "Source") dy (sflds z (k + 1))))
      refine ⟨sf_no (by decide +kernel) (by decide +kernel), p, z, k + 1, _, rfl, hS3, fun c => ?_, fun c H3 hb4 hS4 => ?_⟩
      · rw [pre_q] at c
        have c := of_decide_eq_false c
        rw [if_neg c] at ek
        walk_at "rd"
        refine ⟨?_, k + 1, acc ++ (rem z j).take (k - j), false, by omega, ⟨some (.int (k : Int)), ?_⟩, hS3, by omega, hb3, ?_, fun h => (by cases h), fun _ => ?_⟩
        · rw [← tl_len, tl_st, List.length_append, hlk, sc_emp, ← tl_len, tl_st, sizeLine_eq]
          simp
          omega
        · rw [sc_emp, st_app, List.append_nil]
        · simp [hlk]
          omega
        · rw [k3, ek]
          simp
      · rw [pre_q] at c
        have c := of_decide_eq_true c
        rw [if_pos c] at ek
        have ed : (rem z (k + 1)).drop 1 = rem z (k + 2) := by rw [← rem_drop]
        rw [ed] at ek
        have hS4' : SrcAt K H3 p z (k + 2) := hS4
        walk_at "rd"
        refine ⟨?_, k + 2, (acc ++ (rem z j).take (k - j)) ++ [34], true, by omega, ⟨some (.int (k : Int)), ?_⟩, hS4', by omega, hb3.trans hb4, ?_, fun _ => ?_, fun h => (by cases h)⟩
        · rw [← tl_len, tl_st, List.length_append, hlk, ← tl_len, tl_st, sizeLine_eq]
          simp
          omega
        · rw [st_app]
        · simp [hlk]
          omega
        · rw [k3, ek]
          cases qBody (rem z (k + 2)) with
          | none => rfl
          | some q => simp
def spWoR (K : PySem.W.Frag) : Sp := fun vs H Q E => ∃ p z i, vs = [.ref p] ∧ SrcAt K H p z i ∧ PQ K worthR repT p z i H Q E
theorem takeW_le {z : Str} {i : Nat} (f : Nat → Bool) : ((rem z i).takeWhile f).length ≤ z.length := Nat.le_trans (List.takeWhile_sublist _).length_le (by rw [rem_len]; omega)
theorem qBody_len : ∀ (n : Nat) (l : Tx) (a r : Tx), l.length ≤ n → qBody l = some (a, r) → a.length + r.length ≤ l.length
  | 0, [], a, r, _, h => by rw [qBody] at h; cases h
  | n + 1, [], a, r, _, h => by rw [qBody] at h; cases h
  | 0, c :: l, a, r, hn, h => by simp at hn
  | n + 1, c :: l, a, r, hn, h => by
    have hn' : l.length ≤ n := by simpa using hn
    by_cases hc : c = 34
    · subst hc
      rw [qBody_q] at h
      split at h
      · cases hq : qBody (l.drop 1) with
        | none => rw [hq] at h; cases h
        | some q =>
          rw [hq] at h
          injection h with h
          injection h with h1 h2
          subst h1 h2
          have := qBody_len n (l.drop 1) q.1 q.2 (by simp; omega) hq
          simp at this ⊢
          rename_i hl
          cases l with
          | nil => cases hl
          | cons d l => simp at this ⊢; omega
      · injection h with h
        injection h with h1 h2
        subst h1 h2
        simp
    · rw [qBody.eq_def] at h
      simp only at h
      rw [if_neg hc] at h
      cases hq : qBody l with
      | none => rw [hq] at h; cases h
      | some q =>
        rw [hq] at h
        injection h with h
        injection h with h1 h2
        subst h1 h2
        have := qBody_len n l q.1 q.2 hn' hq
        simp at this ⊢
        omega
theorem quotedR_len {l a r : Tx} (h : quotedR l = some (a, r)) : a.length + r.length + 1 ≤ l.length := by
  unfold quotedR at h
  cases l with
  | nil => cases h
  | cons c l =>
    simp only at h
    split at h
    · cases hq : qBody l with
      | none => rw [hq] at h; cases h
      | some q =>
        rw [hq] at h
        simp only at h
        split at h
        · injection h with h
          subst h
          have := qBody_len l.length l _ _ (Nat.le_refl _) hq
          simp
          omega
        · cases h
    · cases h
theorem sc_worth_read : FnScope ["source", "worth"] ["source"] (defScope s_worth_read) := ⟨rfl, rfl, rfl, by decide +kernel, rfl, by decide +kernel, by decide +kernel⟩
theorem ok_worth_read (T : Hd w K mg) (M_Source_comes_next : Mt P w K mg base 1 (He.ga K "Source") "comes_next" (spCN K)) (M_Source_run_of : Mt P w K mg base 1 (He.ga K "Source") "run_of" (spRun K)) (D_quoted_read : Dn P w K mg base 4 "quoted_read" (spQuR K)) (D_shown_worth : Dn P w K mg base 3 "shown_worth" spShownW) (D_is_number_text : Dn P w K mg base 2 "is_number_text" spNumT) : Dn P w K mg base 5 "worth_read" (spWoR K) := by
  obtain ⟨fd, F⟩ := T.fn_worth_read
  refine dn_mk F T.g_worth_read (F.binds (ps := ["source"]) fun _ _ _ _ _ _ us hl => match us, hl with | [_], _ => rfl) sc_worth_read (fun vs H Q E h => ?_) (fun cdv A outer s H vs Q E hr tk h => ?_)
  · obtain ⟨p, z, i, rfl, hS, q1, q2⟩ := h
    rfl
  obtain ⟨p, z, i, rfl, hS, q1, q2⟩ := h
  refine ⟨_, (pss_cons (ps_if (pt_val (pe_m (pv 0) M_Source_comes_next hr (by first | decide | omega) (fun σ => L2N.passAt tk σ) (pa_cons pe_str pa_nil))) (pss_cons (ps_set (i := 1) sc_worth_read.nd rfl (by first | exact Or.inl rfl | exact Or.inr rfl) (pe_d D_quoted_read hr (by first | decide | omega) (fun σ => L2N.passAt tk σ) (by rfl) (pa_cons (pv 0) pa_nil))) (pss_cons (ps_if (pt_cmpR op_eq (pe_d D_shown_worth hr (by first | decide | omega) (fun σ => L2N.passAt tk σ) (by rfl) (pa_cons (pv 1) pa_nil)) (pv 1) (nomark _)) (pss_one (L2N.ps_raise rfl tk (L2N.pmk_own PySem.F.excBase_ValueError T.x_NoText T.g_NoText T.k_NoText (raises_own T.b_NoText T.t_NoText) rfl))) pss_nil) (pss_one (ps_ret (pv 1))))) pss_nil) (pss_cons (ps_set (i := 1) sc_worth_read.nd rfl (by first | exact Or.inl rfl | exact Or.inr rfl) (pe_m (pv 0) M_Source_run_of hr (by first | decide | omega) (fun σ => L2N.passAt tk σ) (pa_cons (C8.pe_gc (by rfl) T.c_FIGURES) pa_nil))) (pss_cons (ps_if (pt_not (pt_val (pe_d D_is_number_text hr (by first | decide | omega) (fun σ => L2N.passAt tk σ) (by rfl) (pa_cons (pv 1) pa_nil)))) (pss_one (L2N.ps_raise rfl tk (L2N.pmk_own PySem.F.excBase_ValueError T.x_NoText T.g_NoText T.k_NoText (raises_own T.b_NoText T.t_NoText) rfl))) pss_nil) (pss_one (ps_ret (pv 1)))))), ?_⟩
  obtain ⟨⟨dx, hp⟩, hi, hz⟩ := id hS
  walk_at "rd"
  simp only [hp]
  walk_at "rd"
  unfold worthR at q1 q2
  refine ⟨sf_no (by decide +kernel) (by decide +kernel), p, z, i, _, rfl, hS, ?_⟩
  rw [sc_q, pre_q]
  walk_at "rd"
  by_cases c : (rem z i).take 1 = [34]
  · rw [if_pos c] at q1 q2 ⊢
    refine ⟨p, z, i, rfl, hS, fun a r hq H1 v j hb hS1 hij hr hv => ?_, fun hq H1 hb => ?_⟩
    · have hl := quotedR_len hq
      have hll := rem_len z i
      rw [hll] at hl
      rw [hq] at q1 q2
      simp only at q1 q2
      obtain rfl : v = _ := hv
      walk_at "rd"
      refine ⟨St a, rfl, by rw [← tl_len, tl_st]; omega, ?_⟩
      rw [tl_st]
      walk_at "rd"
      simp only [st_eq]
      by_cases c2 : shownW a = a
      · rw [if_pos c2] at q1 q2 ⊢
        exact q2 rfl H1 hb
      · rw [if_neg c2] at q1 q2 ⊢
        exact q1 _ _ rfl H1 _ j hb hS1 hij hr rfl
    · rw [hq] at q1 q2
      exact q2 rfl H1 hb
  · rw [if_neg c] at q1 q2 ⊢
    simp only [hp]
    walk_at "rd"
    refine ⟨sf_no (by decide +kernel) (by decide +kernel), p, z, i, _, rfl, hS, fun H1 hb hS1 => ?_⟩
    have e1 : (fun c => decide (c ∈ tl (Str.ofString "0123456789"))) = isFig := rfl
    rw [e1] at hS1 ⊢
    walk_at "rd"
    have hl := takeW_le (z := z) (i := i) isFig
    refine ⟨_, rfl, by rw [← tl_len, tl_st]; omega, ?_⟩
    rw [tl_st]
    walk_at "rd"
    cases h : isNumT ((rem z i).takeWhile isFig) with
    | true =>
      rw [if_neg (by decide)]
      rw [if_pos h] at q1
      exact q1 _ _ rfl H1 _ _ hb hS1 (Nat.le_add_right _ _) (by rw [rem_drop, drop_takeW]) rfl
    | false =>
      rw [if_pos rfl]
      rw [if_neg (by rw [h]; decide)] at q2
      exact q2 rfl H1 hb
end
end Sk

/-! ## C4 -/
namespace Sk
open PySem PySem.Spec PyProof.Rows L2
set_option hygiene false in
local macro_rules | `(tactic| walk_at "rd") => `(tactic| simp only [tVar, tC, tB, tAnd, tOr, tNot, tAndV, tOrV, tNotV, tIf, tNext, tSeq, tBreak, tCont, tDrop, tRet, tRetN, tIfS, tAsg, tAug, tOp, tUn, tTest, tChain, tFld, sFldAug, sFld, rAdd, tNil, tCons, tTup, tLst, tCB, tNoPart, tPart, tSl, tBM0, tBM, tYes, tM0, tM1, CwR.tReplC, tCallS, tMethS, tMakeS, gName, wipe, tyV, gTup, gCons, gNil,
  rI, rI0, rEq, rNe, scal, rPlus, rPlusI, rPlusS, rCat, rCatA, rIx, rIxL, rIxT, rIxS, rSl, rSlS, rSlL, rSlA, iPlus, iPlusI, iPlusS, ipI, rAll, rAny, LenV, WE, E0, rAppend,
  L2.start, List.map_cons, List.map_nil, List.length_cons, List.length_nil, Nat.zero_add, Nat.add_zero, Nat.reduceAdd, Nat.reduceSub, Nat.sub_self, List.replicate_zero, List.replicate_succ, List.append_nil, List.nil_append, List.cons_append, List.getElem?_cons_zero, List.getElem?_cons_succ, List.set_cons_zero, List.set_cons_succ, Option.some.injEq,
  V.int.injEq, V.str.injEq, V.bl.injEq, V.ref.injEq, V.ty.injEq, HO.ins.injEq, HO.lst.injEq, HO.tup.injEq, List.cons.injEq, reduceCtorEq, false_and, and_false, true_and, and_true, and_assoc, exists_const, exists_false, false_or, or_false, exists_eq_left', exists_eq_left, exists_eq_right, exists_eq_right', exists_and_left, ↓reduceIte, decide_eq_true_eq, Bool.not_eq_true', decide_eq_false_iff_not, if_true, if_false, cxOf, and_self, Bool.not_true, Bool.not_false, Bool.false_eq_true,
  sf_signs, sf_spot, sf_put, T.cl_Source, T.na_Source_signs, T.na_Source_spot, sg_inj, upd_same, rIsS, tyN, kb1, kb2, kb3, kb4, kb5, kb6, kb7, kb8, kb9, kb10, kb11, kb12, kb13, kb14, kb15, kb16, kb17, kb18, kb19, kb20, kb21, tDNewK, rPowW])
inductive Kid where
  | s (w : Str) | e (x : Ex) | l (xs : List Ex)
def Kid.toD : Kid → PyData
  | .s w => .str w
  | .e x => x.toD
  | .l xs => .list (toDs xs)
def Kid.sz : Kid → Nat
  | .s _ => 0
  | .e x => x.sz
  | .l xs => szS xs
def Kid.dep : Kid → Nat
  | .s _ => 0
  | .e x => x.dep
  | .l xs => depS xs
def Ex.word : Ex → Str
  | .is _ => "is" | .var .. => "var" | .at_ .. => "at" | .short _ => "short" | .op .. => "op" | .not _ => "not" | .minus _ => "minus" | .call n _ => St n
def Ex.kids : Ex → List Kid
  | .is w => [.s (St w)] | .var n ps => [.s (St n), .l ps] | .at_ n ps => [.s (St n), .l ps] | .short ps => [.l ps] | .op s a b => [.s (St [s]), .e a, .e b] | .not a => [.e a] | .minus a => [.e a] | .call _ ps => ps.map Kid.e
theorem toDs_map : ∀ es : List Ex, toDs es = (es.map Kid.e).map Kid.toD
  | [] => by rw [toDs]; rfl
  | e :: r => by rw [toDs, toDs_map r]; rfl
theorem toD_kids (e : Ex) : e.toD = .tuple (.str e.word :: e.kids.map Kid.toD) := by
  cases e <;> rw [Ex.toD] <;> simp [Ex.word, Ex.kids, Kid.toD, toDs_map]
theorem dep_kids (e : Ex) {n : Nat} : e.dep ≤ n ↔ 0 < n ∧ ∀ k ∈ e.kids, k.dep ≤ n - 1 := by
  cases e with
  | call w ps =>
    rw [Ex.dep]
    have := depS_le (n := n - 1) (es := ps)
    simp only [Ex.kids, List.mem_map, forall_exists_index, and_imp, forall_apply_eq_imp_iff₂, Kid.dep]
    rw [← this]
    omega
  | _ => rw [Ex.dep]; simp [Ex.kids, Kid.dep]; omega
theorem tyx_tup {K : PySem.W.Frag} {H : Hp} {a : Addr} {xs : List V} (h : SqT K H a xs) : TyX K H (.ref a) (.type "tuple") := by
  rcases h with (h | ⟨o, h⟩) | ⟨o, its, n, h1, h2, _⟩
  · exact .base (.tup h)
  · exact .fTuple h
  · exact .kTuple h1 h2
theorem tyx_list {K : PySem.W.Frag} {H : Hp} {a : Addr} {xs : List V} (h : SqL K H a xs) : TyX K H (.ref a) (.type "list") := by
  rcases h with (h | ⟨o, h⟩) | ⟨o, its, n, h1, h2, _⟩
  · exact .base (.lst h)
  · exact .base (.frz h)
  · exact .kList h1 h2
theorem kids_len (e : Ex) : e.kids.length ≤ e.sz + 2 := by
  cases e with
  | call n ps =>
    rw [Ex.sz]
    simp only [Ex.kids, List.length_map]
    have := szS_len ps
    omega
  | _ => rw [Ex.sz]; simp [Ex.kids]
theorem kids_sz (e : Ex) {k : Kid} (h : k ∈ e.kids) : k.sz ≤ e.sz := by
  cases e with
  | call n ps =>
    rw [Ex.sz]
    simp only [Ex.kids, List.mem_map] at h
    obtain ⟨x, hx, rfl⟩ := h
    have := szS_mem hx
    simp only [Kid.sz]
    omega
  | _ =>
    rw [Ex.sz]
    simp only [Ex.kids, List.mem_cons, List.not_mem_nil, or_false] at h
    first
      | (rcases h with rfl | rfl | rfl <;> (simp only [Kid.sz]; omega))
      | (rcases h with rfl | rfl <;> (simp only [Kid.sz]; omega))
      | (subst h; simp only [Kid.sz]; omega)
theorem all_map {α : Type} (f : α → Bool) (l : List α) : (l.map fun c => V.bl (f c)) = (l.map f).map V.bl := by rw [List.map_map]; rfl
theorem cutV_tail {v : V} {vs : List V} : cutV (v :: vs) (some 1) none = vs := by
  unfold cutV
  have e1 : HT.sIx (v :: vs).length 0 (some (1 : Int)) = min 1 (v :: vs).length := HT.sIx_nat _ _ 1
  have e2 : HT.sIx (v :: vs).length (v :: vs).length none = (v :: vs).length := rfl
  rw [e1, e2]
  simp
theorem dp_tup {K : PySem.W.Frag} {H : Hp} {v : V} {ds : List PyData} (h : Dp K H v (.tuple ds)) : ∃ a xs, v = .ref a ∧ SqT K H a xs ∧ DpAll K H xs ds := by
  cases h with
  | tup h r => exact ⟨_, _, rfl, h, r⟩
theorem dp_list {K : PySem.W.Frag} {H : Hp} {v : V} {ds : List PyData} (h : Dp K H v (.list ds)) : ∃ a xs, v = .ref a ∧ SqL K H a xs ∧ DpAll K H xs ds := by
  cases h with
  | lst h r => exact ⟨_, _, rfl, h, r⟩
theorem dp_str {K : PySem.W.Frag} {H : Hp} {v : V} {x : Str} (h : Dp K H v (.str x)) : v = .str x := by
  cases h
  rfl
theorem dpa_cons {K : PySem.W.Frag} {H : Hp} {vs : List V} {d : PyData} {ds : List PyData} (h : DpAll K H vs (d :: ds)) : ∃ v r, vs = v :: r ∧ Dp K H v d ∧ DpAll K H r ds := by
  cases h with
  | cons h r => exact ⟨_, _, rfl, h, r⟩
section
variable {P : Program} {w : World} {K : PySem.W.Frag} {mg : Str → Option Value} {base : Heap}
theorem Dn.false (T : Hd w K mg) (k : Nat) : Dn P w K mg base k "is_within" (fun _ _ _ _ => False) := by
  obtain ⟨fd, F⟩ := T.fn_is_within
  exact ⟨_, fd, ["thing", "left"], ⟨fun _ _ _ _ h => h.elim, fun _ _ _ _ _ _ _ _ _ _ _ _ _ h => h.elim⟩, T.g_is_within, F.kp, F.binds (ps := ["thing", "left"]) fun _ _ _ _ _ _ us hl => match us, hl with | [_, _], _ => rfl⟩
/-- is_within: of a text; of an expression where left is at most b; of a list of them where left is below a -/
def spWi (K : PySem.W.Frag) (a b : Nat) : Sp := fun vs H Q _ => ∃ v left, vs = [v, .int left] ∧ ((∃ s, v = .str s ∧ ∀ H', Same H H' → Q (.bl true) H') ∨
  (∃ e : Ex, Dp K H v e.toD ∧ e.sz ≤ 5000000 ∧ left ≤ (b : Int) ∧ ∀ H', Same H H' → Q (.bl (decide (e.dep ≤ left.toNat))) H') ∨
  (∃ es : List Ex, Dp K H v (.list (toDs es)) ∧ 0 ≤ left ∧ left < (a : Int) ∧ szS es ≤ 5000000 ∧ ∀ H', Same H H' → Q (.bl (decide (depS es ≤ left.toNat))) H'))
theorem sc_is_within : FnScope ["thing", "left", "one"] ["thing", "left"] (defScope s_is_within) := ⟨rfl, rfl, rfl, by decide +kernel, rfl, by decide +kernel, by decide +kernel⟩
theorem ok_is_within (T : Hd w K mg) {m a b : Nat} {sp1 sp2 : Sp} (D_w1 : Dn P w K mg base m "is_within" sp1) (D_w2 : Dn P w K mg base m "is_within" sp2) (h1 : 0 < a → ∀ vs H Q E, spWi K 0 (a - 1) vs H Q E → sp1 vs H Q E) (h2 : 0 < b → ∀ vs H Q E, spWi K b (b - 1) vs H Q E → sp2 vs H Q E) : Dn P w K mg base (m + 1) "is_within" (spWi K a b) := by
  obtain ⟨fd, F⟩ := T.fn_is_within
  refine dn_mk F T.g_is_within (F.binds (ps := ["thing", "left"]) fun _ _ _ _ _ _ us hl => match us, hl with | [_, _], _ => rfl) sc_is_within (fun vs H Q E h => ?_) (fun cdv A outer s H vs Q E hr tk h => ?_)
  · obtain ⟨v, left, rfl, h⟩ := h
    rfl
  obtain ⟨v, left, rfl, h⟩ := h
  refine ⟨_, (pss_cons (ps_if (pt_val (pe_callB call_isS (by rfl) T.f_isinstance (by decide +kernel) (pa_cons (pv 0) (pa_cons (pe_bltn (v := .ty "str") (u := .type "str") (by rfl) T.f_str (by decide +kernel) rfl) pa_nil)))) (pss_one (ps_ret pe_bl)) pss_nil) (pss_cons (ps_if (pt_val (pe_callB call_isS (by rfl) T.f_isinstance (by decide +kernel) (pa_cons (pv 0) (pa_cons (pe_bltn (v := .ty "list") (u := .type "list") (by rfl) T.f_list (by decide +kernel) rfl) pa_nil)))) (pss_one (ps_ret (pe_callB (cr_all rfl) (by rfl) T.f_all (by decide +kernel) (pa_cons (pe_lc (own := [("one", 2)]) (by rfl) sc_is_within.nd (pi_seq (pv 0)) (blkOk_by (own := [("one", 2)]) (N := ["thing", "left", "one"]) (sc := defScope s_is_within) (by decide +kernel)) (fun _ _ _ _ _ => (pg_name (i := 2) sc_is_within.nd rfl (Or.inl rfl))) (fun _ _ _ _ _ => pts_nil) (fun _ _ _ _ _ => (pe_d D_w1 hr (by first | decide | omega) (fun σ => passN σ) (by rfl) (pa_cons (pv 2) (pa_cons (pv 1) pa_nil))))) pa_nil)))) pss_nil) (pss_one (ps_ret (pe_and (pe_cmpR op_gt (pv 1) pe_int (nomark _)) (pe_one (pe_callB (cr_all rfl) (by rfl) T.f_all (by decide +kernel) (pa_cons (pe_lc (own := [("one", 2)]) (by rfl) sc_is_within.nd (pi_seq (pe_slice sl_any (pv 0) (po_some pe_int) po_none)) (blkOk_by (own := [("one", 2)]) (N := ["thing", "left", "one"]) (sc := defScope s_is_within) (by decide +kernel)) (fun _ _ _ _ _ => (pg_name (i := 2) sc_is_within.nd rfl (Or.inl rfl))) (fun _ _ _ _ _ => pts_nil) (fun _ _ _ _ _ => (pe_d D_w2 hr (by first | decide | omega) (fun σ => passN σ) (by rfl) (pa_cons (pv 2) (pa_cons (pe_op op_sub (pv 1) pe_int) pa_nil))))) pa_nil)))))))), ?_⟩
  rcases h with ⟨s, rfl, q⟩ | ⟨e, hd, hg, hb, q⟩ | ⟨es, hd, h0, hb, hz, q⟩
  · walk_at "rd"
    exact q H (Same.refl _)
  · rw [toD_kids] at hd
    obtain ⟨ad, xs, rfl, hT, hA⟩ := dp_tup hd
    obtain ⟨v0, r, rfl, _, hA⟩ := dpa_cons hA
    walk_at "rd"
    refine ⟨"tuple", tyx_tup hT, _, kb8, ?_⟩
    walk_at "rd"
    refine ⟨"tuple", tyx_tup hT, _, kb9, ?_⟩
    walk_at "rd"
    by_cases hl : 0 < left
    · rw [if_pos hl]
      have hlen : r.length = e.kids.length := by rw [DpAll.len hA, List.length_map]
      refine tLc_tup r (e.kids.map fun k => .bl (decide (k.dep ≤ (left - 1).toNat))) (fun R h => ?_) (by rw [hlen, sizeLine_eq]; have := kids_len e; omega) (by rw [List.length_map, hlen]) (fun j c d H' Q' hc hd' s h => ⟨rfl, ?_⟩) (fun D H' nD s h => ⟨_, rfl, _, SqL.of (by rw [← all_map]; exact h), ?_⟩)
      · walk_at "rd"
        refine .inr ⟨_, hT, fun g => absurd g.1 ?_, fun _ p np => ?_⟩
        · rw [show HT.sIx (v0 :: r).length 0 (some (1 : Int)) = min 1 (v0 :: r).length from HT.sIx_nat _ _ 1, List.length_cons]
          omega
        · rw [cutV_tail]
          exact h p _ (fun a o g => by rw [upd_ne (ne_of_none g np)]; exact g) (.of (upd_same ..))
      · walk_at "rd"
        have hb0 : 0 < b := by omega
        rw [List.getElem?_map] at hd'
        cases hk : e.kids[j]? with
        | none => rw [hk] at hd'; cases hd'
        | some k =>
          rw [hk] at hd'
          injection hd' with hd'
          subst hd'
          have hz := kids_sz e (List.mem_of_getElem? hk)
          have hD := Dp.same s (DpAll.at_ hA hc (by rw [List.getElem?_map, hk]; rfl : (e.kids.map Kid.toD)[j]? = some k.toD))
          refine h2 hb0 _ _ _ _ ⟨c, left - 1, rfl, ?_⟩
          cases k with
          | s w =>
            have := dp_str hD
            exact .inl ⟨w, this, fun H'' s' => by have := h H'' s'; rwa [show (fun k : Kid => V.bl (decide (k.dep ≤ (left - 1).toNat))) (Kid.s w) = V.bl true from congrArg V.bl (decide_eq_true (Nat.zero_le _))] at this⟩
          | e x => exact .inr (.inl ⟨x, hD, by simp only [Kid.sz] at hz; omega, by omega, h⟩)
          | l xs => exact .inr (.inr ⟨xs, hD, by omega, by omega, by simp only [Kid.sz] at hz; omega, h⟩)
      · rw [all_id]
        have := q H' s
        have e2 : e.kids.all (fun k => decide (k.dep ≤ (left - 1).toNat)) = decide (e.dep ≤ left.toNat) := by
          rw [Bool.eq_iff_iff, List.all_eq_true, decide_eq_true_eq, dep_kids]
          simp only [decide_eq_true_eq]
          have : (left - 1).toNat = left.toNat - 1 := by omega
          rw [this]
          exact ⟨fun h => ⟨by omega, h⟩, fun h => h.2⟩
        rw [e2]
        exact this
    · rw [if_neg hl]
      have := q H (Same.refl _)
      rw [decide_eq_false (by have := (dep_kids e (n := left.toNat)); omega)] at this
      exact this
  · obtain ⟨ad, xs, rfl, hL, hA⟩ := dp_list hd
    walk_at "rd"
    refine ⟨"list", tyx_list hL, _, kb5, ?_⟩
    walk_at "rd"
    refine ⟨"list", tyx_list hL, _, kb4, ?_⟩
    walk_at "rd"
    have hlen : xs.length = es.length := by rw [DpAll.len hA, toDs_len]
    refine tLc_list xs (es.map fun e => .bl (decide (e.dep ≤ left.toNat))) (fun R h => ⟨_, rfl, h _ _ (Same.refl _) hL⟩) (by rw [hlen, sizeLine_eq]; have := szS_len es; omega) (by rw [List.length_map, hlen]) (fun j c d H' Q' hc hd' s h => ⟨rfl, ?_⟩) (fun D H' nD s h => ⟨_, rfl, _, SqL.of (by rw [← all_map]; exact h), ?_⟩)
    · walk_at "rd"
      refine h1 (by omega) _ _ _ _ ⟨c, left, rfl, .inr (.inl ?_)⟩
      rw [List.getElem?_map] at hd'
      cases he : es[j]? with
      | none => rw [he] at hd'; cases hd'
      | some e =>
        rw [he] at hd'
        injection hd' with hd'
        subst hd'
        have := szS_mem (List.mem_of_getElem? he)
        exact ⟨e, Dp.same s (DpAll.at_ hA hc (toDs_at he)), by omega, by omega, h⟩
    · rw [all_id]
      have := q H' s
      have e2 : es.all (fun e => decide (e.dep ≤ left.toNat)) = decide (depS es ≤ left.toNat) := by
        rw [Bool.eq_iff_iff, List.all_eq_true, decide_eq_true_eq, depS_le]
        simp
      rw [e2]
      exact this
/-- is_within up to a bound -/
theorem wi_chain (T : Hd w K mg) : ∀ n : Nat, (∀ m, 2 * n + 2 ≤ m → Dn P w K mg base m "is_within" (spWi K 0 n)) ∧ ∀ m, 2 * n + 3 ≤ m → Dn P w K mg base m "is_within" (spWi K (n + 1) n)
  | 0 => by
    have hz : ∀ m, 2 * 0 + 2 ≤ m → Dn P w K mg base m "is_within" (spWi K 0 0) := fun m hm => by
      obtain ⟨m', rfl⟩ : ∃ m', m = m' + 1 := ⟨m - 1, by omega⟩
      exact ok_is_within T (Dn.false T m') (Dn.false T m') (fun h => absurd h (by decide)) (fun h => absurd h (by decide))
    refine ⟨hz, fun m hm => ?_⟩
    obtain ⟨m', rfl⟩ : ∃ m', m = m' + 1 := ⟨m - 1, by omega⟩
    exact ok_is_within T (hz m' (by omega)) (Dn.false T m') (fun _ _ _ _ _ h => h) (fun h => absurd h (by decide))
  | n + 1 => by
    obtain ⟨_, hY⟩ := wi_chain T n
    have hz : ∀ m, 2 * (n + 1) + 2 ≤ m → Dn P w K mg base m "is_within" (spWi K 0 (n + 1)) := fun m hm => by
      obtain ⟨m', rfl⟩ : ∃ m', m = m' + 1 := ⟨m - 1, by omega⟩
      exact ok_is_within T (Dn.false T m') (hY m' (by omega)) (fun h => absurd h (by decide)) (fun _ _ _ _ _ h => by
        obtain ⟨v, left, rfl, h⟩ := h
        refine ⟨v, left, rfl, ?_⟩
        rcases h with h | h | h
        · exact .inl h
        · exact .inr (.inl h)
        · exact .inr (.inr h))
    refine ⟨hz, fun m hm => ?_⟩
    obtain ⟨m', rfl⟩ : ∃ m', m = m' + 1 := ⟨m - 1, by omega⟩
    exact ok_is_within T (hz m' (by omega)) (hY m' (by omega)) (fun _ _ _ _ _ h => h) (fun _ _ _ _ _ h => h)
end
end Sk

/-! ## C5 -/
namespace Sk
open PySem PySem.Spec PyProof.Rows L2
set_option hygiene false in
local macro_rules | `(tactic| walk_at "rd") => `(tactic| simp only [tVar, tC, tB, tAnd, tOr, tNot, tAndV, tOrV, tNotV, tIf, tNext, tSeq, tBreak, tCont, tDrop, tRet, tRetN, tIfS, tAsg, tAug, tOp, tUn, tTest, tChain, tFld, sFldAug, sFld, rAdd, tNil, tCons, tTup, tLst, tCB, tNoPart, tPart, tSl, tBM0, tBM, tYes, tM0, tM1, CwR.tReplC, tCallS, tMethS, tMakeS, gName, wipe, tyV, gTup, gCons, gNil,
  rI, rI0, rEq, rNe, scal, rPlus, rPlusI, rPlusS, rCat, rCatA, rIx, rIxL, rIxT, rIxS, rSl, rSlS, rSlL, rSlA, iPlus, iPlusI, iPlusS, ipI, rAll, rAny, LenV, WE, E0, rAppend,
  L2.start, List.map_cons, List.map_nil, List.length_cons, List.length_nil, Nat.zero_add, Nat.add_zero, Nat.reduceAdd, Nat.reduceSub, Nat.sub_self, List.replicate_zero, List.replicate_succ, List.append_nil, List.nil_append, List.cons_append, List.getElem?_cons_zero, List.getElem?_cons_succ, List.set_cons_zero, List.set_cons_succ, Option.some.injEq,
  V.int.injEq, V.str.injEq, V.bl.injEq, V.ref.injEq, V.ty.injEq, HO.ins.injEq, HO.lst.injEq, HO.tup.injEq, List.cons.injEq, reduceCtorEq, false_and, and_false, true_and, and_true, and_assoc, exists_const, exists_false, false_or, or_false, exists_eq_left', exists_eq_left, exists_eq_right, exists_eq_right', exists_and_left, ↓reduceIte, decide_eq_true_eq, Bool.not_eq_true', decide_eq_false_iff_not, if_true, if_false, cxOf, and_self, Bool.not_true, Bool.not_false, Bool.false_eq_true,
  sf_signs, sf_spot, sf_put, T.cl_Source, T.na_Source_signs, T.na_Source_spot, sg_inj, upd_same, rIsS, tyN, kb1, kb2, kb3, kb4, kb5, kb6, kb7, kb8, kb9, kb10, kb11, kb12, kb13, kb14, kb15, kb16, kb17, kb18, kb19, kb20, kb21, tDNewK, rPowW])
theorem pre_c (c : Nat) (l : Tx) : (tl (St [c])).isPrefixOf l = decide (l.take 1 = [c]) := by
  rw [tl_st]
  cases l with
  | nil => rfl
  | cons d r =>
    simp [List.isPrefixOf]
    by_cases h : d = c
    · subst h
      simp
    · have : (c == d) = false := by simpa using fun e => h e.symm
      simp [this, h]
theorem d1 {z : Str} {i : Nat} : (rem z i).drop 1 = rem z (i + 1) := rem_drop.symm
theorem sc_lp : Str.ofString "(" = St [40] := by decide +kernel
theorem sc_rp : Str.ofString ")" = St [41] := by decide +kernel
theorem sc_co : Str.ofString "," = St [44] := by decide +kernel
theorem sc_up : Str.ofString "^" = St [94] := by decide +kernel
theorem sc_ap : Str.ofString "'" = St [39] := by decide +kernel
theorem sc_mi : Str.ofString "-" = St [45] := by decide +kernel
theorem sc_do : Str.ofString "$" = St [36] := by decide +kernel
section
variable {P : Program} {w : World} {K : PySem.W.Frag} {mg : Str → Option Value} {base : Heap}
theorem go1 {H : Hp} {p : Addr} {z : Str} {i c : Nat} {y : Str} {Q : VK} {E : XK} (hy : y = St [c]) (hS : SrcAt K H p z i) (q0 : ¬ (rem z i).take 1 = [c] → E (exNT K) none H)
    (q1 : (rem z i).take 1 = [c] → ∀ H', But p H H' → SrcAt K H' p z (i + 1) → Q .non H') : spGo K [.ref p, .str y] H Q E := by
  subst hy
  refine ⟨p, z, i, St [c], rfl, hS, fun h => ?_, fun h H' b s => ?_⟩
  · rw [pre_c] at h
    exact q0 (of_decide_eq_false h)
  · rw [pre_c] at h
    exact q1 (of_decide_eq_true h) H' b s
theorem sk1 {H : Hp} {p : Addr} {z : Str} {i c : Nat} {y : Str} {Q : VK} {E : XK} (hy : y = St [c]) (hS : SrcAt K H p z i) (q0 : ¬ (rem z i).take 1 = [c] → Q (.bl false) H)
    (q1 : (rem z i).take 1 = [c] → ∀ H', But p H H' → SrcAt K H' p z (i + 1) → Q (.bl true) H') : spSk K [.ref p, .str y] H Q E := by
  subst hy
  refine ⟨p, z, i, St [c], rfl, hS, fun h => ?_, fun h H' b s => ?_⟩
  · rw [pre_c] at h
    exact q0 (of_decide_eq_false h)
  · rw [pre_c] at h
    exact q1 (of_decide_eq_true h) H' b s
theorem cn1 {H : Hp} {p : Addr} {z : Str} {i c : Nat} {y : Str} {Q : VK} {E : XK} (hy : y = St [c]) (hS : SrcAt K H p z i) (q : Q (.bl (decide ((rem z i).take 1 = [c]))) H) : spCN K [.ref p, .str y] H Q E := by
  subst hy
  refine ⟨p, z, i, St [c], rfl, hS, ?_⟩
  rw [pre_c]
  exact q
def repE (K : PySem.W.Frag) (H : Hp) : Hp → V → Ex → Prop := fun H' v e => Dp K (dif H H') v e.toD
def repL (K : PySem.W.Frag) (H : Hp) : Hp → V → List Ex → Prop := fun H' v es => Dp K (dif H H') v (.list (toDs es))
def spEx (K : PySem.W.Frag) (n : Nat) : Sp := fun vs H Q E => ∃ p z i left, vs = [.ref p, .int left] ∧ left ≤ (n : Int) ∧ SrcAt K H p z i ∧ PQ K (exR left.toNat) (repE K H) p z i H Q E
def spSg (K : PySem.W.Frag) (n : Nat) : Sp := fun vs H Q E => ∃ p z i left, vs = [.ref p, .int left] ∧ left ≤ (n : Int) ∧ SrcAt K H p z i ∧ PQ K (sgR left.toNat) (repE K H) p z i H Q E
def spUn (K : PySem.W.Frag) (n : Nat) : Sp := fun vs H Q E => ∃ p z i left, vs = [.ref p, .int left] ∧ left ≤ (n : Int) ∧ SrcAt K H p z i ∧ PQ K (unR left.toNat) (repE K H) p z i H Q E
def spPa (K : PySem.W.Frag) (n : Nat) : Sp := fun vs H Q E => ∃ p z i left, vs = [.ref p, .int left] ∧ left ≤ (n : Int) ∧ SrcAt K H p z i ∧ PQ K (partsR (exR left.toNat)) (repL K H) p z i H Q E
def spSP (K : PySem.W.Frag) (n : Nat) : Sp := fun vs H Q E => ∃ p z i left, vs = [.ref p, .int left] ∧ left ≤ (n : Int) ∧ SrcAt K H p z i ∧ PQ K (somePartsR (exR left.toNat)) (repL K H) p z i H Q E
def spPl (K : PySem.W.Frag) (n : Nat) : Sp := fun vs H Q E => ∃ p z i left, vs = [.ref p, .int left] ∧ left ≤ (n : Int) ∧ SrcAt K H p z i ∧ PQ K (placeR (exR (left - 1).toNat)) (repE K H) p z i H Q E
def spCa (K : PySem.W.Frag) (n : Nat) : Sp := fun vs H Q E => ∃ p z i left, vs = [.ref p, .int left] ∧ left ≤ (n : Int) ∧ SrcAt K H p z i ∧ PQ K (callR (exR (left - 1).toNat) (exR (left - 2).toNat)) (repE K H) p z i H Q E
/-- what is left of reading parts -/
def ptR (E : Rd1 Ex) (f : Nat) (l : Tx) (es : List Ex) : Option (List Ex × Tx) := match partsTail E f l with
  | some (es', r2) => if r2.take 1 = [41] then some (es ++ es', r2.drop 1) else none
  | none => none
theorem ptR_end {E : Rd1 Ex} {f : Nat} {l : Tx} {es : List Ex} (h : ¬ l.take 1 = [44]) : ptR E (f + 1) l es = if l.take 1 = [41] then some (es, l.drop 1) else none := by
  unfold ptR
  rw [partsTail, if_neg h]
  simp
theorem ptR_more {E : Rd1 Ex} {f : Nat} {l : Tx} {es : List Ex} (h : l.take 1 = [44]) : ptR E (f + 1) l es = match E (l.drop 1) with
    | some (e, r) => ptR E f r (es ++ [e])
    | none => none := by
  unfold ptR
  rw [partsTail, if_pos h]
  cases E (l.drop 1) with
  | none => rfl
  | some q =>
    obtain ⟨e, r⟩ := q
    simp only
    cases partsTail E f r with
    | none => rfl
    | some q =>
      obtain ⟨es', r2⟩ := q
      simp
theorem partsR_eq {E : Rd1 Ex} {l : Tx} (h : l.take 1 = [40]) : partsR E l = match E (l.drop 1) with
    | some (e, r) => ptR E (r.length + 1) r [e]
    | none => none := by
  unfold partsR ptR
  rw [if_pos h]
  rfl
def PaI (K : PySem.W.Frag) (p : Addr) (z : Str) (i : Nat) (left : Int) (H : Hp) (a : Addr) (j : Nat) (f : Nat) (es : List Ex) (acc : List V) (σ' : SS) (H' : Hp) : Prop :=
  σ' = [some (.ref p), some (.int left), some (.ref a)] ∧ SrcAt K H' p z j ∧ i ≤ j ∧ But p H H' ∧ H a = none ∧ H' a = some (.lst acc) ∧ DpAll K (difO H a H') acc (toDs es) ∧
    partsR (exR left.toNat) (rem z i) = ptR (exR left.toNat) (f + 1) (rem z j) es ∧ (rem z j).length ≤ f ∧ acc.length ≤ j
def PaN (K : PySem.W.Frag) (p : Addr) (z : Str) (i : Nat) (left : Int) (H : Hp) (a : Addr) (m : Nat) (σ' : SS) (H' : Hp) : Prop := ∃ j f es acc, (rem z j).length < m ∧ PaI K p z i left H a j f es acc σ' H'
def PaW (K : PySem.W.Frag) (p : Addr) (z : Str) (i : Nat) (left : Int) (H : Hp) (a : Addr) (m : Nat) (σ' : SS) (H' : Hp) : Prop := ∃ j f es acc, m = (rem z j).length ∧ PaI K p z i left H a j f es acc σ' H'
theorem sc_parts_read : FnScope ["source", "left", "found"] ["source", "left"] (defScope s_parts_read) := ⟨rfl, rfl, rfl, by decide +kernel, rfl, by decide +kernel, by decide +kernel⟩
theorem ok_parts_read (T : Hd w K mg) {k n : Nat} (hk : 3 ≤ k) (M_Source_goes_past : Mt P w K mg base 3 (He.ga K "Source") "goes_past" (spGo K)) (M_Source_skips : Mt P w K mg base 2 (He.ga K "Source") "skips" (spSk K)) (D_expression_from : Dn P w K mg base k "expression_from" (spEx K n)) : Dn P w K mg base (k + 1) "parts_read" (spPa K n) := by
  obtain ⟨fd, F⟩ := T.fn_parts_read
  refine dn_mk F T.g_parts_read (F.binds (ps := ["source", "left"]) fun _ _ _ _ _ _ us hl => match us, hl with | [_, _], _ => rfl) sc_parts_read (fun vs H Q E h => ?_) (fun cdv A outer s H vs Q E hr tk h => ?_)
  · obtain ⟨p, z, i, left, rfl, hn, hS, q1, q2⟩ := h
    rfl
  obtain ⟨p, z, i, left, rfl, hn, hS, q1, q2⟩ := h
  refine ⟨_, (pss_cons (ps_expr (pe_m (pv 0) M_Source_goes_past hr (by first | decide | omega) (fun σ => L2N.passAt tk σ) (pa_cons pe_str pa_nil))) (pss_cons (ps_set (i := 2) sc_parts_read.nd rfl (by first | exact Or.inl rfl | exact Or.inr rfl) (pe_lst (pa_cons (pe_d D_expression_from hr (by first | decide | omega) (fun σ => L2N.passAt tk σ) (by rfl) (pa_cons (pv 0) (pa_cons (pv 1) pa_nil))) pa_nil))) (pss_cons (ps_while (passes_of rfl) (pt_val (pe_m (pv 0) M_Source_skips hr (by first | decide | omega) (fun σ => L2N.passAt tk σ) (pa_cons pe_str pa_nil))) (pss_one (ps_expr (pe_bm PySem.F.plainAttrs_list PySem.F.slot_list_append PySem.F.type_list_append mt_append (pv 2) (pa_cons (pe_d D_expression_from hr (by first | decide | omega) (fun σ => L2N.passAt tk σ) (by rfl) (pa_cons (pv 0) (pa_cons (pv 1) pa_nil))) pa_nil))))) (pss_cons (ps_expr (pe_m (pv 0) M_Source_goes_past hr (by first | decide | omega) (fun σ => L2N.passAt tk σ) (pa_cons pe_str pa_nil))) (pss_one (ps_ret (pv 2))))))), ?_⟩
  obtain ⟨⟨dx, hp⟩, hi, hz⟩ := id hS
  walk_at "rd"
  simp only [hp]
  walk_at "rd"
  refine ⟨sf_no (by decide +kernel) (by decide +kernel), go1 sc_lp hS (fun c => ?_) fun c H1 b1 S1 => ?_⟩
  · exact q2 (by unfold partsR; rw [if_neg c]) H But.refl
  have e0 := partsR_eq (E := exR left.toNat) c
  rw [d1] at e0
  refine ⟨p, z, i + 1, left, rfl, hn, S1, fun e r he H2 v j b2 S2 hij hr hv => ?_, fun he H2 b2 => ?_⟩
  rotate_left
  · rw [he] at e0
    exact q2 e0 H2 (b1.trans b2)
  subst hr
  rw [he] at e0
  simp only at e0
  refine ⟨by rw [sizeLine_eq]; omega, fun a na => ?_⟩
  obtain ⟨⟨dx1, hp1⟩, _, _⟩ := id S1
  obtain ⟨⟨dx2, hp2⟩, hj, _⟩ := id S2
  have b12 := b1.trans b2
  have ha : H a = none := by
    cases h : H a with
    | none => rfl
    | some o =>
      by_cases e : a = p
      · subst e
        rw [na] at hp2
        cases hp2
      · rw [b12 a o h e] at na
        cases na
  have hap : p ≠ a := fun e => by
    subst e
    rw [na] at hp2
    cases hp2
  have S3 : SrcAt K (upd H2 a (.lst [v])) p z j := ⟨⟨dx2, by rw [upd_ne hap]; exact hp2⟩, hj, hz⟩
  have b3 : But p H (upd H2 a (.lst [v])) := fun b o h e => by
    rw [upd_ne (ne_of_none h ha)]
    exact b12 b o h e
  refine while_w (PaW K p z i left H a) _ ⟨j, (rem z j).length, [e], [v], rfl, rfl, S3, by omega, b3, ha, upd_same, ?_, e0, Nat.le_refl _, by simp; omega⟩ ?_
  · rw [difO_upd, toDs, toDs]
    exact .cons (Dp.same (difO_new na) (Dp.same (dif_back hp1 b1) hv)) .nil
  rintro m σ H4 ⟨j4, f, es, acc, rfl, rfl, S4, hij4, b4, _, ha4, hA, e4, hf, hl⟩
  obtain ⟨⟨dx4, hp4⟩, hj4, _⟩ := id S4
  walk_at "rd"
  simp only [hp4]
  walk_at "rd"
  refine ⟨sf_no (by decide +kernel) (by decide +kernel), sk1 sc_co S4 (fun c4 => ?_) fun c4 H5 b5 S5 => ?_⟩
  · refine ⟨false, rfl, ?_⟩
    rw [if_neg (by decide)]
    rw [ptR_end c4] at e4
    refine ⟨_, _, hp4, sf_no (by decide +kernel) (by decide +kernel), go1 sc_rp S4 (fun c5 => ?_) fun c5 H5 b5 S5 => ?_⟩
    · rw [if_neg c5] at e4
      exact q2 e4 H4 b4
    · rw [if_pos c5, d1] at e4
      refine q1 es _ e4 H5 _ (j4 + 1) (b4.trans b5) S5 (by omega) rfl (.lst (SqL.of (dif_eq.mpr ⟨ha, b5 a _ ha4 hap.symm⟩)) ?_)
      exact DpAll.same difO_sub (DpAll.same (difO_more hp b5) hA)
  · refine ⟨true, rfl, ?_⟩
    rw [if_pos rfl]
    obtain ⟨⟨dx5, hp5⟩, hj5, _⟩ := id S5
    have ha5 := b5 a _ ha4 hap.symm
    refine ⟨PaN K p z i left H a (rem z j4).length, fun σ' H' h => ?_, .inl ⟨acc, SqL.of ha5⟩, p, z, j4 + 1, left, rfl, hn, S5, fun e6 r6 he6 H6 v6 j6 b6 S6 hij6 hr6 hv6 => ?_, fun he6 H6 b6 => ?_⟩
    · obtain ⟨j', f', es', acc', hm, h⟩ := h
      exact ⟨_, hm, j', f', es', acc', rfl, h⟩
    · have ha6 := b6 a _ ha5 hap.symm
      subst hr6
      obtain ⟨⟨dx6, hp6⟩, hj6, _⟩ := id S6
      have hsh := exR_sh _ _ _ _ he6
      have hsz := sz_pos e6
      rw [rem_len, rem_len] at hsh
      refine ⟨acc, ha6, by rw [sizeLine_eq]; omega, j6, f - 1, es ++ [e6], acc ++ [v6], by rw [rem_len, rem_len]; omega, rfl, ⟨⟨dx6, by rw [upd_ne hap]; exact hp6⟩, hj6, hz⟩, by omega, fun b o h e => ?_, ha, upd_same, ?_, ?_, ?_, ?_⟩
      · rw [upd_ne (ne_of_none h ha)]
        exact ((b4.trans b5).trans b6) b o h e
      · rw [difO_upd, toDs_snoc]
        exact DpAll.snoc (DpAll.same (difO_more hp b6) (DpAll.same (difO_more hp b5) hA)) (Dp.same (difO_back hp5 ha5 (b4.trans b5)) hv6)
      · rw [rem_len] at hf
        rw [e4, ptR_more c4, d1, he6, show f - 1 + 1 = f by omega]
      · rw [rem_len] at hf ⊢
        omega
      · rw [List.length_append, List.length_singleton]
        omega
    · rw [ptR_more c4, d1, he6] at e4
      exact q2 e4 H6 ((b4.trans b5).trans b6)
theorem free_of {p a : Addr} {H H1 : Hp} {o : HO} (b : But p H H1) (hp1 : H1 p = some o) (na : H1 a = none) : H a = none := by
  cases h : H a with
  | none => rfl
  | some u =>
    by_cases e : a = p
    · subst e
      rw [na] at hp1
      cases hp1
    · rw [b a u h e] at na
      cases na
theorem But.new {p a : Addr} {H H1 : Hp} {o u : HO} (b : But p H H1) (hp1 : H1 p = some o) (na : H1 a = none) : But p H (upd H1 a u) := fun c v h e => by
  rw [upd_ne (ne_of_none h (free_of b hp1 na))]
  exact b c v h e
theorem SrcAt.new {p a : Addr} {H1 : Hp} {u : HO} {z : Str} {j : Nat} (S : SrcAt K H1 p z j) (na : H1 a = none) : SrcAt K (upd H1 a u) p z j := by
  obtain ⟨⟨dx, hp⟩, h⟩ := S
  exact ⟨⟨dx, by rw [upd_ne (ne_of_none hp na)]; exact hp⟩, h⟩
theorem dif_upd {H H1 : Hp} {a : Addr} {u : HO} (na : H1 a = none) : Same (dif H H1) (dif H (upd H1 a u)) := fun b o h => by
  obtain ⟨h1, h2⟩ := dif_eq.mp h
  exact dif_eq.mpr ⟨h1, by rw [upd_ne (ne_of_none h2 na)]; exact h2⟩
theorem tup_new {H H1 : Hp} {a : Addr} {vs : List V} {ds : List PyData} (na : H1 a = none) (ha : H a = none) (h : DpAll K (dif H H1) vs ds) : Dp K (dif H (upd H1 a (.tup vs))) (.ref a) (.tuple ds) :=
  .tup (SqT.of (dif_eq.mpr ⟨ha, upd_same⟩)) (DpAll.same (dif_upd na) h)
theorem lst_new {H H1 : Hp} {a : Addr} {vs : List V} {ds : List PyData} (na : H1 a = none) (ha : H a = none) (h : DpAll K (dif H H1) vs ds) : Dp K (dif H (upd H1 a (.lst vs))) (.ref a) (.list ds) :=
  .lst (SqL.of (dif_eq.mpr ⟨ha, upd_same⟩)) (DpAll.same (dif_upd na) h)
theorem sc_some_parts_read : FnScope ["source", "left"] ["source", "left"] (defScope s_some_parts_read) := ⟨rfl, rfl, rfl, by decide +kernel, rfl, by decide +kernel, by decide +kernel⟩
theorem ok_some_parts_read (T : Hd w K mg) {k n : Nat} (hk : 1 ≤ k) (M_Source_comes_next : Mt P w K mg base 1 (He.ga K "Source") "comes_next" (spCN K)) (D_parts_read : Dn P w K mg base k "parts_read" (spPa K n)) : Dn P w K mg base (k + 1) "some_parts_read" (spSP K n) := by
  obtain ⟨fd, F⟩ := T.fn_some_parts_read
  refine dn_mk F T.g_some_parts_read (F.binds (ps := ["source", "left"]) fun _ _ _ _ _ _ us hl => match us, hl with | [_, _], _ => rfl) sc_some_parts_read (fun vs H Q E h => ?_) (fun cdv A outer s H vs Q E hr tk h => ?_)
  · obtain ⟨p, z, i, left, rfl, hn, hS, q1, q2⟩ := h
    rfl
  obtain ⟨p, z, i, left, rfl, hn, hS, q1, q2⟩ := h
  refine ⟨_, (pss_one (ps_ret (pe_ifExp (pt_val (pe_m (pv 0) M_Source_comes_next hr (by first | decide | omega) (fun σ => L2N.passAt tk σ) (pa_cons pe_str pa_nil))) (pe_d D_parts_read hr (by first | decide | omega) (fun σ => L2N.passAt tk σ) (by rfl) (pa_cons (pv 0) (pa_cons (pv 1) pa_nil))) (pe_lst pa_nil)))), ?_⟩
  obtain ⟨⟨dx, hp⟩, hi, hz⟩ := id hS
  walk_at "rd"
  simp only [hp]
  walk_at "rd"
  refine ⟨sf_no (by decide +kernel) (by decide +kernel), cn1 sc_lp hS ?_⟩
  unfold somePartsR at q1 q2
  by_cases c : (rem z i).take 1 = [40]
  · simp only [if_pos c] at q1 q2
    refine ⟨_, rfl, ?_⟩
    rw [if_pos (decide_eq_true c)]
    exact ⟨p, z, i, left, rfl, hn, hS, q1, q2⟩
  · simp only [if_neg c] at q1 q2
    refine ⟨_, rfl, ?_⟩
    rw [if_neg (by simpa using c)]
    exact ⟨by rw [sizeLine_eq]; omega, fun a na => q1 [] _ rfl _ _ i (But.new But.refl hp na) (SrcAt.new hS na) (Nat.le_refl _) rfl (by show Dp K _ _ (.list (toDs [])); rw [toDs]; exact lst_new na na .nil)⟩
theorem sc_place_read : FnScope ["source", "left", "name"] ["source", "left"] (defScope s_place_read) := ⟨rfl, rfl, rfl, by decide +kernel, rfl, by decide +kernel, by decide +kernel⟩
theorem ok_place_read (T : Hd w K mg) {k n : Nat} (hk : 3 ≤ k) (M_Source_skips : Mt P w K mg base 2 (He.ga K "Source") "skips" (spSk K)) (M_Source_comes_next : Mt P w K mg base 1 (He.ga K "Source") "comes_next" (spCN K)) (D_name_read : Dn P w K mg base 3 "name_read" (spName K)) (D_parts_read : Dn P w K mg base k "parts_read" (spPa K n)) (D_some_parts_read : Dn P w K mg base k "some_parts_read" (spSP K n)) : Dn P w K mg base (k + 1) "place_read" (spPl K (n + 1)) := by
  obtain ⟨fd, F⟩ := T.fn_place_read
  refine dn_mk F T.g_place_read (F.binds (ps := ["source", "left"]) fun _ _ _ _ _ _ us hl => match us, hl with | [_, _], _ => rfl) sc_place_read (fun vs H Q E h => ?_) (fun cdv A outer s H vs Q E hr tk h => ?_)
  · obtain ⟨p, z, i, left, rfl, hn, hS, q1, q2⟩ := h
    rfl
  obtain ⟨p, z, i, left, rfl, hn, hS, q1, q2⟩ := h
  refine ⟨_, (pss_cons (ps_if (pt_not (pt_val (pe_m (pv 0) M_Source_skips hr (by first | decide | omega) (fun σ => L2N.passAt tk σ) (pa_cons pe_str pa_nil)))) (pss_cons (ps_set (i := 2) sc_place_read.nd rfl (by first | exact Or.inl rfl | exact Or.inr rfl) (pe_d D_name_read hr (by first | decide | omega) (fun σ => L2N.passAt tk σ) (by rfl) (pa_cons (pv 0) pa_nil))) (pss_one (ps_ret (pe_tup (pa_cons pe_str (pa_cons (pv 2) (pa_cons (pe_d D_some_parts_read hr (by first | decide | omega) (fun σ => L2N.passAt tk σ) (by rfl) (pa_cons (pv 0) (pa_cons (pe_op op_sub (pv 1) pe_int) pa_nil))) pa_nil))))))) pss_nil) (pss_cons (ps_if (pt_val (pe_m (pv 0) M_Source_comes_next hr (by first | decide | omega) (fun σ => L2N.passAt tk σ) (pa_cons pe_str pa_nil))) (pss_one (ps_ret (pe_tup (pa_cons pe_str (pa_cons (pe_d D_parts_read hr (by first | decide | omega) (fun σ => L2N.passAt tk σ) (by rfl) (pa_cons (pv 0) (pa_cons (pe_op op_sub (pv 1) pe_int) pa_nil))) pa_nil))))) pss_nil) (pss_cons (ps_set (i := 2) sc_place_read.nd rfl (by first | exact Or.inl rfl | exact Or.inr rfl) (pe_d D_name_read hr (by first | decide | omega) (fun σ => L2N.passAt tk σ) (by rfl) (pa_cons (pv 0) pa_nil))) (pss_one (ps_ret (pe_tup (pa_cons pe_str (pa_cons (pv 2) (pa_cons (pe_d D_some_parts_read hr (by first | decide | omega) (fun σ => L2N.passAt tk σ) (by rfl) (pa_cons (pv 0) (pa_cons (pe_op op_sub (pv 1) pe_int) pa_nil))) pa_nil))))))))), ?_⟩
  obtain ⟨⟨dx, hp⟩, hi, hz⟩ := id hS
  walk_at "rd"
  simp only [hp]
  walk_at "rd"
  have e0 := placeR.eq_def (exR (left - 1).toNat) (rem z i)
  have hn' : left - 1 ≤ (n : Int) := by omega
  refine ⟨sf_no (by decide +kernel) (by decide +kernel), sk1 sc_up hS (fun c => ?_) fun c H1 b1 S1 => ?_⟩
  · simp only [if_neg c] at e0
    refine ⟨_, rfl, ?_⟩
    rw [if_pos rfl]
    refine ⟨p, z, i, rfl, hS, fun nm r he H2 v j b2 S2 hij hr hv => ?_, fun he H2 b2 => ?_⟩
    rotate_left
    · rw [he] at e0
      exact q2 e0 H2 b2
    subst hr
    obtain rfl : v = _ := hv
    rw [he] at e0
    simp only at e0
    obtain ⟨⟨dx2, hp2⟩, _, _⟩ := id S2
    refine ⟨p, z, j, left - 1, rfl, hn', S2, fun ps r he H3 v j3 b3 S3 hij3 hr hv => ?_, fun he H3 b3 => ?_⟩
    rotate_left
    · rw [he] at e0
      exact q2 e0 H3 (b2.trans b3)
    subst hr
    rw [he] at e0
    obtain ⟨⟨dx3, hp3⟩, _, _⟩ := id S3
    have b := b2.trans b3
    refine ⟨by rw [sizeLine_eq]; omega, fun a na => q1 _ _ e0 _ _ j3 (But.new b hp3 na) (SrcAt.new S3 na) (by omega) rfl ?_⟩
    show Dp K _ _ (Ex.toD _)
    rw [Ex.toD]
    exact tup_new na (free_of b hp3 na) (.cons (.str _) (.cons (.str _) (.cons (Dp.same (dif_back hp2 b2) hv) .nil)))
  · simp only [if_pos c, d1] at e0
    refine ⟨_, rfl, ?_⟩
    rw [if_neg (by decide)]
    obtain ⟨⟨dx1, hp1⟩, _, _⟩ := id S1
    refine ⟨_, _, hp1, sf_no (by decide +kernel) (by decide +kernel), cn1 sc_lp S1 ?_⟩
    by_cases c1 : (rem z (i + 1)).take 1 = [40]
    · simp only [if_pos c1] at e0
      refine ⟨_, rfl, ?_⟩
      rw [if_pos (decide_eq_true c1)]
      refine ⟨p, z, i + 1, left - 1, rfl, hn', S1, fun ps r he H3 v j3 b3 S3 hij3 hr hv => ?_, fun he H3 b3 => ?_⟩
      rotate_left
      · rw [he] at e0
        exact q2 e0 H3 (b1.trans b3)
      subst hr
      rw [he] at e0
      obtain ⟨⟨dx3, hp3⟩, _, _⟩ := id S3
      have b := b1.trans b3
      refine ⟨by rw [sizeLine_eq]; omega, fun a na => q1 _ _ e0 _ _ j3 (But.new b hp3 na) (SrcAt.new S3 na) (by omega) rfl ?_⟩
      show Dp K _ _ (Ex.toD _)
      rw [Ex.toD]
      exact tup_new na (free_of b hp3 na) (.cons (.str _) (.cons (Dp.same (dif_back hp1 b1) hv) .nil))
    · simp only [if_neg c1] at e0
      refine ⟨_, rfl, ?_⟩
      rw [if_neg (by simpa using c1)]
      refine ⟨p, z, i + 1, rfl, S1, fun nm r he H2 v j b2 S2 hij hr hv => ?_, fun he H2 b2 => ?_⟩
      rotate_left
      · rw [he] at e0
        exact q2 e0 H2 (b1.trans b2)
      subst hr
      obtain rfl : v = _ := hv
      rw [he] at e0
      simp only at e0
      obtain ⟨⟨dx2, hp2⟩, _, _⟩ := id S2
      have b12 := b1.trans b2
      refine ⟨p, z, j, left - 1, rfl, hn', S2, fun ps r he H3 v j3 b3 S3 hij3 hr hv => ?_, fun he H3 b3 => ?_⟩
      rotate_left
      · rw [he] at e0
        exact q2 e0 H3 (b12.trans b3)
      subst hr
      rw [he] at e0
      obtain ⟨⟨dx3, hp3⟩, _, _⟩ := id S3
      have b := b12.trans b3
      refine ⟨by rw [sizeLine_eq]; omega, fun a na => q1 _ _ e0 _ _ j3 (But.new b hp3 na) (SrcAt.new S3 na) (by omega) rfl ?_⟩
      show Dp K _ _ (Ex.toD _)
      rw [Ex.toD]
      exact tup_new na (free_of b hp3 na) (.cons (.str _) (.cons (.str _) (.cons (Dp.same (dif_back hp2 b12) hv) .nil)))
def WoE (e : Ex) : Prop := e.word = Str.ofString "op" ↔ e.isOpX = true
def Wo (E : Rd1 Ex) : Prop := ∀ l e r, E l = some (e, r) → WoE e
theorem wo_call {n : Tx} {ps : List Ex} (h : n ≠ tl "op") : WoE (.call n ps) := ⟨fun e => absurd (tl_inj (a := St n) (b := Str.ofString "op") (congrArg tl e)) (fun e2 => h (congrArg tl e2)), fun e => by cases e⟩
theorem wo_at (n : Tx) (ps : List Ex) : WoE (.at_ n ps) := ⟨fun e => absurd e (by show ¬ (Str.ofString "at" = Str.ofString "op"); decide +kernel), fun e => by cases e⟩
theorem wo_var (n : Tx) (ps : List Ex) : WoE (.var n ps) := ⟨fun e => absurd e (by show ¬ (Str.ofString "var" = Str.ofString "op"); decide +kernel), fun e => by cases e⟩
theorem wo_short (ps : List Ex) : WoE (.short ps) := ⟨fun e => absurd e (by show ¬ (Str.ofString "short" = Str.ofString "op"); decide +kernel), fun e => by cases e⟩
theorem wo_is (n : Tx) : WoE (.is n) := ⟨fun e => absurd e (by show ¬ (Str.ofString "is" = Str.ofString "op"); decide +kernel), fun e => by cases e⟩
theorem wo_not (a : Ex) : WoE (.not a) := ⟨fun e => absurd e (by show ¬ (Str.ofString "not" = Str.ofString "op"); decide +kernel), fun e => by cases e⟩
theorem wo_minus (a : Ex) : WoE (.minus a) := ⟨fun e => absurd e (by show ¬ (Str.ofString "minus" = Str.ofString "op"); decide +kernel), fun e => by cases e⟩
theorem wo_op (s : Nat) (a b : Ex) : WoE (.op s a b) := ⟨fun _ => rfl, fun _ => rfl⟩
theorem placeR_wo {Em : Rd1 Ex} : Wo (placeR Em) := by
  intro l e r h
  unfold placeR at h
  repeat' split at h
  all_goals (try cases h)
  · exact wo_short _
  · exact wo_at _ _
  · exact wo_var _ _
theorem callR_wo {E Em : Rd1 Ex} : Wo (callR E Em) := by
  intro l e r h
  have h1 : tl "length" ≠ tl "op" := by decide +kernel
  have h2 : tl "piece" ≠ tl "op" := by decide +kernel
  have h3 : tl "part" ≠ tl "op" := by decide +kernel
  have h4 : tl "order" ≠ tl "op" := by decide +kernel
  have h5 : tl "back" ≠ tl "op" := by decide +kernel
  have h6 : tl "data" ≠ tl "op" := by decide +kernel
  have h7 : tl "other" ≠ tl "op" := by decide +kernel
  have hw : (∃ k, callsN (l.takeWhile isLet) = some k) ∨ (isPlaceW (l.takeWhile isLet) || decide (l.takeWhile isLet = tl "other")) = true → l.takeWhile isLet ≠ tl "op" := by
    rintro (⟨k, hk⟩ | hk) e
    · rw [e] at hk
      unfold callsN at hk
      rw [if_neg h1.symm, if_neg h2.symm, if_neg h3.symm] at hk
      cases hk
    · rw [e] at hk
      unfold isPlaceW at hk
      rw [decide_eq_false h4.symm, decide_eq_false h5.symm, decide_eq_false h6.symm, decide_eq_false h7.symm] at hk
      cases hk
  unfold callR at h
  split at h
  · rename_i k hk
    have := hw (.inl ⟨k, hk⟩)
    repeat' split at h
    all_goals (try cases h)
    exact wo_call this
  · split at h
    · rename_i hk
      have := hw (.inr hk)
      repeat' split at h
      all_goals (try cases h)
      · exact wo_call this
      · exact wo_call this
    · cases h
theorem underR_wo {S E : Rd1 Ex} (hS : Wo S) (hE : Wo E) : Wo (underR S E) := by
  intro l e r h
  unfold underR at h
  split at h
  · split at h
    · rename_i e1 r1 he
      have := hE _ _ _ he
      repeat' split at h
      all_goals (try cases h)
      exact this
    · cases h
  · exact hS _ _ _ h
theorem singleR_wo {S E Em : Rd1 Ex} : Wo (singleR S E Em) := by
  intro l e r h
  unfold singleR at h
  split at h
  · repeat' split at h
    all_goals (try cases h)
    exact wo_is _
  · split at h
    · repeat' split at h
      all_goals (try cases h)
      exact wo_not _
    · split at h
      · repeat' split at h
        all_goals (try cases h)
        exact wo_minus _
      · split at h
        · exact callR_wo _ _ _ h
        · exact placeR_wo _ _ _ h
theorem opsTail_wo {U : Rd1 Ex} : ∀ (k : Nat) (f : Ex) (l : Tx) (g : Ex) (r : Tx), WoE f → opsTail U k f l = some (g, r) → WoE g
  | 0, f, l, g, r, hf, h => by
    rw [opsTail] at h
    split at h
    · cases h
    · cases h
      exact hf
  | k + 1, f, l, g, r, hf, h => by
    rw [opsTail] at h
    split at h
    · split at h
      · exact opsTail_wo k _ _ _ _ (wo_op _ _ _) h
      · cases h
    · cases h
      exact hf
theorem exprR_wo {n : Nat} {S U : Rd1 Ex} (hS : Wo S) : Wo (exprR n S U) := by
  intro l e r h
  unfold exprR at h
  split at h
  · rename_i s r1 hs
    have := hS _ _ _ hs
    split at h
    · split at h
      · rename_i f r2 hf
        have := opsTail_wo _ _ _ _ _ this hf
        split at h
        · cases h
          exact this
        · cases h
      · cases h
    · cases h
      exact this
  · cases h
theorem exR_wo : ∀ n, Wo (exR n)
  | 0 => fun _ _ _ h => by cases h
  | n + 1 => by
    rw [exR_succ, sgR_succ]
    exact exprR_wo singleR_wo
theorem sc_under_read : FnScope ["source", "left", "found"] ["source", "left"] (defScope s_under_read) := ⟨rfl, rfl, rfl, by decide +kernel, rfl, by decide +kernel, by decide +kernel⟩
theorem ok_under_read (T : Hd w K mg) {k n : Nat} (hk : 3 ≤ k) (M_Source_skips : Mt P w K mg base 2 (He.ga K "Source") "skips" (spSk K)) (M_Source_goes_past : Mt P w K mg base 3 (He.ga K "Source") "goes_past" (spGo K)) (D_single_read : Dn P w K mg base k "single_read" (spSg K n)) (D_expression_from : Dn P w K mg base k "expression_from" (spEx K n)) : Dn P w K mg base (k + 1) "under_read" (spUn K n) := by
  obtain ⟨fd, F⟩ := T.fn_under_read
  refine dn_mk F T.g_under_read (F.binds (ps := ["source", "left"]) fun _ _ _ _ _ _ us hl => match us, hl with | [_, _], _ => rfl) sc_under_read (fun vs H Q E h => ?_) (fun cdv A outer s H vs Q E hr tk h => ?_)
  · obtain ⟨p, z, i, left, rfl, hn, hS, q1, q2⟩ := h
    rfl
  obtain ⟨p, z, i, left, rfl, hn, hS, q1, q2⟩ := h
  refine ⟨_, (pss_cons (ps_if (pt_not (pt_val (pe_m (pv 0) M_Source_skips hr (by first | decide | omega) (fun σ => L2N.passAt tk σ) (pa_cons pe_str pa_nil)))) (pss_one (ps_ret (pe_d D_single_read hr (by first | decide | omega) (fun σ => L2N.passAt tk σ) (by rfl) (pa_cons (pv 0) (pa_cons (pv 1) pa_nil))))) pss_nil) (pss_cons (ps_set (i := 2) sc_under_read.nd rfl (by first | exact Or.inl rfl | exact Or.inr rfl) (pe_d D_expression_from hr (by first | decide | omega) (fun σ => L2N.passAt tk σ) (by rfl) (pa_cons (pv 0) (pa_cons (pv 1) pa_nil)))) (pss_cons (ps_if (pt_cmpR op_ne (pe_ix ix_tup (pv 2) pe_int (fun _ _ => rfl)) pe_str (nomark _)) (pss_one (L2N.ps_raise rfl tk (L2N.pmk_own PySem.F.excBase_ValueError T.x_NoText T.g_NoText T.k_NoText (raises_own T.b_NoText T.t_NoText) rfl))) pss_nil) (pss_cons (ps_expr (pe_m (pv 0) M_Source_goes_past hr (by first | decide | omega) (fun σ => L2N.passAt tk σ) (pa_cons pe_str pa_nil))) (pss_one (ps_ret (pv 2))))))), ?_⟩
  obtain ⟨⟨dx, hp⟩, hi, hz⟩ := id hS
  walk_at "rd"
  simp only [hp]
  walk_at "rd"
  have e0 := underR.eq_def (sgR left.toNat) (exR left.toNat) (rem z i)
  refine ⟨sf_no (by decide +kernel) (by decide +kernel), sk1 sc_lp hS (fun c => ?_) fun c H1 b1 S1 => ?_⟩
  · simp only [if_neg c] at e0
    refine ⟨_, rfl, ?_⟩
    rw [if_pos rfl]
    exact ⟨p, z, i, left, rfl, hn, hS, fun e r h => q1 e r (e0.trans h), fun h => q2 (e0.trans h)⟩
  · simp only [if_pos c, d1] at e0
    refine ⟨_, rfl, ?_⟩
    rw [if_neg (by decide)]
    refine ⟨p, z, i + 1, left, rfl, hn, S1, fun e r he H2 v j b2 S2 hij hr hv => ?_, fun he H2 b2 => ?_⟩
    rotate_left
    · rw [he] at e0
      exact q2 e0 H2 (b1.trans b2)
    subst hr
    rw [he] at e0
    simp only at e0
    have b := b1.trans b2
    obtain ⟨⟨dx1, hp1⟩, _, _⟩ := id S1
    obtain ⟨⟨dx2, hp2⟩, _, _⟩ := id S2
    have hv' : Dp K (dif H1 H2) v e.toD := hv
    have hv2 := hv'
    rw [toD_kids] at hv2
    obtain ⟨a, xs, rfl, hT, hA⟩ := dp_tup hv2
    obtain ⟨v0, rr, rfl, hv0, hA⟩ := dpa_cons hA
    obtain rfl := dp_str hv0
    have hwo := exR_wo _ _ _ _ he
    have hT2 : SqT K H2 a (V.str e.word :: rr) := Same.seqT dif_sub hT
    refine ⟨a, rfl, _, hT2, V.str e.word, atI_nat (j := 0) rfl, rfl, ?_⟩
    by_cases co : e.isOpX = true
    · rw [if_neg (by rw [hwo.mpr co]; exact fun h => h rfl)]
      rw [if_pos co] at e0
      refine ⟨_, _, hp2, sf_no (by decide +kernel) (by decide +kernel), go1 sc_rp S2 (fun c3 => ?_) fun c3 H3 b3 S3 => ?_⟩
      · rw [if_neg c3] at e0
        exact q2 e0 H2 b
      · rw [if_pos c3, d1] at e0
        exact q1 e _ e0 H3 _ (j + 1) (b.trans b3) S3 (by omega) rfl (Dp.same (dif_more hp b3) (Dp.same (dif_back hp1 b1) hv'))
    · rw [if_pos (by rw [V.str.injEq]; exact fun h => co (hwo.mp h))]
      rw [if_neg co] at e0
      exact q2 e0 H2 b
theorem kdct_of {w : World} {K : PySem.W.Frag} {a : Addr} {kvs : List (Str × He.Dv)} {x : Str} {d : He.Dv} (h : ∃ es n, KDict K w a es n) (hv : He.valsB K a kvs = true) (hq : (x, d) ∈ kvs) : KDct K w a x (d.v K) := by
  obtain ⟨es, n, D⟩ := h
  obtain ⟨u, h1, h2⟩ := He.valsB_ok hv hq
  exact ⟨es, n, u, D.at_, D.lit, h1, h2⟩
theorem st_w {a : Tx} {s : Str} : (St a = s) = (a = tl s) := by rw [eq_iff_iff]; exact ⟨fun h => congrArg tl h, fun h => by subst h; rfl⟩
theorem same_new {H : Hp} {a : Addr} {u : HO} (na : H a = none) : Same H (upd H a u) := fun b o h => by rw [upd_ne (ne_of_none h na)]; exact h
theorem inV_strs (z : Str) : ∀ ws : List Str, inV (.str z) (ws.map V.str) = decide (z ∈ ws)
  | [] => rfl
  | a :: r => by
    have := inV_strs z r
    unfold inV at this ⊢
    rw [List.map_cons, List.any_cons, this]
    show ((a == z) || decide (z ∈ r)) = _
    rw [Bool.eq_iff_iff, Bool.or_eq_true, beq_iff_eq, decide_eq_true_eq, decide_eq_true_eq, List.mem_cons]
    constructor
    · rintro (h | h)
      · exact .inl h.symm
      · exact .inr h
    · rintro (h | h)
      · exact .inl h.symm
      · exact .inr h
theorem callsN_some {t : Tx} {k : Nat} (h : callsN t = some k) : (St t, He.Dv.int k) ∈ [(Str.ofString "length", He.Dv.int 1), (Str.ofString "piece", .int 3), (Str.ofString "part", .int 3)] := by
  unfold callsN at h
  split at h
  · rename_i e
    cases h
    rw [e]
    exact List.mem_cons_self
  · split at h
    · rename_i e
      cases h
      rw [e]
      exact List.mem_cons_of_mem _ List.mem_cons_self
    · split at h
      · rename_i e
        cases h
        rw [e]
        exact List.mem_cons_of_mem _ (List.mem_cons_of_mem _ List.mem_cons_self)
      · cases h
theorem callsN_pos {t : Tx} {k : Nat} (h : callsN t = some k) : 0 < k := by
  unfold callsN at h
  split at h
  · cases h
    decide
  · split at h
    · cases h
      decide
    · split at h
      · cases h
        decide
      · cases h
theorem callsN_none {t : Tx} (h : callsN t = none) : ¬ St t ∈ [Str.ofString "length", Str.ofString "piece", Str.ofString "part"] := by
  unfold callsN at h
  simp only [List.mem_cons, st_w, List.not_mem_nil, or_false]
  rintro (e | e | e) <;> (rw [e] at h; revert h; decide +kernel)
theorem isPlaceW_eq {t : Tx} : decide (St t ∈ [Str.ofString "order", Str.ofString "back", Str.ofString "data"]) = isPlaceW t := by
  unfold isPlaceW
  rw [Bool.eq_iff_iff]
  simp only [List.mem_cons, st_w, List.not_mem_nil, or_false, decide_eq_true_eq, Bool.or_eq_true]
  exact or_assoc.symm
theorem if2 {k o A C : Prop} [Decidable k] [Decidable o] (h : k → ¬ o → A) (hc : (k → o) → C) : if k then (if ¬ o then A else C) else C := by
  by_cases hk : k
  · rw [if_pos hk]
    by_cases ho : o
    · rw [if_neg (not_not_intro ho)]
      exact hc fun _ => ho
    · rw [if_pos ho]
      exact h hk ho
  · rw [if_neg hk]
    exact hc fun h => absurd h hk
theorem sc_call_read : FnScope ["source", "left", "word", "found"] ["source", "left"] (defScope s_call_read) := ⟨rfl, rfl, rfl, by decide +kernel, rfl, by decide +kernel, by decide +kernel⟩
theorem ok_call_read (T : Hd w K mg) {k n : Nat} (hk : 3 ≤ k) (M_Source_run_of : Mt P w K mg base 1 (He.ga K "Source") "run_of" (spRun K)) (M_Source_goes_past : Mt P w K mg base 3 (He.ga K "Source") "goes_past" (spGo K)) (D_parts_read : Dn P w K mg base k "parts_read" (spPa K n)) (D_place_read : Dn P w K mg base k "place_read" (spPl K n)) (D_expression_from : Dn P w K mg base k "expression_from" (spEx K n)) : Dn P w K mg base (k + 1) "call_read" (spCa K (n + 1)) := by
  obtain ⟨fd, F⟩ := T.fn_call_read
  refine dn_mk F T.g_call_read (F.binds (ps := ["source", "left"]) fun _ _ _ _ _ _ us hl => match us, hl with | [_, _], _ => rfl) sc_call_read (fun vs H Q E h => ?_) (fun cdv A outer s H vs Q E hr tk h => ?_)
  · obtain ⟨p, z, i, left, rfl, hn, hS, q1, q2⟩ := h
    rfl
  obtain ⟨p, z, i, left, rfl, hn, hS, q1, q2⟩ := h
  refine ⟨_, (pss_cons (ps_set (i := 2) sc_call_read.nd rfl (by first | exact Or.inl rfl | exact Or.inr rfl) (pe_m (pv 0) M_Source_run_of hr (by first | decide | omega) (fun σ => L2N.passAt tk σ) (pa_cons (C8.pe_gc (by rfl) T.c_LETTERS) pa_nil))) (pss_cons (ps_if (pt_cmpR (op_in_kk T.kk_CALLS) (pv 2) (C8.pe_gc (by rfl) T.c_CALLS) rfl) (pss_cons (ps_set (i := 3) sc_call_read.nd rfl (by first | exact Or.inl rfl | exact Or.inr rfl) (pe_d D_parts_read hr (by first | decide | omega) (fun σ => L2N.passAt tk σ) (by rfl) (pa_cons (pv 0) (pa_cons (pe_op op_sub (pv 1) pe_int) pa_nil)))) (pss_cons (ps_if (pt_cmpR op_ne (pe_callB call_len (by rfl) T.f_len (by decide +kernel) (pa_cons (pv 3) pa_nil)) (pe_ix ix_kdict (C8.pe_gc (by rfl) T.c_CALLS) (pv 2) (fun _ _ => rfl)) (nomark _)) (pss_one (L2N.ps_raise rfl tk (L2N.pmk_own PySem.F.excBase_ValueError T.x_NoText T.g_NoText T.k_NoText (raises_own T.b_NoText T.t_NoText) rfl))) pss_nil) (pss_one (ps_ret (pe_op op_catA (pe_tup (pa_cons (pv 2) pa_nil)) (pe_callTy call_tuple_of (by rfl) T.f_tuple (by decide +kernel) (pa_cons (pv 3) pa_nil))))))) pss_nil) (pss_cons (ps_if (PW.pt (pw_and (pt_cmpR op_notIn_seq (pv 2) (C8.pe_gc (by rfl) T.c_PLACES) rfl) (pw_and1 (pt_cmpR op_ne (pv 2) pe_str (nomark _))))) (pss_one (L2N.ps_raise rfl tk (L2N.pmk_own PySem.F.excBase_ValueError T.x_NoText T.g_NoText T.k_NoText (raises_own T.b_NoText T.t_NoText) rfl))) pss_nil) (pss_cons (ps_expr (pe_m (pv 0) M_Source_goes_past hr (by first | decide | omega) (fun σ => L2N.passAt tk σ) (pa_cons pe_str pa_nil))) (pss_cons (ps_set (i := 3) sc_call_read.nd rfl (by first | exact Or.inl rfl | exact Or.inr rfl) (pe_tup (pa_cons (pv 2) (pa_cons (pe_d D_place_read hr (by first | decide | omega) (fun σ => L2N.passAt tk σ) (by rfl) (pa_cons (pv 0) (pa_cons (pe_op op_sub (pv 1) pe_int) pa_nil))) pa_nil)))) (pss_cons (ps_if (pt_cmpR op_eq (pv 2) pe_str (nomark _)) (pss_cons (ps_expr (pe_m (pv 0) M_Source_goes_past hr (by first | decide | omega) (fun σ => L2N.passAt tk σ) (pa_cons pe_str pa_nil))) (pss_one (ps_set (i := 3) sc_call_read.nd rfl (by first | exact Or.inl rfl | exact Or.inr rfl) (pe_op op_catA (pv 3) (pe_tup (pa_cons (pe_d D_expression_from hr (by first | decide | omega) (fun σ => L2N.passAt tk σ) (by rfl) (pa_cons (pv 0) (pa_cons (pe_op op_sub (pv 1) pe_int) pa_nil))) pa_nil)))))) pss_nil) (pss_cons (ps_expr (pe_m (pv 0) M_Source_goes_past hr (by first | decide | omega) (fun σ => L2N.passAt tk σ) (pa_cons pe_str pa_nil))) (pss_one (ps_ret (pv 3)))))))))), ?_⟩
  obtain ⟨⟨dx, hp⟩, hi, hz⟩ := id hS
  walk_at "rd"
  simp only [hp]
  walk_at "rd"
  have e0 := callR.eq_def (exR (left - 1).toNat) (exR (left - 2).toNat) (rem z i)
  refine ⟨sf_no (by decide +kernel) (by decide +kernel), p, z, i, _, rfl, hS, fun H1 b1 S1 => ?_⟩
  have e1 : (fun c => decide (c ∈ tl (Str.ofString "abcdefghijklmnopqrstuvwxyz"))) = isLet := rfl
  rw [e1] at S1 ⊢
  have hwl := takeW_le (z := z) (i := i) isLet
  have hwr : rem z (i + ((rem z i).takeWhile isLet).length) = (rem z i).dropWhile isLet := by rw [rem_drop, drop_takeW]
  generalize hw : (rem z i).takeWhile isLet = t at *
  generalize hj1 : i + t.length = j1 at *
  have hij1 : i ≤ j1 := by omega
  rw [← hwr] at e0
  have hn' : left - 1 ≤ (n : Int) := by omega
  obtain ⟨⟨dx1, hp1⟩, _, _⟩ := id S1
  cases hc : callsN t with
  | some k0 =>
    rw [hc] at e0
    simp only at e0
    have hm := callsN_some hc
    refine ⟨St t, rfl, rfl, _, rfl, ?_⟩
    rw [if_pos (decide_eq_true (by have := List.mem_map_of_mem (f := Prod.fst) hm; exact this))]
    refine ⟨p, z, j1, left - 1, rfl, hn', S1, fun ps r he H3 v j3 b3 S3 hij3 hr hv => ?_, fun he H3 b3 => ?_⟩
    rotate_left
    · rw [he] at e0
      exact q2 e0 H3 (b1.trans b3)
    subst hr
    rw [he] at e0
    simp only at e0
    obtain ⟨a, xs, rfl, hL, hA⟩ := dp_list hv
    have hL3 : SqL K H3 a xs := Same.seq dif_sub hL
    have hlen : xs.length = ps.length := by rw [DpAll.len hA, toDs_len]
    obtain ⟨⟨dx3, hp3⟩, _, _⟩ := id S3
    have b := b1.trans b3
    refine ⟨_, .inl ⟨xs, hL3, rfl⟩, _, _, _, rfl, rfl, kdct_of T.kd_CALLS T.kv_CALLS hm, rfl, ?_⟩
    by_cases cl : ps.length = k0
    · rw [if_pos cl] at e0
      rw [if_neg (by show ¬ ¬ V.int (xs.length : Nat) = V.int (k0 : Nat); rw [hlen, cl]; exact fun h => h rfl)]
      refine ⟨by rw [sizeLine_eq]; omega, fun a1 na1 => ⟨a, rfl, xs, .inl ⟨Same.seq (same_new na1) hL3, fun a2 na2 => ?_⟩⟩⟩
      have Sa : SrcAt K (upd H3 a1 (.tup [V.str (St t)])) p z j3 := SrcAt.new S3 na1
      obtain ⟨⟨dxa, hpa⟩, _, _⟩ := id Sa
      have Sb : SrcAt K (upd (upd H3 a1 (.tup [V.str (St t)])) a2 (.tup xs)) p z j3 := SrcAt.new Sa na2
      obtain ⟨⟨dxb, hpb⟩, _, _⟩ := id Sb
      have bb : But p H (upd (upd H3 a1 (.tup [V.str (St t)])) a2 (.tup xs)) := But.new (But.new b hp3 na1) hpa na2
      have ha1 : upd (upd H3 a1 (.tup [V.str (St t)])) a2 (.tup xs) a1 = some (.tup [V.str (St t)]) := by
        rw [upd_ne (ne_of_none upd_same na2)]
        exact upd_same
      have hk0 := callsN_pos hc
      have hxs : xs ≠ [] := fun h => by rw [h] at hlen; simp at hlen; omega
      have hle : ps.length ≤ z.length := by
        have h1 := partsR_sh (exR_sh _) he
        have h2 := szS_len ps
        simp only [rem_len] at h1
        omega
      refine ⟨_, SqT.of ha1, xs, SqT.of upd_same, by rw [hlen, sizeLine_eq]; simp; omega, fun h => (by cases h), fun _ h => absurd h hxs, fun _ _ a3 na3 => ?_⟩
      refine q1 _ _ e0 _ _ j3 (But.new bb hpb na3) (SrcAt.new Sb na3) (by omega) rfl ?_
      show Dp K _ _ (Ex.toD _)
      rw [Ex.toD]
      exact tup_new na3 (free_of bb hpb na3) (.cons (.str _) (DpAll.same (dif_upd na2) (DpAll.same (dif_upd na1) (DpAll.same (dif_back hp1 b1) hA))))
    · rw [if_neg cl] at e0
      rw [if_pos (by show ¬ V.int (xs.length : Nat) = V.int (k0 : Nat); rw [hlen]; intro h; injection h with h; exact cl (by omega))]
      exact q2 e0 H3 b
  | none =>
    rw [hc] at e0
    simp only at e0
    refine ⟨St t, rfl, rfl, _, rfl, ?_⟩
    rw [if_neg (by rw [decide_eq_true_eq]; exact callsN_none hc)]
    refine ⟨_, _, rfl, .inr (T.tt_PLACES _), rfl, rfl, _, rfl, ?_⟩
    have eP : inV (V.str (St t)) [V.str "order", V.str "back", V.str "data"] = isPlaceW t := (inV_strs (St t) [Str.ofString "order", Str.ofString "back", Str.ofString "data"]).trans isPlaceW_eq
    rw [eP]
    walk_at "rd"
    refine if2 (fun hk ho => ?_) fun hk => ?_
    · rw [if_neg] at e0
      · exact q2 e0 H1 b1
      · rw [st_w] at ho
        rw [Bool.or_eq_true, decide_eq_true_eq]
        rintro (h | h)
        · simp [h] at hk
        · exact ho h
    have hk2 : (isPlaceW t || decide (t = tl (Str.ofString "other"))) = true := by
      cases h : isPlaceW t with
      | true => rfl
      | false =>
        have := hk h
        rw [st_w] at this
        rw [Bool.false_or, decide_eq_true_eq]
        exact this
    rw [if_pos hk2] at e0
    refine ⟨_, _, hp1, sf_no (by decide +kernel) (by decide +kernel), go1 sc_lp S1 (fun c1 => ?_) fun c1 H2 b2 S2 => ?_⟩
    · rw [if_neg c1] at e0
      exact q2 e0 H1 b1
    rw [if_pos c1, d1] at e0
    obtain ⟨⟨dx2, hp2⟩, _, _⟩ := id S2
    have b12 := b1.trans b2
    have el : left - 2 = left - 1 - 1 := by omega
    rw [el] at e0
    refine ⟨p, z, j1 + 1, left - 1, rfl, by omega, S2, fun pl r he H3 v j3 b3 S3 hij3 hr hv => ?_, fun he H3 b3 => ?_⟩
    rotate_left
    · rw [he] at e0
      refine q2 ?_ H3 (b12.trans b3)
      rw [el]
      exact e0
    subst hr
    rw [he] at e0
    simp only at e0
    obtain ⟨⟨dx3, hp3⟩, _, _⟩ := id S3
    have b := b12.trans b3
    refine ⟨by rw [sizeLine_eq]; omega, fun a1 na1 => ?_⟩
    have Sa : SrcAt K (upd H3 a1 (.tup [V.str (St t), v])) p z j3 := SrcAt.new S3 na1
    have ba : But p H (upd H3 a1 (.tup [V.str (St t), v])) := But.new b hp3 na1
    obtain ⟨⟨dxa, hpa⟩, _, _⟩ := id Sa
    have hv1 : Dp K (dif H (upd H3 a1 (.tup [V.str (St t), v]))) v pl.toD := Dp.same (dif_upd na1) (Dp.same (dif_back hp2 b12) hv)
    have hap : a1 ≠ p := fun e => by subst e; rw [na1] at hp3; cases hp3
    have ha : H a1 = none := free_of b hp3 na1
    by_cases co : t = tl (Str.ofString "other")
    · rw [if_pos co] at e0
      rw [if_pos (by rw [st_w]; exact co)]
      refine ⟨_, _, hpa, sf_no (by decide +kernel) (by decide +kernel), go1 sc_co Sa (fun c4 => ?_) fun c4 H4 b4 S4 => ?_⟩
      · rw [if_neg c4] at e0
        refine q2 ?_ _ ba
        rw [el]
        exact e0
      rw [if_pos c4, d1] at e0
      obtain ⟨⟨dx4, hp4⟩, _, _⟩ := id S4
      have b04 := ba.trans b4
      have ha4 := b4 a1 _ upd_same hap
      refine ⟨p, z, j3 + 1, left - 1, rfl, hn', S4, fun ex r he5 H5 v5 j5 b5 S5 hij5 hr hv5 => ?_, fun he5 H5 b5 => ?_⟩
      rotate_left
      · rw [he5] at e0
        refine q2 ?_ H5 (b04.trans b5)
        rw [el]
        exact e0
      subst hr
      rw [he5] at e0
      simp only at e0
      obtain ⟨⟨dx5, hp5⟩, _, _⟩ := id S5
      have b05 := b04.trans b5
      have ha5 := b5 a1 _ ha4 hap
      have hv6 : Dp K (dif H H5) v pl.toD := Dp.same (dif_more hp b5) (Dp.same (dif_more hp b4) hv1)
      have hv7 : Dp K (dif H H5) v5 ex.toD := Dp.same (dif_back hp4 b04) hv5
      refine ⟨by rw [sizeLine_eq]; omega, fun a2 na2 => ?_⟩
      have S6 : SrcAt K (upd H5 a2 (.tup [v5])) p z j5 := SrcAt.new S5 na2
      have b06 : But p H (upd H5 a2 (.tup [v5])) := But.new b05 hp5 na2
      obtain ⟨⟨dx6, hp6⟩, _, _⟩ := id S6
      have ha6 : upd H5 a2 (.tup [v5]) a1 = some (.tup [V.str (St t), v]) := by
        rw [upd_ne (ne_of_none ha5 na2)]
        exact ha5
      refine ⟨_, SqT.of ha6, _, SqT.of upd_same, by rw [sizeLine_eq]; simp, fun h => (by cases h), fun _ h => (by cases h), fun _ _ a3 na3 => ?_⟩
      have S7 : SrcAt K (upd (upd H5 a2 (.tup [v5])) a3 (.tup ([V.str (St t), v] ++ [v5]))) p z j5 := SrcAt.new S6 na3
      have b07 : But p H (upd (upd H5 a2 (.tup [v5])) a3 (.tup ([V.str (St t), v] ++ [v5]))) := But.new b06 hp6 na3
      obtain ⟨⟨dx7, hp7⟩, _, _⟩ := id S7
      refine ⟨_, _, hp7, sf_no (by decide +kernel) (by decide +kernel), go1 sc_rp S7 (fun c8 => ?_) fun c8 H8 b8 S8 => ?_⟩
      · rw [if_neg c8] at e0
        refine q2 ?_ _ b07
        rw [el]
        exact e0
      · rw [if_pos c8, d1] at e0
        refine q1 _ _ (by rw [el]; exact e0) H8 _ _ (b07.trans b8) S8 (by omega) rfl (Dp.same (dif_more hp b8) ?_)
        rw [Ex.toD, toDs, toDs, toDs]
        exact tup_new na3 (free_of b06 hp6 na3) (.cons (.str _) (.cons (Dp.same (dif_upd na2) hv6) (.cons (Dp.same (dif_upd na2) hv7) .nil)))
    · rw [if_neg co] at e0
      rw [if_neg (by rw [st_w]; exact co)]
      refine ⟨_, _, hpa, sf_no (by decide +kernel) (by decide +kernel), go1 sc_rp Sa (fun c8 => ?_) fun c8 H8 b8 S8 => ?_⟩
      · rw [if_neg c8] at e0
        refine q2 ?_ _ ba
        rw [el]
        exact e0
      · rw [if_pos c8, d1] at e0
        refine q1 _ _ (by rw [el]; exact e0) H8 _ _ (ba.trans b8) S8 (by omega) rfl (Dp.same (dif_more hp b8) ?_)
        rw [Ex.toD, toDs, toDs]
        exact tup_new na1 ha (.cons (.str _) (.cons (Dp.same (dif_back hp2 b12) hv) .nil))
theorem or3 {x : Tx} {W B : Prop} (hx : x.length ≤ 1) (hW : (x = [34] ∨ x.any isFig = true) → W) (hB : ¬ (x = [34] ∨ x.any isFig = true) → B) :
    (if St x = Str.ofString "\"" then W else if ¬ St x = Str.ofString "" then ∃ c, St x = ⟨#[c]⟩ ∧ (if c ∈ (Str.ofString "0123456789").cps.toList then W else B) else B) := by
  simp only [sc_q, sc_emp, st_eq]
  match x, hx with
  | [], _ =>
    rw [if_neg (by simp), if_neg (by simp)]
    exact hB (by simp)
  | [c], _ =>
    by_cases h : [c] = [34]
    · rw [if_pos h]
      exact hW (.inl h)
    · rw [if_neg h, if_pos (by simp)]
      refine ⟨c, rfl, ?_⟩
      have e : (c ∈ (Str.ofString "0123456789").cps.toList) = (isFig c = true) := by unfold isFig figures; rw [decide_eq_true_eq]; rfl
      simp only [e]
      by_cases hf : isFig c = true
      · rw [if_pos hf]
        exact hW (.inr (by simpa using hf))
      · rw [if_neg hf]
        exact hB (by rintro (h1 | h1); exact h h1; exact hf (by simpa using h1))
  | _ :: _ :: _, h => exact absurd h (by simp)
theorem sc_single_read : FnScope ["source", "left", "sign"] ["source", "left"] (defScope s_single_read) := ⟨rfl, rfl, rfl, by decide +kernel, rfl, by decide +kernel, by decide +kernel⟩
theorem ok_single_read (T : Hd w K mg) {k n : Nat} (hk : 5 ≤ k) (M_Source_next_sign : Mt P w K mg base 1 (He.ga K "Source") "next_sign" (spNx K)) (M_Source_skips : Mt P w K mg base 2 (He.ga K "Source") "skips" (spSk K)) (D_worth_read : Dn P w K mg base 5 "worth_read" (spWoR K)) (D_under_read : Dn P w K mg base k "under_read" (spUn K n)) (D_call_read : Dn P w K mg base k "call_read" (spCa K (n + 1))) (D_place_read : Dn P w K mg base k "place_read" (spPl K (n + 1))) : Dn P w K mg base (k + 1) "single_read" (spSg K (n + 1)) := by
  obtain ⟨fd, F⟩ := T.fn_single_read
  refine dn_mk F T.g_single_read (F.binds (ps := ["source", "left"]) fun _ _ _ _ _ _ us hl => match us, hl with | [_, _], _ => rfl) sc_single_read (fun vs H Q E h => ?_) (fun cdv A outer s H vs Q E hr tk h => ?_)
  · obtain ⟨p, z, i, left, rfl, hn, hS, q1, q2⟩ := h
    rfl
  obtain ⟨p, z, i, left, rfl, hn, hS, q1, q2⟩ := h
  refine ⟨_, (pss_cons (ps_if (pt_cmpR op_lt (pv 1) pe_int (nomark _)) (pss_one (L2N.ps_raise rfl tk (L2N.pmk_own PySem.F.excBase_ValueError T.x_NoText T.g_NoText T.k_NoText (raises_own T.b_NoText T.t_NoText) rfl))) pss_nil) (pss_cons (ps_set (i := 2) sc_single_read.nd rfl (by first | exact Or.inl rfl | exact Or.inr rfl) (pe_m0 (pv 0) M_Source_next_sign hr (by first | decide | omega) (fun σ => L2N.passAt tk σ))) (pss_cons (ps_if (PW.pt (pw_or (pt_cmpR op_eq (pv 2) pe_str (nomark _)) (pw_or1 (PW.pt (pw_and (pt_cmpR op_ne (pv 2) pe_str (nomark _)) (pw_and1 (pt_cmpR op_in_sign (pv 2) (C8.pe_gc (by rfl) T.c_FIGURES) rfl))))))) (pss_one (ps_ret (pe_tup (pa_cons pe_str (pa_cons (pe_d D_worth_read hr (by first | decide | omega) (fun σ => L2N.passAt tk σ) (by rfl) (pa_cons (pv 0) pa_nil)) pa_nil))))) pss_nil) (pss_cons (ps_if (pt_val (pe_m (pv 0) M_Source_skips hr (by first | decide | omega) (fun σ => L2N.passAt tk σ) (pa_cons pe_str pa_nil))) (pss_one (ps_ret (pe_tup (pa_cons pe_str (pa_cons (pe_d D_under_read hr (by first | decide | omega) (fun σ => L2N.passAt tk σ) (by rfl) (pa_cons (pv 0) (pa_cons (pe_op op_sub (pv 1) pe_int) pa_nil))) pa_nil))))) pss_nil) (pss_cons (ps_if (pt_val (pe_m (pv 0) M_Source_skips hr (by first | decide | omega) (fun σ => L2N.passAt tk σ) (pa_cons pe_str pa_nil))) (pss_one (ps_ret (pe_tup (pa_cons pe_str (pa_cons (pe_d D_under_read hr (by first | decide | omega) (fun σ => L2N.passAt tk σ) (by rfl) (pa_cons (pv 0) (pa_cons (pe_op op_sub (pv 1) pe_int) pa_nil))) pa_nil))))) pss_nil) (pss_cons (ps_if (pt_val (pe_m (pv 0) M_Source_skips hr (by first | decide | omega) (fun σ => L2N.passAt tk σ) (pa_cons pe_str pa_nil))) (pss_one (ps_ret (pe_d D_call_read hr (by first | decide | omega) (fun σ => L2N.passAt tk σ) (by rfl) (pa_cons (pv 0) (pa_cons (pv 1) pa_nil))))) pss_nil) (pss_one (ps_ret (pe_d D_place_read hr (by first | decide | omega) (fun σ => L2N.passAt tk σ) (by rfl) (pa_cons (pv 0) (pa_cons (pv 1) pa_nil))))))))))), ?_⟩
  obtain ⟨⟨dx, hp⟩, hi, hz⟩ := id hS
  walk_at "rd"
  by_cases hl : left < 1
  · rw [if_pos hl]
    refine q2 ?_ H But.refl
    rw [show left.toNat = 0 by omega, sgR_zero]
  rw [if_neg hl]
  have e0 := congrFun (sgR_succ (left - 1).toNat) (rem z i)
  rw [show (left - 1).toNat + 1 = left.toNat by omega] at e0
  rw [singleR.eq_def] at e0
  simp only [hp]
  walk_at "rd"
  refine ⟨sf_no (by decide +kernel) (by decide +kernel), p, z, i, rfl, hS, ?_⟩
  walk_at "rd"
  refine or3 (by rw [List.length_take]; omega) (fun c => ?_) fun c => ?_
  · rw [if_pos c] at e0
    refine ⟨p, z, i, rfl, hS, fun wo r he H2 v j b2 S2 hij hr hv => ?_, fun he H2 b2 => ?_⟩
    rotate_left
    · rw [he] at e0
      exact q2 e0 H2 b2
    subst hr
    obtain rfl : v = _ := hv
    rw [he] at e0
    obtain ⟨⟨dx2, hp2⟩, _, _⟩ := id S2
    refine ⟨by rw [sizeLine_eq]; omega, fun a na => q1 _ _ e0 _ _ j (But.new b2 hp2 na) (SrcAt.new S2 na) hij rfl ?_⟩
    show Dp K _ _ (Ex.toD _)
    rw [Ex.toD]
    exact tup_new na (free_of b2 hp2 na) (.cons (.str _) (.cons (.str _) .nil))
  rw [if_neg c] at e0
  have hn' : left - 1 ≤ (n : Int) := by omega
  refine ⟨_, _, hp, sf_no (by decide +kernel) (by decide +kernel), sk1 sc_ap hS (fun c1 => ?_) fun c1 H1 b1 S1 => ?_⟩
  rotate_left
  · rw [if_pos c1, d1] at e0
    obtain ⟨⟨dx1, hp1⟩, _, _⟩ := id S1
    refine ⟨true, rfl, ?_⟩
    rw [if_pos rfl]
    refine ⟨p, z, i + 1, left - 1, rfl, hn', S1, fun ex r he H2 v j b2 S2 hij hr hv => ?_, fun he H2 b2 => ?_⟩
    rotate_left
    · unfold unR at he
      rw [he] at e0
      exact q2 e0 H2 (b1.trans b2)
    subst hr
    unfold unR at he
    rw [he] at e0
    obtain ⟨⟨dx2, hp2⟩, _, _⟩ := id S2
    have b := b1.trans b2
    refine ⟨by rw [sizeLine_eq]; omega, fun a na => q1 _ _ e0 _ _ j (But.new b hp2 na) (SrcAt.new S2 na) (by omega) rfl ?_⟩
    show Dp K _ _ (Ex.toD _)
    rw [Ex.toD]
    exact tup_new na (free_of b hp2 na) (.cons (.str _) (.cons (Dp.same (dif_back hp1 b1) hv) .nil))
  rw [if_neg c1] at e0
  refine ⟨false, rfl, ?_⟩
  rw [if_neg (by decide)]
  refine ⟨_, _, hp, sf_no (by decide +kernel) (by decide +kernel), sk1 sc_mi hS (fun c2 => ?_) fun c2 H1 b1 S1 => ?_⟩
  rotate_left
  · rw [if_pos c2, d1] at e0
    obtain ⟨⟨dx1, hp1⟩, _, _⟩ := id S1
    refine ⟨true, rfl, ?_⟩
    rw [if_pos rfl]
    refine ⟨p, z, i + 1, left - 1, rfl, hn', S1, fun ex r he H2 v j b2 S2 hij hr hv => ?_, fun he H2 b2 => ?_⟩
    rotate_left
    · unfold unR at he
      rw [he] at e0
      exact q2 e0 H2 (b1.trans b2)
    subst hr
    unfold unR at he
    rw [he] at e0
    obtain ⟨⟨dx2, hp2⟩, _, _⟩ := id S2
    have b := b1.trans b2
    refine ⟨by rw [sizeLine_eq]; omega, fun a na => q1 _ _ e0 _ _ j (But.new b hp2 na) (SrcAt.new S2 na) (by omega) rfl ?_⟩
    show Dp K _ _ (Ex.toD _)
    rw [Ex.toD]
    exact tup_new na (free_of b hp2 na) (.cons (.str _) (.cons (Dp.same (dif_back hp1 b1) hv) .nil))
  rw [if_neg c2] at e0
  refine ⟨false, rfl, ?_⟩
  rw [if_neg (by decide)]
  refine ⟨_, _, hp, sf_no (by decide +kernel) (by decide +kernel), sk1 sc_do hS (fun c3 => ?_) fun c3 H1 b1 S1 => ?_⟩
  · rw [if_neg c3] at e0
    refine ⟨false, rfl, ?_⟩
    rw [if_neg (by decide)]
    exact ⟨p, z, i, left, rfl, hn, hS, fun e r h => q1 e r (e0.trans h), fun h => q2 (e0.trans h)⟩
  · rw [if_pos c3, d1] at e0
    rw [show (left - 1).toNat - 1 = (left - 2).toNat by omega] at e0
    obtain ⟨⟨dx1, hp1⟩, _, _⟩ := id S1
    refine ⟨true, rfl, ?_⟩
    rw [if_pos rfl]
    exact ⟨p, z, i + 1, left, rfl, hn, S1, fun e r h H' v j b S hij hr hv => q1 e r (e0.trans h) H' v j (b1.trans b) S (by omega) hr (Dp.same (dif_back hp1 b1) hv), fun h H' b => q2 (e0.trans h) H' (b1.trans b)⟩
end
end Sk

/-! ## C6 -/
namespace Sk
open PySem PySem.Spec PyProof.Rows L2
set_option hygiene false in
local macro_rules | `(tactic| walk_at "rd") => `(tactic| simp only [tVar, tC, tB, tAnd, tOr, tNot, tAndV, tOrV, tNotV, tIf, tNext, tSeq, tBreak, tCont, tDrop, tRet, tRetN, tIfS, tAsg, tAug, tOp, tUn, tTest, tChain, tFld, sFldAug, sFld, rAdd, tNil, tCons, tTup, tLst, tCB, tNoPart, tPart, tSl, tBM0, tBM, tYes, tM0, tM1, CwR.tReplC, tCallS, tMethS, tMakeS, gName, wipe, tyV, gTup, gCons, gNil,
  rI, rI0, rEq, rNe, scal, rPlus, rPlusI, rPlusS, rCat, rCatA, rIx, rIxL, rIxT, rIxS, rSl, rSlS, rSlL, rSlA, iPlus, iPlusI, iPlusS, ipI, rAll, rAny, LenV, WE, E0, rAppend,
  L2.start, List.map_cons, List.map_nil, List.length_cons, List.length_nil, Nat.zero_add, Nat.add_zero, Nat.reduceAdd, Nat.reduceSub, Nat.sub_self, List.replicate_zero, List.replicate_succ, List.append_nil, List.nil_append, List.cons_append, List.getElem?_cons_zero, List.getElem?_cons_succ, List.set_cons_zero, List.set_cons_succ, Option.some.injEq,
  V.int.injEq, V.str.injEq, V.bl.injEq, V.ref.injEq, V.ty.injEq, HO.ins.injEq, HO.lst.injEq, HO.tup.injEq, List.cons.injEq, reduceCtorEq, false_and, and_false, true_and, and_true, and_assoc, exists_const, exists_false, false_or, or_false, exists_eq_left', exists_eq_left, exists_eq_right, exists_eq_right', exists_and_left, ↓reduceIte, decide_eq_true_eq, Bool.not_eq_true', decide_eq_false_iff_not, if_true, if_false, cxOf, and_self, Bool.not_true, Bool.not_false, Bool.false_eq_true,
  sf_signs, sf_spot, sf_put, T.cl_Source, T.na_Source_signs, T.na_Source_spot, sg_inj, upd_same, rIsS, tyN, kb1, kb2, kb3, kb4, kb5, kb6, kb7, kb8, kb9, kb10, kb11, kb12, kb13, kb14, kb15, kb16, kb17, kb18, kb19, kb20, kb21, tDNewK, rPowW])
def tailX (U : Rd1 Ex) (n k : Nat) (f : Ex) (l : Tx) : Option (Ex × Tx) := match opsTail U k f l with
  | some (g, r2) => if g.dep ≤ n then some (g, r2) else none
  | none => none
theorem tailX_end {U : Rd1 Ex} {n k : Nat} {f : Ex} {l : Tx} (h : ¬ (l.take 1).any isOp = true) : tailX U n k f l = if f.dep ≤ n then some (f, l) else none := by
  unfold tailX
  cases k with
  | zero => rw [opsTail, if_neg h]
  | succ k => rw [opsTail, if_neg h]
theorem tailX_zero {U : Rd1 Ex} {n : Nat} {f : Ex} {l : Tx} (h : (l.take 1).any isOp = true) : tailX U n 0 f l = none := by
  unfold tailX
  rw [opsTail, if_pos h]
theorem tailX_more {U : Rd1 Ex} {n k : Nat} {f : Ex} {l : Tx} (h : (l.take 1).any isOp = true) : tailX U n (k + 1) f l = match U (l.drop 1) with
    | some (e, r) => tailX U n k (.op (l.headD 0) f e) r
    | none => none := by
  unfold tailX
  rw [opsTail, if_pos h]
  cases U (l.drop 1) <;> rfl
theorem exR_eq {m : Nat} {l : Tx} : exR (m + 1) l = match sgR (m + 1) l with
    | some (s, r) => if (r.take 1).any isOp = true then tailX (unR m) (m + 1) 39 s r else some (s, r)
    | none => none := by
  rw [exR_succ]
  rfl
section
variable {P : Program} {w : World} {K : PySem.W.Frag} {mg : Str → Option Value} {base : Heap}
def ExI (K : PySem.W.Frag) (p : Addr) (z : Str) (i : Nat) (left : Int) (H : Hp) (j m : Nat) (f : Ex) (v : V) (σ' : SS) (H' : Hp) : Prop :=
  (∃ u, σ' = [some (.ref p), some (.int left), some v, some (.int (m : Int)), u]) ∧ SrcAt K H' p z j ∧ i ≤ j ∧ But p H H' ∧ Dp K (dif H H') v f.toD ∧ f.sz + (rem z j).length ≤ (rem z i).length ∧ m ≤ 39 ∧
    exR left.toNat (rem z i) = if m = 0 ∧ ¬ ((rem z j).take 1).any isOp = true then some (f, rem z j) else tailX (unR (left - 1).toNat) left.toNat (39 - m) f (rem z j)
def ExN (K : PySem.W.Frag) (p : Addr) (z : Str) (i : Nat) (left : Int) (H : Hp) (k : Nat) (σ' : SS) (H' : Hp) : Prop := ∃ j m f v, (rem z j).length < k ∧ ExI K p z i left H j m f v σ' H'
def ExW (K : PySem.W.Frag) (p : Addr) (z : Str) (i : Nat) (left : Int) (H : Hp) (k : Nat) (σ' : SS) (H' : Hp) : Prop := ∃ j m f v, k = (rem z j).length ∧ ExI K p z i left H j m f v σ' H'
theorem sc_expression_from : FnScope ["source", "left", "found", "many", "sign"] ["source", "left"] (defScope s_expression_from) := ⟨rfl, rfl, rfl, by decide +kernel, rfl, by decide +kernel, by decide +kernel⟩
theorem ok_expression_from (T : Hd w K mg) {k n : Nat} (hk : 3 ≤ k) (M_Source_next_sign : Mt P w K mg base 1 (He.ga K "Source") "next_sign" (spNx K)) (M_Source_goes_past : Mt P w K mg base 3 (He.ga K "Source") "goes_past" (spGo K)) (D_single_read : Dn P w K mg base k "single_read" (spSg K (n + 1))) (D_under_read : Dn P w K mg base k "under_read" (spUn K n)) (D_is_within : Dn P w K mg base k "is_within" (spWi K 0 (n + 1))) : Dn P w K mg base (k + 1) "expression_from" (spEx K (n + 1)) := by
  obtain ⟨fd, F⟩ := T.fn_expression_from
  refine dn_mk F T.g_expression_from (F.binds (ps := ["source", "left"]) fun _ _ _ _ _ _ us hl => match us, hl with | [_, _], _ => rfl) sc_expression_from (fun vs H Q E h => ?_) (fun cdv A outer s H vs Q E hr tk h => ?_)
  · obtain ⟨p, z, i, left, rfl, hn, hS, q1, q2⟩ := h
    rfl
  obtain ⟨p, z, i, left, rfl, hn, hS, q1, q2⟩ := h
  refine ⟨_, (pss_cons (ps_set (i := 2) sc_expression_from.nd rfl (by first | exact Or.inl rfl | exact Or.inr rfl) (pe_d D_single_read hr (by first | decide | omega) (fun σ => L2N.passAt tk σ) (by rfl) (pa_cons (pv 0) (pa_cons (pv 1) pa_nil)))) (pss_cons (ps_set (i := 3) sc_expression_from.nd rfl (by first | exact Or.inl rfl | exact Or.inr rfl) pe_int) (pss_cons (ps_while (passes_of rfl) (PW.pt (pw_and (pt_cmpR op_ne (pe_m0 (pv 0) M_Source_next_sign hr (by first | decide | omega) (fun σ => L2N.passAt tk σ)) pe_str (nomark _)) (pw_and1 (pt_cmpR op_in_sign (pe_m0 (pv 0) M_Source_next_sign hr (by first | decide | omega) (fun σ => L2N.passAt tk σ)) (C8.pe_gc (by rfl) T.c_OPS) rfl)))) (pss_cons (ps_aug (i := 3) sc_expression_from.nd rfl (by first | exact Or.inl rfl | exact Or.inr rfl) pe_int ip_add) (pss_cons (ps_if (pt_cmpR op_eq (pv 3) (C8.pe_gc (by rfl) T.c_MOST_LEVELS) (nomark _)) (pss_one (L2N.ps_raise rfl tk (L2N.pmk_own PySem.F.excBase_ValueError T.x_NoText T.g_NoText T.k_NoText (raises_own T.b_NoText T.t_NoText) rfl))) pss_nil) (pss_cons (ps_set (i := 4) sc_expression_from.nd rfl (by first | exact Or.inl rfl | exact Or.inr rfl) (pe_m0 (pv 0) M_Source_next_sign hr (by first | decide | omega) (fun σ => L2N.passAt tk σ))) (pss_cons (ps_expr (pe_m (pv 0) M_Source_goes_past hr (by first | decide | omega) (fun σ => L2N.passAt tk σ) (pa_cons (pv 4) pa_nil))) (pss_one (ps_set (i := 2) sc_expression_from.nd rfl (by first | exact Or.inl rfl | exact Or.inr rfl) (pe_tup (pa_cons pe_str (pa_cons (pv 4) (pa_cons (pv 2) (pa_cons (pe_d D_under_read hr (by first | decide | omega) (fun σ => L2N.passAt tk σ) (by rfl) (pa_cons (pv 0) (pa_cons (pe_op op_sub (pv 1) pe_int) pa_nil))) pa_nil)))))))))))) (pss_cons (ps_if (PW.pt (pw_and (pt_cmpR op_gt (pv 3) pe_int (nomark _)) (pw_and1 (pt_not (pt_val (pe_d D_is_within hr (by first | decide | omega) (fun σ => L2N.passAt tk σ) (by rfl) (pa_cons (pv 2) (pa_cons (pv 1) pa_nil)))))))) (pss_one (L2N.ps_raise rfl tk (L2N.pmk_own PySem.F.excBase_ValueError T.x_NoText T.g_NoText T.k_NoText (raises_own T.b_NoText T.t_NoText) rfl))) pss_nil) (pss_one (ps_ret (pv 2))))))), ?_⟩
  obtain ⟨⟨dx, hp⟩, hi, hz⟩ := id hS
  walk_at "rd"
  refine ⟨p, z, i, left, rfl, hn, hS, fun s r he H1 v j b1 S1 hij hr hv => ?_, fun he H1 b1 => ?_⟩
  rotate_left
  · refine q2 ?_ H1 b1
    by_cases hl : left < 1
    · rw [show left.toNat = 0 by omega, exR_zero]
    · rw [show left.toNat = (left - 1).toNat + 1 by omega] at he ⊢
      rw [exR_eq, he]
  subst hr
  have hl : ¬ left < 1 := fun h => by
    rw [show left.toNat = 0 by omega, sgR_zero] at he
    cases he
  have e0 := exR_eq (m := (left - 1).toNat) (l := rem z i)
  rw [show (left - 1).toNat + 1 = left.toNat by omega, he] at e0
  simp only at e0
  refine while_w (ExW K p z i left H) _ ⟨j, 0, s, v, rfl, ⟨_, rfl⟩, S1, hij, b1, hv, sgR_sh _ _ _ _ he, by omega, ?_⟩ ?_
  · rw [e0]
    by_cases c : ((rem z j).take 1).any isOp = true
    · rw [if_pos c, if_neg (by simp [c])]
    · rw [if_neg c, if_pos ⟨rfl, c⟩]
  rintro k0 σ H2 ⟨j2, m, f, v2, rfl, ⟨u, rfl⟩, S2, hij2, b2, hv2, hsz, hm, e2⟩
  obtain ⟨⟨dx2, hp2⟩, _, _⟩ := id S2
  walk_at "rd"
  simp only [hp2]
  walk_at "rd"
  have hE : ∀ X : XK, ¬ ((rem z j2).take 1).any isOp = true → (if (0 : Int) < (m : Int) then spWi K 0 (n + 1) [v2, V.int left] H2 (fun x H1 => ∃ c, x = V.bl c ∧ if c = false then E (Value.ref (He.ga K (Str.ofString "NoText"))) none H1 else Q v2 H1) X else Q v2 H2) := fun X c => by
    by_cases hm0 : m = 0
    · rw [if_neg (by omega)]
      rw [if_pos ⟨hm0, c⟩] at e2
      exact q1 _ _ e2 H2 v2 j2 b2 S2 hij2 rfl hv2
    · rw [if_pos (by omega)]
      rw [if_neg (fun h => hm0 h.1), tailX_end c] at e2
      refine ⟨v2, left, rfl, .inr (.inl ⟨f, Dp.same dif_sub hv2, by rw [rem_len] at hsz; rw [rem_len] at hsz; omega, hn, fun H3 s3 => ⟨_, rfl, ?_⟩⟩)⟩
      by_cases hd : f.dep ≤ left.toNat
      · rw [if_pos hd] at e2
        rw [if_neg (by simp [hd])]
        obtain ⟨h1, h2⟩ := S2
        exact q1 _ _ e2 H3 v2 j2 (b2.trans (But.of s3)) ⟨⟨dx2, s3 _ _ hp2⟩, h2⟩ hij2 rfl (Dp.same (dif_more hp (But.of s3)) hv2)
      · rw [if_neg hd] at e2
        rw [if_pos (by simp [hd])]
        exact q2 e2 H3 (b2.trans (But.of s3))
  refine ⟨sf_no (by decide +kernel) (by decide +kernel), p, z, j2, rfl, S2, ?_⟩
  walk_at "rd"
  rw [sc_emp]
  simp only [st_eq]
  cases ht : rem z j2 with
  | nil =>
    rw [ht] at hE
    rw [if_neg (by simp)]
    exact hE _ (by simp)
  | cons c r =>
    rw [if_pos (by simp)]
    simp only [hp2]
    walk_at "rd"
    refine ⟨sf_no (by decide +kernel) (by decide +kernel), p, z, j2, rfl, S2, ?_⟩
    rw [ht]
    refine ⟨c, rfl, ?_⟩
    have e9 : (c ∈ (Str.ofString "+-*/#<>=_[]&!").cps.toList) = (isOp c = true) := by unfold isOp opsL; rw [decide_eq_true_eq]; rfl
    simp only [e9]
    have ea : ((rem z j2).take 1).any isOp = isOp c := by rw [ht]; simp
    have eh : (rem z j2).headD 0 = c := by rw [ht]; rfl
    have et : (rem z j2).take 1 = [c] := by rw [ht]; rfl
    by_cases hop : isOp c = true
    · rw [if_pos hop]
      have hany : ((rem z j2).take 1).any isOp = true := by rw [ea]; exact hop
      rw [if_neg (fun h => h.2 hany)] at e2
      refine ⟨ExN K p z i left H (rem z j2).length, fun σ' H' h => ?_, ?_⟩
      · obtain ⟨j', m', f', v', hm', h⟩ := h
        exact ⟨_, by rw [ht] at hm'; exact hm', j', m', f', v', rfl, h⟩
      by_cases h40 : (m : Int) + 1 = 40
      · rw [if_pos h40]
        rw [show 39 - m = 0 by omega, tailX_zero hany] at e2
        exact q2 e2 H2 b2
      · rw [if_neg h40]
        rw [show 39 - m = 39 - (m + 1) + 1 by omega, tailX_more hany, d1, eh] at e2
        refine ⟨_, _, hp2, sf_no (by decide +kernel) (by decide +kernel), p, z, j2, rfl, S2, ?_⟩
        refine ⟨_, _, hp2, sf_no (by decide +kernel) (by decide +kernel), go1 (c := c) (by rw [et]) S2 (fun cc => absurd et cc) fun _ H3 b3 S3 => ?_⟩
        obtain ⟨⟨dx3, hp3⟩, _, _⟩ := id S3
        have b23 := b2.trans b3
        refine ⟨p, z, j2 + 1, left - 1, rfl, by omega, S3, fun ex r he4 H4 v4 j4 b4 S4 hij4 hr4 hv4 => ?_, fun he4 H4 b4 => ?_⟩
        rotate_left
        · rw [he4] at e2
          exact q2 e2 H4 (b23.trans b4)
        subst hr4
        rw [he4] at e2
        simp only at e2
        obtain ⟨⟨dx4, hp4⟩, _, _⟩ := id S4
        have b24 := b23.trans b4
        have hsz4 := underR_sh (sgR_sh _) (exR_sh _) _ _ _ he4
        have hlen : (rem z j2).length = (rem z (j2 + 1)).length + 1 := by rw [← d1]; exact tkAny hany
        refine ⟨by rw [sizeLine_eq]; omega, fun a na => ⟨j4, m + 1, .op c f ex, _, by omega, ⟨_, rfl⟩, SrcAt.new S4 na, by omega, But.new b24 hp4 na, ?_, ?_, by omega, ?_⟩⟩
        · rw [Ex.toD, et]
          exact tup_new na (free_of b24 hp4 na) (.cons (.str _) (.cons (.str _) (.cons (Dp.same (dif_more hp b4) (Dp.same (dif_more hp b3) hv2)) (.cons (Dp.same (dif_back hp3 b23) hv4) .nil))))
        · rw [Ex.sz]
          omega
        · rw [if_neg (fun h => by omega)]
          exact e2
    · rw [if_neg hop]
      exact hE _ (by rw [ea]; exact hop)
theorem Dn.false_under_read (T : Hd w K mg) (k : Nat) : Dn P w K mg base k "under_read" (fun _ _ _ _ => False) := by
  obtain ⟨fd, F⟩ := T.fn_under_read
  exact ⟨_, fd, ["source", "left"], ⟨fun _ _ _ _ h => h.elim, fun _ _ _ _ _ _ _ _ _ _ _ _ _ h => h.elim⟩, T.g_under_read, F.kp, F.binds (ps := ["source", "left"]) fun _ _ _ _ _ _ us hl => match us, hl with | [_, _], _ => rfl⟩
theorem Dn.false_call_read (T : Hd w K mg) (k : Nat) : Dn P w K mg base k "call_read" (fun _ _ _ _ => False) := by
  obtain ⟨fd, F⟩ := T.fn_call_read
  exact ⟨_, fd, ["source", "left"], ⟨fun _ _ _ _ h => h.elim, fun _ _ _ _ _ _ _ _ _ _ _ _ _ h => h.elim⟩, T.g_call_read, F.kp, F.binds (ps := ["source", "left"]) fun _ _ _ _ _ _ us hl => match us, hl with | [_, _], _ => rfl⟩
theorem Dn.false_place_read (T : Hd w K mg) (k : Nat) : Dn P w K mg base k "place_read" (fun _ _ _ _ => False) := by
  obtain ⟨fd, F⟩ := T.fn_place_read
  exact ⟨_, fd, ["source", "left"], ⟨fun _ _ _ _ h => h.elim, fun _ _ _ _ _ _ _ _ _ _ _ _ _ h => h.elim⟩, T.g_place_read, F.kp, F.binds (ps := ["source", "left"]) fun _ _ _ _ _ _ us hl => match us, hl with | [_, _], _ => rfl⟩
namespace Base
abbrev spF : Sp := fun _ _ _ _ => False
theorem sc_single_read : FnScope ["source", "left", "sign"] ["source", "left"] (defScope s_single_read) := ⟨rfl, rfl, rfl, by decide +kernel, rfl, by decide +kernel, by decide +kernel⟩
theorem ok_single_read (T : Hd w K mg) {k : Nat} (hk : k ≤ 5) (M_Source_next_sign : Mt P w K mg base 1 (He.ga K "Source") "next_sign" (spNx K)) (M_Source_skips : Mt P w K mg base 2 (He.ga K "Source") "skips" (spSk K)) (D_worth_read : Dn P w K mg base 5 "worth_read" (spWoR K)) (D_under_read : Dn P w K mg base k "under_read" spF) (D_call_read : Dn P w K mg base k "call_read" spF) (D_place_read : Dn P w K mg base k "place_read" spF) : Dn P w K mg base 6 "single_read" (spSg K 0) := by
  obtain ⟨fd, F⟩ := T.fn_single_read
  refine dn_mk F T.g_single_read (F.binds (ps := ["source", "left"]) fun _ _ _ _ _ _ us hl => match us, hl with | [_, _], _ => rfl) sc_single_read (fun vs H Q E h => ?_) (fun cdv A outer s H vs Q E hr tk h => ?_)
  · obtain ⟨p, z, i, left, rfl, hn, hS, q1, q2⟩ := h
    rfl
  obtain ⟨p, z, i, left, rfl, hn, hS, q1, q2⟩ := h
  refine ⟨_, (pss_cons (ps_if (pt_cmpR op_lt (pv 1) pe_int (nomark _)) (pss_one (L2N.ps_raise rfl tk (L2N.pmk_own PySem.F.excBase_ValueError T.x_NoText T.g_NoText T.k_NoText (raises_own T.b_NoText T.t_NoText) rfl))) pss_nil) (pss_cons (ps_set (i := 2) sc_single_read.nd rfl (by first | exact Or.inl rfl | exact Or.inr rfl) (pe_m0 (pv 0) M_Source_next_sign hr (by first | decide | omega) (fun σ => L2N.passAt tk σ))) (pss_cons (ps_if (PW.pt (pw_or (pt_cmpR op_eq (pv 2) pe_str (nomark _)) (pw_or1 (PW.pt (pw_and (pt_cmpR op_ne (pv 2) pe_str (nomark _)) (pw_and1 (pt_cmpR op_in_sign (pv 2) (C8.pe_gc (by rfl) T.c_FIGURES) rfl))))))) (pss_one (ps_ret (pe_tup (pa_cons pe_str (pa_cons (pe_d D_worth_read hr (by first | decide | omega) (fun σ => L2N.passAt tk σ) (by rfl) (pa_cons (pv 0) pa_nil)) pa_nil))))) pss_nil) (pss_cons (ps_if (pt_val (pe_m (pv 0) M_Source_skips hr (by first | decide | omega) (fun σ => L2N.passAt tk σ) (pa_cons pe_str pa_nil))) (pss_one (ps_ret (pe_tup (pa_cons pe_str (pa_cons (pe_d D_under_read hr (by first | decide | omega) (fun σ => L2N.passAt tk σ) (by rfl) (pa_cons (pv 0) (pa_cons (pe_op op_sub (pv 1) pe_int) pa_nil))) pa_nil))))) pss_nil) (pss_cons (ps_if (pt_val (pe_m (pv 0) M_Source_skips hr (by first | decide | omega) (fun σ => L2N.passAt tk σ) (pa_cons pe_str pa_nil))) (pss_one (ps_ret (pe_tup (pa_cons pe_str (pa_cons (pe_d D_under_read hr (by first | decide | omega) (fun σ => L2N.passAt tk σ) (by rfl) (pa_cons (pv 0) (pa_cons (pe_op op_sub (pv 1) pe_int) pa_nil))) pa_nil))))) pss_nil) (pss_cons (ps_if (pt_val (pe_m (pv 0) M_Source_skips hr (by first | decide | omega) (fun σ => L2N.passAt tk σ) (pa_cons pe_str pa_nil))) (pss_one (ps_ret (pe_d D_call_read hr (by first | decide | omega) (fun σ => L2N.passAt tk σ) (by rfl) (pa_cons (pv 0) (pa_cons (pv 1) pa_nil))))) pss_nil) (pss_one (ps_ret (pe_d D_place_read hr (by first | decide | omega) (fun σ => L2N.passAt tk σ) (by rfl) (pa_cons (pv 0) (pa_cons (pv 1) pa_nil))))))))))), ?_⟩
  walk_at "rd"
  have hl : left < 1 := by omega
  rw [if_pos hl]
  refine q2 ?_ H But.refl
  rw [show left.toNat = 0 by omega, sgR_zero]
theorem sc_expression_from : FnScope ["source", "left", "found", "many", "sign"] ["source", "left"] (defScope s_expression_from) := ⟨rfl, rfl, rfl, by decide +kernel, rfl, by decide +kernel, by decide +kernel⟩
theorem ok_expression_from (T : Hd w K mg) {k : Nat} (hk : k ≤ 5) (M_Source_next_sign : Mt P w K mg base 1 (He.ga K "Source") "next_sign" (spNx K)) (M_Source_goes_past : Mt P w K mg base 3 (He.ga K "Source") "goes_past" (spGo K)) (D_single_read : Dn P w K mg base 6 "single_read" (spSg K 0)) (D_under_read : Dn P w K mg base k "under_read" spF) (D_is_within : Dn P w K mg base k "is_within" spF) : Dn P w K mg base 7 "expression_from" (spEx K 0) := by
  obtain ⟨fd, F⟩ := T.fn_expression_from
  refine dn_mk F T.g_expression_from (F.binds (ps := ["source", "left"]) fun _ _ _ _ _ _ us hl => match us, hl with | [_, _], _ => rfl) sc_expression_from (fun vs H Q E h => ?_) (fun cdv A outer s H vs Q E hr tk h => ?_)
  · obtain ⟨p, z, i, left, rfl, hn, hS, q1, q2⟩ := h
    rfl
  obtain ⟨p, z, i, left, rfl, hn, hS, q1, q2⟩ := h
  refine ⟨_, (pss_cons (ps_set (i := 2) sc_expression_from.nd rfl (by first | exact Or.inl rfl | exact Or.inr rfl) (pe_d D_single_read hr (by first | decide | omega) (fun σ => L2N.passAt tk σ) (by rfl) (pa_cons (pv 0) (pa_cons (pv 1) pa_nil)))) (pss_cons (ps_set (i := 3) sc_expression_from.nd rfl (by first | exact Or.inl rfl | exact Or.inr rfl) pe_int) (pss_cons (ps_while (passes_of rfl) (PW.pt (pw_and (pt_cmpR op_ne (pe_m0 (pv 0) M_Source_next_sign hr (by first | decide | omega) (fun σ => L2N.passAt tk σ)) pe_str (nomark _)) (pw_and1 (pt_cmpR op_in_sign (pe_m0 (pv 0) M_Source_next_sign hr (by first | decide | omega) (fun σ => L2N.passAt tk σ)) (C8.pe_gc (by rfl) T.c_OPS) rfl)))) (pss_cons (ps_aug (i := 3) sc_expression_from.nd rfl (by first | exact Or.inl rfl | exact Or.inr rfl) pe_int ip_add) (pss_cons (ps_if (pt_cmpR op_eq (pv 3) (C8.pe_gc (by rfl) T.c_MOST_LEVELS) (nomark _)) (pss_one (L2N.ps_raise rfl tk (L2N.pmk_own PySem.F.excBase_ValueError T.x_NoText T.g_NoText T.k_NoText (raises_own T.b_NoText T.t_NoText) rfl))) pss_nil) (pss_cons (ps_set (i := 4) sc_expression_from.nd rfl (by first | exact Or.inl rfl | exact Or.inr rfl) (pe_m0 (pv 0) M_Source_next_sign hr (by first | decide | omega) (fun σ => L2N.passAt tk σ))) (pss_cons (ps_expr (pe_m (pv 0) M_Source_goes_past hr (by first | decide | omega) (fun σ => L2N.passAt tk σ) (pa_cons (pv 4) pa_nil))) (pss_one (ps_set (i := 2) sc_expression_from.nd rfl (by first | exact Or.inl rfl | exact Or.inr rfl) (pe_tup (pa_cons pe_str (pa_cons (pv 4) (pa_cons (pv 2) (pa_cons (pe_d D_under_read hr (by first | decide | omega) (fun σ => L2N.passAt tk σ) (by rfl) (pa_cons (pv 0) (pa_cons (pe_op op_sub (pv 1) pe_int) pa_nil))) pa_nil)))))))))))) (pss_cons (ps_if (PW.pt (pw_and (pt_cmpR op_gt (pv 3) pe_int (nomark _)) (pw_and1 (pt_not (pt_val (pe_d D_is_within hr (by first | decide | omega) (fun σ => L2N.passAt tk σ) (by rfl) (pa_cons (pv 2) (pa_cons (pv 1) pa_nil)))))))) (pss_one (L2N.ps_raise rfl tk (L2N.pmk_own PySem.F.excBase_ValueError T.x_NoText T.g_NoText T.k_NoText (raises_own T.b_NoText T.t_NoText) rfl))) pss_nil) (pss_one (ps_ret (pv 2))))))), ?_⟩
  walk_at "rd"
  refine ⟨p, z, i, left, rfl, hn, hS, fun s r he H1 v j b1 S1 hij hr hv => ?_, fun he H1 b1 => ?_⟩
  · rw [show left.toNat = 0 by omega, sgR_zero] at he
    cases he
  · refine q2 ?_ H1 b1
    rw [show left.toNat = 0 by omega, exR_zero]
end Base
/-- what reads a text: the methods, and the small readers -/
structure Rds (P : Program) (w : World) (K : PySem.W.Frag) (mg : Str → Option Value) (base : Heap) : Prop where
  comes_next : Mt P w K mg base 1 (He.ga K "Source") "comes_next" (spCN K)
  skips : Mt P w K mg base 2 (He.ga K "Source") "skips" (spSk K)
  goes_past : Mt P w K mg base 3 (He.ga K "Source") "goes_past" (spGo K)
  run_of : Mt P w K mg base 1 (He.ga K "Source") "run_of" (spRun K)
  next_sign : Mt P w K mg base 1 (He.ga K "Source") "next_sign" (spNx K)
  at_end : Mt P w K mg base 1 (He.ga K "Source") "at_end" (spEnd K)
  name_read : Dn P w K mg base 3 "name_read" (spName K)
  quoted_read : Dn P w K mg base 4 "quoted_read" (spQuR K)
  worth_read : Dn P w K mg base 5 "worth_read" (spWoR K)
  shown_worth : Dn P w K mg base 3 "shown_worth" spShownW
  quoted : Dn P w K mg base 1 "quoted" spQuoted
  is_name : Dn P w K mg base 1 "is_name" spIsName
  is_worth : Dn P w K mg base 1 "is_worth" spIsWorth
  is_number_text : Dn P w K mg base 2 "is_number_text" spNumT
theorem rds (T : Hd w K mg) : Rds P w K mg base := by
  have h1 := ok_Source_comes_next (P := P) (base := base) T
  have h2 := ok_Source_skips (P := P) (base := base) T h1
  have h3 := ok_Source_goes_past (P := P) (base := base) T h2
  have h4 := ok_Source_run_of (P := P) (base := base) T
  have h5 := ok_Source_next_sign (P := P) (base := base) T
  have h6 := ok_Source_at_end (P := P) (base := base) T
  have a1 := ok_is_name (P := P) (base := base) T
  have a2 := ok_is_worth (P := P) (base := base) T
  have a3 := ok_signs_ahead (P := P) (base := base) T
  have a4 := ok_is_number_text (P := P) (base := base) T a3
  have a5 := ok_quoted (P := P) (base := base) T
  have a6 := ok_shown_worth (P := P) (base := base) T a4 a5
  have b1 := ok_name_read (P := P) (base := base) T h4 a1
  have b2 := ok_quoted_read (P := P) (base := base) T h3 h2 a2
  have b3 := ok_worth_read (P := P) (base := base) T h1 h4 b2 a6 a4
  exact ⟨h1, h2, h3, h4, h5, h6, b1, b2, b3, a6, a5, a1, a2, a4⟩
/-- single_read, expression_from, place_read -/
theorem ex_chain (T : Hd w K mg) : ∀ n : Nat, Dn P w K mg base (5 * n + 7) "single_read" (spSg K n) ∧ Dn P w K mg base (5 * n + 8) "expression_from" (spEx K n) ∧ Dn P w K mg base (5 * n + 10) "place_read" (spPl K n)
  | 0 => by
    have R := rds (P := P) (base := base) T
    have h := Base.ok_single_read (P := P) (base := base) T (k := 5) (by decide) R.next_sign R.skips R.worth_read (Dn.false_under_read T _) (Dn.false_call_read T _) (Dn.false_place_read T _)
    have he := Base.ok_expression_from T (k := 5) (by decide) R.next_sign R.goes_past h (Dn.false_under_read T _) (Dn.false T _)
    have hpa := ok_parts_read T (by omega) R.goes_past R.skips he
    have hsp := ok_some_parts_read T (by omega) R.comes_next hpa
    have hpl := ok_place_read T (by omega) R.skips R.comes_next R.name_read (hpa.mono (by omega)) hsp
    refine ⟨h.mono (by omega), he.mono (by omega), hpl.imp fun vs H Q E h => ?_⟩
    obtain ⟨p, z, i, left, rfl, hn, h⟩ := h
    exact ⟨p, z, i, left, rfl, by omega, h⟩
  | n + 1 => by
    have R := rds (P := P) (base := base) T
    obtain ⟨hs, he, hp⟩ := ex_chain T n
    have hpa := ok_parts_read T (by omega) R.goes_past R.skips he
    have hsp := ok_some_parts_read T (by omega) R.comes_next hpa
    have hpl := ok_place_read T (by omega) R.skips R.comes_next R.name_read (hpa.mono (by omega)) hsp
    have hun := ok_under_read T (by omega) R.skips R.goes_past (hs.mono (by omega)) he
    have hca := ok_call_read T (by omega) R.run_of R.goes_past (hpa.mono (by omega)) hp (he.mono (by omega))
    have hsi := ok_single_read T (by omega) R.next_sign R.skips R.worth_read (hun.mono (by omega)) hca hpl
    have hw := (wi_chain (P := P) (base := base) T (n + 1)).1 (5 * n + 12) (by omega)
    exact ⟨hsi, ok_expression_from T (by omega) R.next_sign R.goes_past hsi (hun.mono (by omega)) hw, hpl.mono (by omega)⟩
end
end Sk

/-! ## P1a -/
namespace Sk
open PySem PySem.Spec PyProof.Rows L2
set_option hygiene false in
local macro_rules | `(tactic| walk_at "rd") => `(tactic| simp only [tVar, tC, tB, tAnd, tOr, tNot, tAndV, tOrV, tNotV, tIf, tNext, tSeq, tBreak, tCont, tDrop, tRet, tRetN, tIfS, tAsg, tAug, tOp, tUn, tTest, tChain, tFld, sFldAug, sFld, rAdd, tNil, tCons, tTup, tLst, tCB, tNoPart, tPart, tSl, tBM0, tBM, tYes, tM0, tM1, CwR.tReplC, tCallS, tMethS, tMakeS, gName, wipe, tyV, gTup, gCons, gNil,
  rI, rI0, rEq, rNe, scal, rPlus, rPlusI, rPlusS, rCat, rCatA, rIx, rIxL, rIxT, rIxS, rSl, rSlS, rSlL, rSlA, iPlus, iPlusI, iPlusS, ipI, rAll, rAny, LenV, WE, E0, rAppend,
  L2.start, List.map_cons, List.map_nil, List.length_cons, List.length_nil, Nat.zero_add, Nat.add_zero, Nat.reduceAdd, Nat.reduceSub, Nat.sub_self, List.replicate_zero, List.replicate_succ, List.append_nil, List.nil_append, List.cons_append, List.getElem?_cons_zero, List.getElem?_cons_succ, List.set_cons_zero, List.set_cons_succ, Option.some.injEq,
  V.int.injEq, V.str.injEq, V.bl.injEq, V.ref.injEq, V.ty.injEq, HO.ins.injEq, HO.lst.injEq, HO.tup.injEq, List.cons.injEq, reduceCtorEq, false_and, and_false, true_and, and_true, and_assoc, exists_const, exists_false, false_or, or_false, exists_eq_left', exists_eq_left, exists_eq_right, exists_eq_right', exists_and_left, ↓reduceIte, decide_eq_true_eq, Bool.not_eq_true', decide_eq_false_iff_not, if_true, if_false, cxOf, and_self, Bool.not_true, Bool.not_false, Bool.false_eq_true,
  sf_signs, sf_spot, sf_put, T.cl_Source, T.na_Source_signs, T.na_Source_spot, sg_inj, upd_same, rIsS, tyN, kb1, kb2, kb3, kb4, kb5, kb6, kb7, kb8, kb9, kb10, kb11, kb12, kb13, kb14, kb15, kb16, kb17, kb18, kb19, kb20, kb21, tDNewK, rPowW, gStar, gUnl])
/-! ### what may stand where -/
def kidOk : Kid → Nat → Bool
  | .s w, c => (decide (c = 119) && isWorthT (tl w)) || (decide (c = 110) && isNameT (tl w)) || (decide (c = 115) && match tl w with
    | [x] => isOp x
    | _ => false)
  | .l xs, c => (decide (c = 112) && wfS xs) || (decide (c = 113) && (wfS xs && decide (xs ≠ [])))
  | .e x, c => (decide (c = 101) && x.wf) || (decide (c = 108) && (x.wf && x.isPl))
def Kid.bd : Kid → Nat → Prop
  | .s w, L => w.length ≤ L
  | .l xs, L => xs.length ≤ L ∧ ∀ x ∈ xs, (showE x).length ≤ L
  | .e x, L => (showE x).length ≤ L
def Ex.shape : Ex → Str
  | .is _ => "w"
  | .var .. => "np"
  | .at_ .. => "np"
  | .short _ => "q"
  | .op .. => "see"
  | .not _ => "e"
  | .minus _ => "e"
  | .call n _ => if n = tl "length" then "e" else if n = tl "piece" ∨ n = tl "part" then "eee" else if n = tl "other" then "le" else "l"
def SHT : List (Str × He.Dv) := [("is", .str "w"), ("var", .str "np"), ("at", .str "np"), ("short", .str "q"), ("op", .str "see"), ("not", .str "e"), ("minus", .str "e"), ("length", .str "e"), ("piece", .str "eee"), ("part", .str "eee"), ("order", .str "l"), ("back", .str "l"), ("data", .str "l"), ("other", .str "le")]
theorem showP_ge : ∀ ps : List Ex, ps.length ≤ (showP ps).length ∧ ∀ x ∈ ps, (showE x).length ≤ (showP ps).length
  | [] => ⟨Nat.zero_le _, fun x h => by cases h⟩
  | e :: r => by
    have ht : ∀ r : List Ex, r.length ≤ (showT r).length ∧ ∀ x ∈ r, (showE x).length ≤ (showT r).length := by
      intro r
      induction r with
      | nil => exact ⟨Nat.zero_le _, fun x h => by cases h⟩
      | cons e r ih =>
        rw [showT]
        refine ⟨by simp; omega, fun x hx => ?_⟩
        rcases List.mem_cons.mp hx with h | h
        · subst h; simp; omega
        · have := ih.2 x h; simp; omega
    obtain ⟨h1, h2⟩ := ht r
    rw [showP]
    refine ⟨by simp; omega, fun x hx => ?_⟩
    rcases List.mem_cons.mp hx with h | h
    · subst h; simp; omega
    · have := h2 x h; simp; omega
theorem undS_ge (a : Ex) : (showE a).length ≤ (undS a).length := by
  unfold undS
  split <;> simp <;> omega
theorem shownW_ge (w : Tx) : w.length ≤ (shownW w).length := by
  cases h : isOwnT w with
  | true => rw [shownW_own h]; exact Nat.le_refl _
  | false => rw [shownW_q h]; unfold quotedW; have := dblQ_ge w; simp; omega
theorem st_len (w : Tx) : (St w).length = w.length := by rw [← tl_len, tl_st]
theorem kids_bd (e : Ex) {L : Nat} (h : (showE e).length ≤ L) : ∀ k ∈ e.kids, k.bd L := by
  intro k hk
  cases e with
  | is w =>
    rw [showE] at h
    simp only [Ex.kids, List.mem_cons, List.not_mem_nil, or_false] at hk
    subst hk
    have := shownW_ge w
    show (St w).length ≤ L
    rw [st_len]
    omega
  | var n ps =>
    rw [showE, List.length_append] at h
    simp only [Ex.kids, List.mem_cons, List.not_mem_nil, or_false] at hk
    obtain ⟨h1, h2⟩ := showP_ge ps
    rcases hk with rfl | rfl
    · show (St n).length ≤ L
      rw [st_len]
      omega
    · exact ⟨by omega, fun x hx => by have := h2 x hx; omega⟩
  | at_ n ps =>
    rw [showE, List.length_cons, List.length_append] at h
    simp only [Ex.kids, List.mem_cons, List.not_mem_nil, or_false] at hk
    obtain ⟨h1, h2⟩ := showP_ge ps
    rcases hk with rfl | rfl
    · show (St n).length ≤ L
      rw [st_len]
      omega
    · exact ⟨by omega, fun x hx => by have := h2 x hx; omega⟩
  | short ps =>
    rw [showE, List.length_cons] at h
    simp only [Ex.kids, List.mem_cons, List.not_mem_nil, or_false] at hk
    obtain ⟨h1, h2⟩ := showP_ge ps
    subst hk
    exact ⟨by omega, fun x hx => by have := h2 x hx; omega⟩
  | op s a b =>
    have e1 : showE (.op s a b) = showE a ++ s :: undS b := by rw [showE]; rfl
    rw [e1, List.length_append, List.length_cons] at h
    simp only [Ex.kids, List.mem_cons, List.not_mem_nil, or_false] at hk
    have := undS_ge b
    rcases hk with rfl | rfl | rfl
    · show (St [s]).length ≤ L
      rw [st_len]
      simp
      omega
    · show (showE a).length ≤ L
      omega
    · show (showE b).length ≤ L
      omega
  | not a =>
    have e1 : showE (.not a) = 39 :: undS a := by rw [showE]; rfl
    rw [e1, List.length_cons] at h
    simp only [Ex.kids, List.mem_cons, List.not_mem_nil, or_false] at hk
    have := undS_ge a
    subst hk
    show (showE a).length ≤ L
    omega
  | minus a =>
    have e1 : showE (.minus a) = 45 :: undS a := by rw [showE]; rfl
    rw [e1, List.length_cons] at h
    simp only [Ex.kids, List.mem_cons, List.not_mem_nil, or_false] at hk
    have := undS_ge a
    subst hk
    show (showE a).length ≤ L
    omega
  | call n ps =>
    rw [showE, List.length_cons, List.length_append] at h
    simp only [Ex.kids, List.mem_map] at hk
    obtain ⟨h1, h2⟩ := showP_ge ps
    obtain ⟨x, hx, rfl⟩ := hk
    have := h2 x hx
    show (showE x).length ≤ L
    omega
theorem len3 {α : Type} {l : List α} (h : l.length = 3) : ∃ a b c, l = [a, b, c] := by
  match l, h with
  | [a, b, c], _ => exact ⟨a, b, c, rfl⟩
/-- the kids by their shape -/
theorem callOk_cases {n : Tx} {ps : List Ex} (h : callOk n ps = true) : (n = tl "length" ∧ ∃ a, ps = [a]) ∨ ((n = tl "piece" ∨ n = tl "part") ∧ ∃ a b c, ps = [a, b, c]) ∨ ((n = tl "order" ∨ n = tl "back" ∨ n = tl "data") ∧ ∃ p, ps = [p] ∧ p.isPl = true) ∨ (n = tl "other" ∧ ∃ p a, ps = [p, a] ∧ p.isPl = true) := by
  unfold callOk callsN at h
  by_cases h1 : n = tl "length"
  · rw [if_pos h1] at h
    simp only [decide_eq_true_eq] at h
    obtain ⟨a, rfl⟩ := List.length_eq_one_iff.mp h
    exact .inl ⟨h1, a, rfl⟩
  rw [if_neg h1] at h
  by_cases h2 : n = tl "piece"
  · rw [if_pos h2] at h
    simp only [decide_eq_true_eq] at h
    obtain ⟨a, b, c, rfl⟩ := len3 h
    exact .inr (.inl ⟨.inl h2, a, b, c, rfl⟩)
  rw [if_neg h2] at h
  by_cases h3 : n = tl "part"
  · rw [if_pos h3] at h
    simp only [decide_eq_true_eq] at h
    obtain ⟨a, b, c, rfl⟩ := len3 h
    exact .inr (.inl ⟨.inr h3, a, b, c, rfl⟩)
  rw [if_neg h3] at h
  simp only [Bool.or_eq_true, Bool.and_eq_true, decide_eq_true_eq] at h
  rcases h with ⟨h4, h5⟩ | ⟨h4, h5⟩
  · unfold isPlaceW at h4
    simp only [Bool.or_eq_true, decide_eq_true_eq, or_assoc] at h4
    cases ps with
    | nil => cases h5
    | cons p r =>
      cases r with
      | cons _ _ => cases h5
      | nil => exact .inr (.inr (.inl ⟨h4, p, rfl, h5⟩))
  · cases ps with
    | nil => cases h5
    | cons p r =>
      cases r with
      | nil => cases h5
      | cons a r =>
        cases r with
        | cons _ _ => cases h5
        | nil => exact .inr (.inr (.inr ⟨h4, p, a, rfl, h5⟩))
def zipOk : List Kid → Tx → Bool
  | [], [] => true
  | k :: r, c :: t => kidOk k c && zipOk r t
  | _, _ => false
theorem zipOk_len : ∀ {ks : List Kid} {t : Tx}, zipOk ks t = true → ks.length = t.length
  | [], [], _ => rfl
  | [], _ :: _, h => by cases h
  | _ :: _, [], h => by cases h
  | k :: r, c :: t, h => by
    rw [zipOk, Bool.and_eq_true] at h
    rw [List.length_cons, List.length_cons, zipOk_len h.2]
theorem zipOk_at : ∀ {ks : List Kid} {t : Tx} {i : Nat} {k : Kid} {c : Nat}, zipOk ks t = true → ks[i]? = some k → t[i]? = some c → kidOk k c = true
  | [], _, _, _, _, _, h, _ => by simp at h
  | _ :: _, [], _, _, _, h, _, _ => by cases h
  | k :: r, c :: t, 0, _, _, h, h1, h2 => by
    rw [zipOk, Bool.and_eq_true] at h
    simp at h1 h2
    subst h1 h2
    exact h.1
  | k :: r, c :: t, i + 1, _, _, h, h1, h2 => by
    rw [zipOk, Bool.and_eq_true] at h
    exact zipOk_at (i := i) h.2 (by simpa using h1) (by simpa using h2)
theorem shape_ok {e : Ex} (h : e.wf = true) : zipOk e.kids (tl e.shape) = true ∧ (e.word, He.Dv.str e.shape) ∈ SHT := by
  have k1 : tl "w" = [119] := by decide +kernel
  have k2 : tl "np" = [110, 112] := by decide +kernel
  have k3 : tl "q" = [113] := by decide +kernel
  have k4 : tl "see" = [115, 101, 101] := by decide +kernel
  have k5 : tl "e" = [101] := by decide +kernel
  have k6 : tl "eee" = [101, 101, 101] := by decide +kernel
  have k7 : tl "le" = [108, 101] := by decide +kernel
  have k8 : tl "l" = [108] := by decide +kernel
  cases e with
  | is w =>
    rw [Ex.wf] at h
    refine ⟨?_, by simp [Ex.word, Ex.shape, SHT]⟩
    rw [Ex.shape, k1]
    simp [Ex.kids, zipOk, kidOk, tl_st, h]
  | var n ps =>
    rw [Ex.wf, Bool.and_eq_true] at h
    refine ⟨?_, by simp [Ex.word, Ex.shape, SHT]⟩
    rw [Ex.shape, k2]
    simp [Ex.kids, zipOk, kidOk, tl_st, h]
  | at_ n ps =>
    rw [Ex.wf, Bool.and_eq_true] at h
    refine ⟨?_, by simp [Ex.word, Ex.shape, SHT]⟩
    rw [Ex.shape, k2]
    simp [Ex.kids, zipOk, kidOk, tl_st, h]
  | short ps =>
    rw [Ex.wf, Bool.and_eq_true, decide_eq_true_eq] at h
    refine ⟨?_, by simp [Ex.word, Ex.shape, SHT]⟩
    rw [Ex.shape, k3]
    simp [Ex.kids, zipOk, kidOk, h]
  | op s a b =>
    rw [Ex.wf, Bool.and_eq_true, Bool.and_eq_true] at h
    refine ⟨?_, by simp [Ex.word, Ex.shape, SHT]⟩
    rw [Ex.shape, k4]
    simp [Ex.kids, zipOk, kidOk, tl_st, h]
  | not a =>
    rw [Ex.wf] at h
    refine ⟨?_, by simp [Ex.word, Ex.shape, SHT]⟩
    rw [Ex.shape, k5]
    simp [Ex.kids, zipOk, kidOk, h]
  | minus a =>
    rw [Ex.wf] at h
    refine ⟨?_, by simp [Ex.word, Ex.shape, SHT]⟩
    rw [Ex.shape, k5]
    simp [Ex.kids, zipOk, kidOk, h]
  | call n ps =>
    rw [Ex.wf, Bool.and_eq_true] at h
    obtain ⟨hc, hw⟩ := h
    rcases callOk_cases hc with ⟨rfl, a, rfl⟩ | ⟨hn, a, b, c, rfl⟩ | ⟨hn, p, rfl, hp⟩ | ⟨rfl, p, a, rfl, hp⟩
    · have e1 : (Ex.call (tl "length") [a]).shape = "e" := by rw [Ex.shape, if_pos rfl]
      rw [e1, k5]
      rw [wfS, wfS] at hw
      refine ⟨?_, by simp [Ex.word, SHT, st_tl]⟩
      simpa [Ex.kids, zipOk, kidOk] using hw
    · have e1 : (Ex.call n [a, b, c]).shape = "eee" := by
        rw [Ex.shape, if_neg, if_pos hn]
        rcases hn with rfl | rfl <;> decide +kernel
      rw [e1, k6]
      rw [wfS, wfS, wfS, wfS] at hw
      refine ⟨?_, ?_⟩
      · simpa [Ex.kids, zipOk, kidOk] using hw
      · rcases hn with rfl | rfl <;> simp [Ex.word, SHT, st_tl]
    · have e1 : (Ex.call n [p]).shape = "l" := by
        rw [Ex.shape, if_neg, if_neg, if_neg] <;> rcases hn with rfl | rfl | rfl <;> decide +kernel
      rw [e1, k8]
      rw [wfS, wfS] at hw
      refine ⟨?_, ?_⟩
      · simp at hw
        simp [Ex.kids, zipOk, kidOk, hw, hp]
      · rcases hn with rfl | rfl | rfl <;> simp [Ex.word, SHT, st_tl]
    · have e1 : (Ex.call (tl "other") [p, a]).shape = "le" := by
        rw [Ex.shape, if_neg, if_neg, if_pos rfl] <;> decide +kernel
      rw [e1, k7]
      rw [wfS, wfS, wfS] at hw
      refine ⟨?_, by simp [Ex.word, SHT, st_tl]⟩
      simp at hw
      simp [Ex.kids, zipOk, kidOk, hw, hp]
theorem word_in {e : Ex} (h : e.wf = true) : e.word ∈ SHT.map (·.1) := List.mem_map_of_mem (f := Prod.fst) (shape_ok h).2
theorem sm_upd {H0 H : Hp} {b : Addr} {u : HO} (s : Same H0 H) (n : H0 b = none) : Same H0 (upd H b u) := fun c o h => by
  rw [upd_ne (ne_of_none h n)]
  exact s c o h
theorem kids_three {e : Ex} (h : e.wf = true) : e.kids.length ≤ 3 := by
  rw [zipOk_len (shape_ok h).1]
  have : ∀ e : Ex, (tl e.shape).length ≤ 3 := by
    intro e
    cases e with
    | call n ps =>
      rw [Ex.shape]
      split
      · decide +kernel
      · split
        · decide +kernel
        · split <;> decide +kernel
    | _ => rw [Ex.shape]; decide +kernel
  exact this e
end Sk

/-! ## S1 -/
namespace Sk
open PySem PySem.Spec PyProof.Rows L2
set_option hygiene false in
local macro_rules | `(tactic| walk_at "rd") => `(tactic| simp only [tVar, tC, tB, tAnd, tOr, tNot, tAndV, tOrV, tNotV, tIf, tNext, tSeq, tBreak, tCont, tDrop, tRet, tRetN, tIfS, tAsg, tAug, tOp, tUn, tTest, tChain, tFld, sFldAug, sFld, rAdd, tNil, tCons, tTup, tLst, tCB, tNoPart, tPart, tSl, tBM0, tBM, tYes, tM0, tM1, CwR.tReplC, tCallS, tMethS, tMakeS, gName, wipe, tyV, gTup, gCons, gNil,
  rI, rI0, rEq, rNe, scal, rPlus, rPlusI, rPlusS, rCat, rCatA, rIx, rIxL, rIxT, rIxS, rSl, rSlS, rSlL, rSlA, iPlus, iPlusI, iPlusS, ipI, rAll, rAny, LenV, WE, E0, rAppend,
  L2.start, List.map_cons, List.map_nil, List.length_cons, List.length_nil, Nat.zero_add, Nat.add_zero, Nat.reduceAdd, Nat.reduceSub, Nat.sub_self, List.replicate_zero, List.replicate_succ, List.append_nil, List.nil_append, List.cons_append, List.getElem?_cons_zero, List.getElem?_cons_succ, List.set_cons_zero, List.set_cons_succ, Option.some.injEq,
  V.int.injEq, V.str.injEq, V.bl.injEq, V.ref.injEq, V.ty.injEq, HO.ins.injEq, HO.lst.injEq, HO.tup.injEq, List.cons.injEq, reduceCtorEq, false_and, and_false, true_and, and_true, and_assoc, exists_const, exists_false, false_or, or_false, exists_eq_left', exists_eq_left, exists_eq_right, exists_eq_right', exists_and_left, ↓reduceIte, decide_eq_true_eq, Bool.not_eq_true', decide_eq_false_iff_not, if_true, if_false, cxOf, and_self, Bool.not_true, Bool.not_false, Bool.false_eq_true,
  sf_signs, sf_spot, sf_put, T.cl_Source, T.na_Source_signs, T.na_Source_spot, sg_inj, upd_same, rIsS, tyN, kb1, kb2, kb3, kb4, kb5, kb6, kb7, kb8, kb9, kb10, kb11, kb12, kb13, kb14, kb15, kb16, kb17, kb18, kb19, kb20, kb21, tDNewK, rPowW, gStar, gUnl])
/-! ### how the program writes expressions -/
theorem interT_T : ∀ (e : Ex) (r : List Ex), TL.joinL [44] ((e :: r).map showE) ++ [41] = showE e ++ showT r
  | e, [] => by rw [showT]; rfl
  | e, f :: r => by
    have := interT_T f r
    rw [showT, List.map_cons, List.map_cons, TL.joinL, ← this]
    simp
theorem interT_P {ps : List Ex} (h : ps ≠ []) : 40 :: (TL.joinL [44] (ps.map showE) ++ [41]) = showP ps := by
  cases ps with
  | nil => exact absurd rfl h
  | cons e r => rw [interT_T, showP]
theorem interT_len : ∀ l : List Tx, (l.map (·.length)).sum + l.length ≤ (TL.joinL [44] l).length + 1
  | [] => by simp [TL.joinL]
  | [a] => by simp [TL.joinL]
  | a :: b :: r => by
    have := interT_len (b :: r)
    rw [TL.joinL]
    simp at this ⊢
    omega
theorem slen_app (a b : Str) : (a ++ b).length = a.length + b.length := by rw [← tl_len, tl_app, List.length_append, tl_len, tl_len]
theorem joinT_eq (ts : List Tx) : Txt.join (Str.ofString ",") (ts.map St) = St (TL.joinL [44] ts) := by
  rw [TL.join_eq]
  apply tl_inj
  show TL.tl (Str.join _ _) = _
  rw [TL.tl_join, List.map_map]
  have e : (TL.tl ∘ St) = id := rfl
  rw [e, List.map_id]
  rfl
section
variable {P : Program} {w : World} {K : PySem.W.Frag} {mg : Str → Option Value} {base : Heap}
def spJn (K : PySem.W.Frag) : Sp := fun vs H Q _ => ∃ a ts, vs = [.ref a] ∧ SqL K H a ((ts.map St).map V.str) ∧ (TL.joinL [44] ts).length ≤ 5000000 ∧ Q (.str (St (40 :: (TL.joinL [44] ts ++ [41])))) H
theorem sc_joined : FnScope ["texts"] ["texts"] (defScope s_joined) := ⟨rfl, rfl, rfl, by decide +kernel, rfl, by decide +kernel, by decide +kernel⟩
theorem ok_joined (T : Hd w K mg)  : Dn P w K mg base 1 "joined" (spJn K) := by
  obtain ⟨fd, F⟩ := T.fn_joined
  refine dn_mk F T.g_joined (F.binds (ps := ["texts"]) fun _ _ _ _ _ _ us hl => match us, hl with | [_], _ => rfl) sc_joined (fun vs H Q E h => ?_) (fun cdv A outer s H vs Q E hr tk h => ?_)
  · obtain ⟨a, ts, rfl, hL, hb, q⟩ := h
    rfl
  obtain ⟨a, ts, rfl, hL, hb, q⟩ := h
  refine ⟨_, (pss_one (ps_ret (pe_op op_add_str (pe_op op_add_str pe_str (pe_bm PySem.F.plainAttrs_str PySem.F.slot_str_join PySem.F.type_str_join mt_join pe_str (pa_cons (pv 0) pa_nil))) pe_str))), ?_⟩
  have hi := interT_len ts
  have hs := sizeLine_eq
  walk_at "rd"
  have e : ((ts.map St).map fun x => x.length) = ts.map (fun x : Tx => List.length x) := by
    rw [List.map_map]
    exact List.map_congr_left fun x _ => st_len x
  have e1 : (Str.ofString ",").length = 1 := rfl
  have e2 : (Str.ofString "(").length = 1 := rfl
  have e3 : (Str.ofString ")").length = 1 := rfl
  refine ⟨_, .inl hL, ?_, ?_, ?_, ?_⟩
  · rw [e, e1, List.length_map]
    omega
  · rw [joinT_eq, e2, st_len]
    omega
  · rw [joinT_eq, slen_app, e2, e3, st_len]
    omega
  · rw [joinT_eq, sc_lp, sc_rp, st_app, st_app]
    exact q
def spShow (K : PySem.W.Frag) (n : Nat) : Sp := fun vs H Q _ => ∃ v e, vs = [v] ∧ Dp K H v e.toD ∧ e.wf = true ∧ e.dep ≤ n ∧ (showE e).length ≤ 5000000 ∧ ∀ H', Same H H' → Q (.str (St (showE e))) H'
def spShP (K : PySem.W.Frag) (n : Nat) : Sp := fun vs H Q _ => ∃ v es, vs = [v] ∧ Dp K H v (.list (toDs es)) ∧ wfS es = true ∧ depS es ≤ n ∧ (showP es).length ≤ 5000000 ∧ ∀ H', Same H H' → Q (.str (St (showP es))) H'
def spShU (K : PySem.W.Frag) (n : Nat) : Sp := fun vs H Q _ => ∃ v e, vs = [v] ∧ Dp K H v e.toD ∧ e.wf = true ∧ e.dep ≤ n ∧ (undS e).length ≤ 5000000 ∧ ∀ H', Same H H' → Q (.str (St (undS e))) H'
theorem Dn.false_show_expression (T : Hd w K mg) (k : Nat) : Dn P w K mg base k "show_expression" (fun _ _ _ _ => False) := by
  obtain ⟨fd, F⟩ := T.fn_show_expression
  exact ⟨_, fd, ["expression"], ⟨fun _ _ _ _ h => h.elim, fun _ _ _ _ _ _ _ _ _ _ _ _ _ h => h.elim⟩, T.g_show_expression, F.kp, F.binds (ps := ["expression"]) fun _ _ _ _ _ _ us hl => match us, hl with | [_], _ => rfl⟩
theorem sc_shown_parts : FnScope ["parts", "part"] ["parts"] (defScope s_shown_parts) := ⟨rfl, rfl, rfl, by decide +kernel, rfl, by decide +kernel, by decide +kernel⟩
theorem ok_shown_parts (T : Hd w K mg) {k n : Nat} (hk : 1 ≤ k) (D_joined : Dn P w K mg base 1 "joined" (spJn K)) (D_show_expression : Dn P w K mg base k "show_expression" (spShow K n)) : Dn P w K mg base (k + 1) "shown_parts" (spShP K n) := by
  obtain ⟨fd, F⟩ := T.fn_shown_parts
  refine dn_mk F T.g_shown_parts (F.binds (ps := ["parts"]) fun _ _ _ _ _ _ us hl => match us, hl with | [_], _ => rfl) sc_shown_parts (fun vs H Q E h => ?_) (fun cdv A outer s H vs Q E hr tk h => ?_)
  · obtain ⟨v, es, rfl, hD, hw, hd, hb, q⟩ := h
    rfl
  obtain ⟨v, es, rfl, hD, hw, hd, hb, q⟩ := h
  refine ⟨_, (pss_one (ps_ret (pe_ifExp (pt_cmpR op_gt (pe_callB call_len (by rfl) T.f_len (by decide +kernel) (pa_cons (pv 0) pa_nil)) pe_int (nomark _)) (pe_d D_joined hr (by first | decide | omega) (fun σ => L2N.passAt tk σ) (by rfl) (pa_cons (pe_lc (own := [("part", 1)]) (by rfl) sc_shown_parts.nd (pi_seq (pv 0)) (blkOk_by (own := [("part", 1)]) (N := ["parts", "part"]) (sc := defScope s_shown_parts) (by decide +kernel)) (fun _ _ _ _ _ => (pg_name (i := 1) sc_shown_parts.nd rfl (Or.inl rfl))) (fun _ _ _ _ _ => pts_nil) (fun _ _ _ _ _ => (pe_d D_show_expression hr (by first | decide | omega) (fun σ => passN σ) (by rfl) (pa_cons (pv 1) pa_nil)))) pa_nil)) pe_str))), ?_⟩
  obtain ⟨a, xs, rfl, hL, hA⟩ := dp_list hD
  obtain ⟨g1, g2⟩ := showP_ge es
  walk_at "rd"
  have hlen : xs.length = es.length := by rw [DpAll.len hA, toDs_len]
  refine ⟨_, .inl ⟨xs, hL, rfl⟩, ?_⟩
  by_cases h0 : es = []
  · subst h0
    rw [if_neg (by rw [hlen]; decide)]
    have := q H (Same.refl _)
    rw [showP] at this
    exact this
  rw [if_pos (by have := List.length_pos_iff.mpr h0; omega)]
  refine tLc_list xs (es.map fun e => .str (St (showE e))) (fun R h => ⟨_, rfl, h _ _ (Same.refl _) hL⟩) (by rw [hlen, sizeLine_eq]; omega) (by rw [List.length_map, hlen]) (fun j c d H' Q' hc hd' s h => ⟨rfl, ?_⟩) (fun D H' nD s h => ⟨D, es.map showE, rfl, SqL.of (by rw [List.map_map, List.map_map]; exact h), ?_, ?_⟩)
  · walk_at "rd"
    rw [List.getElem?_map] at hd'
    cases he : es[j]? with
    | none => rw [he] at hd'; cases hd'
    | some e =>
      rw [he] at hd'
      injection hd' with hd'
      subst hd'
      have hm := List.mem_of_getElem? he
      have := g2 e hm
      exact ⟨c, e, rfl, Dp.same s (DpAll.at_ hA hc (toDs_at he)), wfS_mem.mp hw e hm, depS_le.mp hd e hm, by omega, h⟩
  · have := congrArg List.length (interT_P h0)
    simp at this
    omega
  · rw [interT_P h0]
    exact q H' s
theorem sc_shown_under : FnScope ["one"] ["one"] (defScope s_shown_under) := ⟨rfl, rfl, rfl, by decide +kernel, rfl, by decide +kernel, by decide +kernel⟩
theorem ok_shown_under (T : Hd w K mg) {k n : Nat} (D_show_expression : Dn P w K mg base k "show_expression" (spShow K n)) : Dn P w K mg base (k + 1) "shown_under" (spShU K n) := by
  obtain ⟨fd, F⟩ := T.fn_shown_under
  refine dn_mk F T.g_shown_under (F.binds (ps := ["one"]) fun _ _ _ _ _ _ us hl => match us, hl with | [_], _ => rfl) sc_shown_under (fun vs H Q E h => ?_) (fun cdv A outer s H vs Q E hr tk h => ?_)
  · obtain ⟨v, e, rfl, hD, hw, hd, hb, q⟩ := h
    rfl
  obtain ⟨v, e, rfl, hD, hw, hd, hb, q⟩ := h
  refine ⟨_, (pss_one (ps_ret (pe_ifExp (pt_cmpR op_eq (pe_ix ix_tup (pv 0) pe_int (fun _ _ => rfl)) pe_str (nomark _)) (pe_joined (PJ.cons pe_str (PJ.cons (pe_fmt (pe_d D_show_expression hr (by first | decide | omega) (fun σ => L2N.passAt tk σ) (by rfl) (pa_cons (pv 0) pa_nil))) (PJ.cons pe_str PJ.nil)))) (pe_d D_show_expression hr (by first | decide | omega) (fun σ => L2N.passAt tk σ) (by rfl) (pa_cons (pv 0) pa_nil))))), ?_⟩
  have hD0 := hD
  rw [toD_kids] at hD
  obtain ⟨ad, xs, rfl, hT, hA⟩ := dp_tup hD
  obtain ⟨v0, r, rfl, hv0, hB⟩ := dpa_cons hA
  obtain rfl := dp_str hv0
  walk_at "rd"
  refine ⟨_, hT, _, atI_nat (j := 0) rfl, rfl, ?_⟩
  have hu := undS_ge e
  cases ho : e.isOpX with
  | true =>
    have ew : e.word = "op" := by cases e <;> first | (simp [Ex.word]; done) | (cases ho; done)
    rw [ew, if_pos rfl]
    have e1 : (undS e) = 40 :: (showE e ++ [41]) := by unfold undS; rw [ho, if_pos rfl]
    rw [e1] at q hb
    simp only [List.length_cons, List.length_append, List.length_nil] at hb
    have hs := sizeLine_eq
    have e2 : Str.empty ++ Str.ofString "(" = St [40] := by decide +kernel
    refine ⟨_, rfl, by rw [e2, st_len, hs]; decide, _, rfl, ⟨_, e, rfl, hD0, hw, hd, by omega, fun H' s => .inl ⟨_, rfl, by rw [st_len, hs]; omega, _, rfl, ?_, _, rfl, ?_, ?_⟩⟩⟩
    · rw [e2, st_app, st_len, hs]
      simp
      omega
    · rw [e2, sc_rp, st_app, st_app, st_len, hs]
      simp
      omega
    · rw [e2, sc_rp, st_app, st_app]
      exact q H' s
  | false =>
    have ew : ¬ e.word = "op" := by
      cases e with
      | op s a b => cases ho
      | call n ps =>
        intro h
        rw [Ex.wf, Bool.and_eq_true] at hw
        have hn := callOk_cases hw.1
        have e1 : n = tl "op" := congrArg tl h
        rcases hn with ⟨h1, _⟩ | ⟨h1 | h1, _⟩ | ⟨h1 | h1 | h1, _⟩ | ⟨h1, _⟩ <;> rw [h1] at e1 <;> exact absurd e1 (by decide +kernel)
      | _ => (rw [Ex.word]; decide +kernel)
    rw [if_neg (by show ¬ V.str e.word = V.str "op"; exact fun h => ew (by injection h))]
    refine ⟨_, e, rfl, hD0, hw, hd, by omega, fun H' s => ?_⟩
    have := q H' s
    unfold undS at this
    rw [ho] at this
    exact this
theorem kif_t {a b : Str} {B C : Prop} (h : a = b) (y : B) : if V.str a = V.str b then B else C := by rw [if_pos (by rw [h])]; exact y
theorem kif_f {a b : Str} {B C : Prop} (h : ¬ a = b) (y : C) : if V.str a = V.str b then B else C := by rw [if_neg (fun e => h (by injection e))]; exact y
theorem dpa_nil {H : Hp} {r : List V} (h : DpAll K H r []) : r = [] := by cases h; rfl
theorem dpa1 {H : Hp} {r : List V} {d : PyData} (h : DpAll K H r [d]) : ∃ v, r = [v] ∧ Dp K H v d := by
  obtain ⟨v, r', rfl, h1, h2⟩ := dpa_cons h
  rw [dpa_nil h2]
  exact ⟨v, rfl, h1⟩
theorem dpa2 {H : Hp} {r : List V} {d e : PyData} (h : DpAll K H r [d, e]) : ∃ v u, r = [v, u] ∧ Dp K H v d ∧ Dp K H u e := by
  obtain ⟨v, r', rfl, h1, h2⟩ := dpa_cons h
  obtain ⟨u, rfl, h3⟩ := dpa1 h2
  exact ⟨v, u, rfl, h1, h3⟩
theorem dpa3 {H : Hp} {r : List V} {d e f : PyData} (h : DpAll K H r [d, e, f]) : ∃ v u x, r = [v, u, x] ∧ Dp K H v d ∧ Dp K H u e ∧ Dp K H x f := by
  obtain ⟨v, r', rfl, h1, h2⟩ := dpa_cons h
  obtain ⟨u, x, rfl, h3, h4⟩ := dpa2 h2
  exact ⟨v, u, x, rfl, h1, h3, h4⟩
theorem call_word {n : Tx} {ps : List Ex} (h : callOk n ps = true) : ∀ s : Str, s ∈ ([Str.ofString "is", Str.ofString "var", Str.ofString "at", Str.ofString "short", Str.ofString "op", Str.ofString "not", Str.ofString "minus"] : List Str) → ¬ St n = s := by
  intro s hs e
  have e1 : n = tl s := by rw [← e]; rfl
  have hn := callOk_cases h
  have key : ∀ s ∈ ([Str.ofString "is", Str.ofString "var", Str.ofString "at", Str.ofString "short", Str.ofString "op", Str.ofString "not", Str.ofString "minus"] : List Str), tl s ≠ tl "length" ∧ tl s ≠ tl "piece" ∧ tl s ≠ tl "part" ∧ tl s ≠ tl "order" ∧ tl s ≠ tl "back" ∧ tl s ≠ tl "data" ∧ tl s ≠ tl "other" := by decide +kernel
  obtain ⟨k1, k2, k3, k4, k5, k6, k7⟩ := key s hs
  rcases hn with ⟨h1, _⟩ | ⟨h1 | h1, _⟩ | ⟨h1 | h1 | h1, _⟩ | ⟨h1, _⟩ <;> rw [h1] at e1 <;> first | exact k1 e1.symm | exact k2 e1.symm | exact k3 e1.symm | exact k4 e1.symm | exact k5 e1.symm | exact k6 e1.symm | exact k7 e1.symm
theorem in2 (z : Str) : inV (V.str z) [V.str "var", V.str "at"] = decide (z ∈ ([Str.ofString "var", Str.ofString "at"] : List Str)) := inV_strs z [Str.ofString "var", Str.ofString "at"]
theorem big2 {l : Tx} (h : l.length ≤ 5000000) : (St l).length ≤ sizeLine := by rw [st_len, sizeLine_eq]; omega
theorem rIn_var {H : Hp} {p : Addr} {z : Str} {Q : VK} (hp : H p = some (.tup [V.str "var", V.str "at"])) (q : Q (.bl (decide (z ∈ ([Str.ofString "var", Str.ofString "at"] : List Str)))) H) : rIn K false (V.str z) (V.ref p) H Q := by
  refine ⟨_, _, rfl, .inr (SqT.of hp), rfl, rfl, ?_⟩
  rw [in2]
  exact q
theorem sc_show_expression : FnScope ["expression", "kind", "rest", "sign", "one", "other"] ["expression"] (defScope s_show_expression) := ⟨rfl, rfl, rfl, by decide +kernel, rfl, by decide +kernel, by decide +kernel⟩
theorem ok_show_expression (T : Hd w K mg) {k n : Nat} (hk : 3 ≤ k) (D_shown_worth : Dn P w K mg base 3 "shown_worth" spShownW) (D_joined : Dn P w K mg base 1 "joined" (spJn K)) (D_shown_parts : Dn P w K mg base k "shown_parts" (spShP K n)) (D_shown_under : Dn P w K mg base k "shown_under" (spShU K n)) (D_show_expression : Dn P w K mg base k "show_expression" (spShow K n)) : Dn P w K mg base (k + 1) "show_expression" (spShow K (n + 1)) := by
  obtain ⟨fd, F⟩ := T.fn_show_expression
  refine dn_mk F T.g_show_expression (F.binds (ps := ["expression"]) fun _ _ _ _ _ _ us hl => match us, hl with | [_], _ => rfl) sc_show_expression (fun vs H Q E h => ?_) (fun cdv A outer s H vs Q E hr tk h => ?_)
  · obtain ⟨v, e, rfl, hD, hw, hd, hb, q⟩ := h
    rfl
  obtain ⟨v, e, rfl, hD, hw, hd, hb, q⟩ := h
  refine ⟨_, (pss_cons (ps_asg (pv 0) (pg_star (by rfl) (pgs_cons (pg_name (i := 1) sc_show_expression.nd rfl (by first | exact Or.inl rfl | exact Or.inr rfl)) (pgs_star (pg_name (i := 2) sc_show_expression.nd rfl (by first | exact Or.inl rfl | exact Or.inr rfl)))))) (pss_cons (ps_if (pt_cmpR op_eq (pv 1) pe_str (nomark _)) (pss_one (ps_ret (pe_d D_shown_worth hr (by first | decide | omega) (fun σ => L2N.passAt tk σ) (by rfl) (pa_cons (pe_ix ix_list (pv 2) pe_int (fun _ _ => rfl)) pa_nil)))) pss_nil) (pss_cons (ps_if (pt_cmpR op_in_seq (pv 1) (pe_tup (pa_cons pe_str (pa_cons pe_str pa_nil))) rfl) (pss_one (ps_ret (pe_op op_add_str (pe_op op_add_str (pe_ifExp (pt_cmpR op_eq (pv 1) pe_str (nomark _)) pe_str pe_str) (pe_ix ix_list (pv 2) pe_int (fun _ _ => rfl))) (pe_d D_shown_parts hr (by first | decide | omega) (fun σ => L2N.passAt tk σ) (by rfl) (pa_cons (pe_ix ix_list (pv 2) pe_int (fun _ _ => rfl)) pa_nil))))) pss_nil) (pss_cons (ps_if (pt_cmpR op_eq (pv 1) pe_str (nomark _)) (pss_one (ps_ret (pe_op op_add_str pe_str (pe_d D_shown_parts hr (by first | decide | omega) (fun σ => L2N.passAt tk σ) (by rfl) (pa_cons (pe_ix ix_list (pv 2) pe_int (fun _ _ => rfl)) pa_nil))))) pss_nil) (pss_cons (ps_if (pt_cmpR op_eq (pv 1) pe_str (nomark _)) (pss_cons (ps_asg (pv 2) (pg_unl (by rfl) (pgs_cons (pg_name (i := 3) sc_show_expression.nd rfl (by first | exact Or.inl rfl | exact Or.inr rfl)) (pgs_cons (pg_name (i := 4) sc_show_expression.nd rfl (by first | exact Or.inl rfl | exact Or.inr rfl)) (pgs_cons (pg_name (i := 5) sc_show_expression.nd rfl (by first | exact Or.inl rfl | exact Or.inr rfl)) pgs_nil))))) (pss_one (ps_ret (pe_op op_add_str (pe_op op_add_str (pe_d D_show_expression hr (by first | decide | omega) (fun σ => L2N.passAt tk σ) (by rfl) (pa_cons (pv 4) pa_nil)) (pv 3)) (pe_d D_shown_under hr (by first | decide | omega) (fun σ => L2N.passAt tk σ) (by rfl) (pa_cons (pv 5) pa_nil)))))) pss_nil) (pss_cons (ps_if (pt_cmpR op_eq (pv 1) pe_str (nomark _)) (pss_one (ps_ret (pe_op op_add_str pe_str (pe_d D_shown_under hr (by first | decide | omega) (fun σ => L2N.passAt tk σ) (by rfl) (pa_cons (pe_ix ix_list (pv 2) pe_int (fun _ _ => rfl)) pa_nil))))) pss_nil) (pss_cons (ps_if (pt_cmpR op_eq (pv 1) pe_str (nomark _)) (pss_one (ps_ret (pe_op op_add_str pe_str (pe_d D_shown_under hr (by first | decide | omega) (fun σ => L2N.passAt tk σ) (by rfl) (pa_cons (pe_ix ix_list (pv 2) pe_int (fun _ _ => rfl)) pa_nil))))) pss_nil) (pss_one (ps_ret (pe_op op_add_str (pe_op op_add_str pe_str (pv 1)) (pe_d D_joined hr (by first | decide | omega) (fun σ => L2N.passAt tk σ) (by rfl) (pa_cons (pe_lc (own := [("one", 4)]) (by rfl) sc_show_expression.nd (pi_seq (pv 2)) (blkOk_by (own := [("one", 4)]) (N := ["expression", "kind", "rest", "sign", "one", "other"]) (sc := defScope s_show_expression) (by decide +kernel)) (fun _ _ _ _ _ => (pg_name (i := 4) sc_show_expression.nd rfl (Or.inl rfl))) (fun _ _ _ _ _ => pts_nil) (fun _ _ _ _ _ => (pe_d D_show_expression hr (by first | decide | omega) (fun σ => passN σ) (by rfl) (pa_cons (pv 4) pa_nil)))) pa_nil)))))))))))), ?_⟩
  have hD0 := hD
  rw [toD_kids] at hD
  obtain ⟨ad, xs, rfl, hT, hA⟩ := dp_tup hD
  obtain ⟨v0, r, rfl, hv0, hB⟩ := dpa_cons hA
  obtain rfl := dp_str hv0
  have hlen : r.length = e.kids.length := by rw [DpAll.len hB, List.length_map]
  have h3 := kids_three hw
  walk_at "rd"
  refine ⟨_, _, hT, by omega, fun D nD => ?_⟩
  have s1 := same_new (u := .lst r) nD
  have hL : SqL K (upd H D (.lst r)) D r := SqL.of upd_same
  have s2 : ∀ p, upd H D (.lst r) p = none → Same H (upd (upd H D (.lst r)) p (.tup [V.str "var", V.str "at"])) := fun p np => s1.trans (same_new np)
  have hL2 : ∀ p, upd H D (.lst r) p = none → SqL K (upd (upd H D (.lst r)) p (.tup [V.str "var", V.str "at"])) D r := fun p np => (same_new np).seq hL
  have hs := sizeLine_eq
  refine ⟨rfl, ?_⟩
  cases e with
  | is wo =>
    obtain ⟨v1, rfl, h1⟩ := dpa1 (show DpAll K H r [.str (St wo)] from hB)
    obtain rfl := dp_str h1
    have hk := kids_bd _ hb (.s (St wo)) (by simp [Ex.kids])
    refine kif_t rfl ⟨_, hL, _, atI_nat (j := 0) rfl, _, rfl, hk, ?_⟩
    have := q _ s1
    rw [showE] at this
    exact this
  | var m ps =>
    obtain ⟨v1, v2, rfl, h1, h2⟩ := dpa2 (show DpAll K H r [.str (St m), .list (toDs ps)] from hB)
    obtain rfl := dp_str h1
    rw [Ex.wf, Bool.and_eq_true] at hw
    rw [Ex.dep] at hd
    rw [showE] at hb q
    rw [List.length_append] at hb
    refine kif_f (by rw [Ex.word]; decide +kernel) ⟨by rw [hs]; decide, fun p np => rIn_var upd_same ⟨true, rfl, ?_⟩⟩
    rw [if_pos rfl]
    refine ⟨rfl, kif_f (by rw [Ex.word]; decide +kernel) ⟨_, hL2 p np, _, atI_nat (j := 0) rfl, _, rfl, ?_, _, hL2 p np, _, atI_nat (j := 1) rfl, v2, ps, rfl, Dp.same (s2 p np) h2, hw.2, by omega, by omega, fun H' s' => ⟨_, rfl, ?_, ?_⟩⟩⟩
    · rw [st_len, hs]
      show 0 + m.length ≤ _
      omega
    · rw [sc_emp, st_app, st_len, st_len, hs, List.nil_append]
      omega
    · rw [sc_emp, st_app, st_app, List.nil_append]
      exact q H' ((s2 p np).trans s')
  | at_ m ps =>
    obtain ⟨v1, v2, rfl, h1, h2⟩ := dpa2 (show DpAll K H r [.str (St m), .list (toDs ps)] from hB)
    obtain rfl := dp_str h1
    rw [Ex.wf, Bool.and_eq_true] at hw
    rw [Ex.dep] at hd
    rw [showE] at hb q
    rw [List.length_cons, List.length_append] at hb
    refine kif_f (by rw [Ex.word]; decide +kernel) ⟨by rw [hs]; decide, fun p np => rIn_var upd_same ⟨true, rfl, ?_⟩⟩
    rw [if_pos rfl]
    refine ⟨rfl, kif_t rfl ⟨_, hL2 p np, _, atI_nat (j := 0) rfl, _, rfl, ?_, _, hL2 p np, _, atI_nat (j := 1) rfl, v2, ps, rfl, Dp.same (s2 p np) h2, hw.2, by omega, by omega, fun H' s' => ⟨_, rfl, ?_, ?_⟩⟩⟩
    · rw [st_len, hs]
      show 1 + m.length ≤ _
      omega
    · rw [sc_up, st_app, st_len, st_len, hs]
      simp
      omega
    · rw [sc_up, st_app, st_app]
      exact q H' ((s2 p np).trans s')
  | short ps =>
    obtain ⟨v1, rfl, h1⟩ := dpa1 (show DpAll K H r [.list (toDs ps)] from hB)
    rw [Ex.wf, Bool.and_eq_true] at hw
    rw [Ex.dep] at hd
    rw [showE] at hb q
    rw [List.length_cons] at hb
    refine kif_f (by rw [Ex.word]; decide +kernel) ⟨by rw [hs]; decide, fun p np => rIn_var upd_same ⟨false, rfl, ?_⟩⟩
    rw [if_neg (by decide)]
    refine ⟨rfl, kif_t rfl ⟨_, hL2 p np, _, atI_nat (j := 0) rfl, v1, ps, rfl, Dp.same (s2 p np) h1, hw.2, by omega, by omega, fun H' s' => ⟨_, rfl, ?_, ?_⟩⟩⟩
    · rw [Nat.add_comm, st_len, hs]
      show _ + 1 ≤ _
      omega
    · rw [sc_up, st_app]
      exact q H' ((s2 p np).trans s')
  | op si a b =>
    obtain ⟨v1, v2, v3, rfl, h1, h2, h3'⟩ := dpa3 (show DpAll K H r [.str (St [si]), a.toD, b.toD] from hB)
    obtain rfl := dp_str h1
    rw [Ex.wf, Bool.and_eq_true, Bool.and_eq_true] at hw
    rw [Ex.dep] at hd
    have e1 : showE (.op si a b) = showE a ++ si :: undS b := by rw [showE]; rfl
    rw [e1] at hb q
    rw [List.length_append, List.length_cons] at hb
    refine kif_f (by rw [Ex.word]; decide +kernel) ⟨by rw [hs]; decide, fun p np => rIn_var upd_same ⟨false, rfl, ?_⟩⟩
    rw [if_neg (by decide)]
    refine ⟨rfl, kif_f (by rw [Ex.word]; decide +kernel) ⟨rfl, kif_t rfl ⟨_, hL2 p np, rfl, _, _, rfl, _, _, rfl, _, _, rfl, rfl, v2, a, rfl, Dp.same (s2 p np) h2, hw.2.1, by omega, by omega, fun H' s' => ⟨_, rfl, _, rfl, ?_, v3, b, rfl, Dp.same ((s2 p np).trans s') h3', hw.2.2, by omega, by omega, fun H'' s'' => ⟨_, rfl, ?_, ?_⟩⟩⟩⟩⟩
    · rw [st_len, st_len, hs]
      simp
      omega
    · rw [st_app, st_len, st_len, hs]
      simp
      omega
    · rw [st_app, st_app]
      have := q H'' (((s2 p np).trans s').trans s'')
      rw [List.append_assoc]
      exact this
  | not a =>
    obtain ⟨v1, rfl, h1⟩ := dpa1 (show DpAll K H r [a.toD] from hB)
    rw [Ex.wf] at hw
    rw [Ex.dep] at hd
    have e1 : showE (.not a) = 39 :: undS a := by rw [showE]; rfl
    rw [e1] at hb q
    rw [List.length_cons] at hb
    refine kif_f (by rw [Ex.word]; decide +kernel) ⟨by rw [hs]; decide, fun p np => rIn_var upd_same ⟨false, rfl, ?_⟩⟩
    rw [if_neg (by decide)]
    refine ⟨rfl, kif_f (by rw [Ex.word]; decide +kernel) ⟨rfl, kif_f (by rw [Ex.word]; decide +kernel) ⟨rfl, kif_t rfl ⟨_, hL2 p np, _, atI_nat (j := 0) rfl, v1, a, rfl, Dp.same (s2 p np) h1, hw, by omega, by omega, fun H' s' => ⟨_, rfl, ?_, ?_⟩⟩⟩⟩⟩
    · rw [Nat.add_comm, st_len, hs]
      show _ + 1 ≤ _
      omega
    · rw [sc_ap, st_app]
      exact q H' ((s2 p np).trans s')
  | minus a =>
    obtain ⟨v1, rfl, h1⟩ := dpa1 (show DpAll K H r [a.toD] from hB)
    rw [Ex.wf] at hw
    rw [Ex.dep] at hd
    have e1 : showE (.minus a) = 45 :: undS a := by rw [showE]; rfl
    rw [e1] at hb q
    rw [List.length_cons] at hb
    refine kif_f (by rw [Ex.word]; decide +kernel) ⟨by rw [hs]; decide, fun p np => rIn_var upd_same ⟨false, rfl, ?_⟩⟩
    rw [if_neg (by decide)]
    refine ⟨rfl, kif_f (by rw [Ex.word]; decide +kernel) ⟨rfl, kif_f (by rw [Ex.word]; decide +kernel) ⟨rfl, kif_f (by rw [Ex.word]; decide +kernel) ⟨rfl, kif_t rfl ⟨_, hL2 p np, _, atI_nat (j := 0) rfl, v1, a, rfl, Dp.same (s2 p np) h1, hw, by omega, by omega, fun H' s' => ⟨_, rfl, ?_, ?_⟩⟩⟩⟩⟩⟩
    · rw [Nat.add_comm, st_len, hs]
      show _ + 1 ≤ _
      omega
    · rw [sc_mi, st_app]
      exact q H' ((s2 p np).trans s')
  | call m ps =>
    rw [Ex.wf, Bool.and_eq_true] at hw
    rw [Ex.dep] at hd
    rw [showE] at hb q
    rw [List.length_cons, List.length_append] at hb
    have cw := call_word hw.1
    have hne : ps ≠ [] := by
      rintro rfl
      rcases callOk_cases hw.1 with ⟨_, _, h⟩ | ⟨_, _, _, _, h⟩ | ⟨_, _, h, _⟩ | ⟨_, _, _, h, _⟩ <;> cases h
    obtain ⟨g1, g2⟩ := showP_ge ps
    refine kif_f (cw _ (by simp)) ⟨by rw [hs]; decide, fun p np => rIn_var upd_same ⟨false, ?_, ?_⟩⟩
    · congr 1
      rw [decide_eq_false]
      intro hm
      simp only [List.mem_cons, List.not_mem_nil, or_false] at hm
      rcases hm with hm | hm
      · exact cw _ (by simp) hm
      · exact cw _ (by simp) hm
    rw [if_neg (by decide)]
    have hkl : (Ex.call m ps).kids.length = ps.length := by simp [Ex.kids]
    have e36 : Str.ofString "$" = St [36] := sc_do
    refine ⟨rfl, kif_f (cw _ (by simp)) ⟨rfl, kif_f (cw _ (by simp)) ⟨rfl, kif_f (cw _ (by simp)) ⟨rfl, kif_f (cw _ (by simp)) ⟨St m, rfl, ?_, ?_⟩⟩⟩⟩⟩
    · rw [Nat.add_comm, st_len, hs]
      show _ + 1 ≤ _
      omega
    refine tLc_list r (ps.map fun e => .str (St (showE e))) (fun R h => ⟨_, rfl, h _ _ (Same.refl _) (hL2 p np)⟩) (by rw [hlen, hs]; omega) (by rw [List.length_map, hlen, hkl]) (fun j c d H' Q' hc hd' s h => ⟨rfl, ?_⟩) (fun D2 H' nD2 s' h => ⟨D2, ps.map showE, rfl, SqL.of (by rw [List.map_map, List.map_map]; exact h), ?_, ?_⟩)
    · walk_at "rd"
      rw [List.getElem?_map] at hd'
      cases he : ps[j]? with
      | none => rw [he] at hd'; cases hd'
      | some e =>
        rw [he] at hd'
        injection hd' with hd'
        subst hd'
        have hm := List.mem_of_getElem? he
        have hg := g2 e hm
        have hkd : ((Ex.call m ps).kids.map Kid.toD)[j]? = some e.toD := by
          rw [List.getElem?_map]
          show ((ps.map Kid.e)[j]?).map Kid.toD = _
          rw [List.getElem?_map, he]
          rfl
        exact ⟨c, e, rfl, Dp.same ((s2 p np).trans s) (DpAll.at_ hB hc hkd), wfS_mem.mp hw.2 e hm, depS_le.mp (by omega : depS ps ≤ n) e hm, by omega, h⟩
    · have := congrArg List.length (interT_P hne)
      simp at this
      omega
    · rw [interT_P hne]
      refine ⟨_, rfl, ?_, ?_⟩
      · rw [e36, st_app, st_len, st_len, hs]
        simp
        omega
      · rw [e36, st_app, st_app]
        exact q H' ((s2 p np).trans s')
/-- how expressions are written, of at most n within one another -/
theorem sh_chain (T : Hd w K mg) : ∀ n : Nat, Dn P w K mg base (2 * n + 3) "show_expression" (spShow K n) ∧ Dn P w K mg base (2 * n + 4) "shown_parts" (spShP K n) ∧ Dn P w K mg base (2 * n + 4) "shown_under" (spShU K n)
  | 0 => by
    have hj := ok_joined (P := P) (base := base) T
    have h0 : Dn P w K mg base (2 * 0 + 3) "show_expression" (spShow K 0) := (Dn.false_show_expression T _).imp fun vs H Q E h => by
      obtain ⟨v, e, _, _, _, hd, _⟩ := h
      have := dep_pos e
      omega
    exact ⟨h0, ok_shown_parts T (by omega) hj h0, ok_shown_under T h0⟩
  | n + 1 => by
    have R := rds (P := P) (base := base) T
    have hj := ok_joined (P := P) (base := base) T
    obtain ⟨a, b, c⟩ := sh_chain T n
    have h0 := ok_show_expression T (by omega) R.shown_worth hj b c (a.mono (by omega))
    exact ⟨h0, ok_shown_parts T (by omega) hj h0, ok_shown_under T h0⟩
end
end Sk

/-! ## W1 -/
namespace Sk
open PySem PySem.Spec PyProof.Rows L2
set_option hygiene false in
local macro_rules | `(tactic| walk_at "rd") => `(tactic| simp only [tVar, tC, tB, tAnd, tOr, tNot, tAndV, tOrV, tNotV, tIf, tNext, tSeq, tBreak, tCont, tDrop, tRet, tRetN, tIfS, tAsg, tAug, tOp, tUn, tTest, tChain, tFld, sFldAug, sFld, rAdd, tNil, tCons, tTup, tLst, tCB, tNoPart, tPart, tSl, tBM0, tBM, tYes, tM0, tM1, CwR.tReplC, tCallS, tMethS, tMakeS, gName, wipe, tyV, gTup, gCons, gNil,
  rI, rI0, rEq, rNe, scal, rPlus, rPlusI, rPlusS, rCat, rCatA, rIx, rIxL, rIxT, rIxS, rSl, rSlS, rSlL, rSlA, iPlus, iPlusI, iPlusS, ipI, rAll, rAny, LenV, WE, E0, rAppend,
  L2.start, List.map_cons, List.map_nil, List.length_cons, List.length_nil, Nat.zero_add, Nat.add_zero, Nat.reduceAdd, Nat.reduceSub, Nat.sub_self, List.replicate_zero, List.replicate_succ, List.append_nil, List.nil_append, List.cons_append, List.getElem?_cons_zero, List.getElem?_cons_succ, List.set_cons_zero, List.set_cons_succ, Option.some.injEq,
  V.int.injEq, V.str.injEq, V.bl.injEq, V.ref.injEq, V.ty.injEq, HO.ins.injEq, HO.lst.injEq, HO.tup.injEq, List.cons.injEq, reduceCtorEq, false_and, and_false, true_and, and_true, and_assoc, exists_const, exists_false, false_or, or_false, exists_eq_left', exists_eq_left, exists_eq_right, exists_eq_right', exists_and_left, ↓reduceIte, decide_eq_true_eq, Bool.not_eq_true', decide_eq_false_iff_not, if_true, if_false, cxOf, and_self, Bool.not_true, Bool.not_false, Bool.false_eq_true,
  sf_signs, sf_spot, sf_put, T.cl_Source, T.na_Source_signs, T.na_Source_spot, sg_inj, upd_same, rIsS, tyN, kb1, kb2, kb3, kb4, kb5, kb6, kb7, kb8, kb9, kb10, kb11, kb12, kb13, kb14, kb15, kb16, kb17, kb18, kb19, kb20, kb21, tDNewK, rPowW, gStar, gUnl])
/-! ### how the law writes expressions -/
section
variable {P : Program} {w : World} {K : PySem.W.Frag} {mg : Str → Option Value} {base : Heap}
def spOwn : Sp := fun vs H Q _ => ∃ z, vs = [.str z] ∧ isWorthT (tl z) = true ∧ z.length ≤ 5000000 ∧ ∀ H', Same H H' → Q (.bl (isOwnT (tl z))) H'
theorem sc__law_is_own : FnScope ["worth", "sign"] ["worth"] (defScope s__law_is_own) := ⟨rfl, rfl, rfl, by decide +kernel, rfl, by decide +kernel, by decide +kernel⟩
theorem ok__law_is_own (T : Hd w K mg)  : Dn P w K mg base 1 "_law_is_own" (spOwn) := by
  obtain ⟨fd, F⟩ := T.fn__law_is_own
  refine dn_mk F T.g__law_is_own (F.binds (ps := ["worth"]) fun _ _ _ _ _ _ us hl => match us, hl with | [_], _ => rfl) sc__law_is_own (fun vs H Q E h => ?_) (fun cdv A outer s H vs Q E hr tk h => ?_)
  · obtain ⟨z, rfl, hw, hz, q⟩ := h
    rfl
  obtain ⟨z, rfl, hw, hz, q⟩ := h
  refine ⟨_, (pss_cons (ps_if (PW.pt (pw_or (pt_cmpR op_eq (pv 0) pe_str (nomark _)) (pw_or1 (pt_cmpR (op_neD hr.units) (pe_lc (own := [("sign", 1)]) (by rfl) sc__law_is_own.nd (pi_seq (pv 0)) (blkOk_by (own := [("sign", 1)]) (N := ["worth", "sign"]) (sc := defScope s__law_is_own) (by decide +kernel)) (fun _ _ _ _ _ => (pg_name (i := 1) sc__law_is_own.nd rfl (Or.inl rfl))) (fun _ _ _ _ _ => (pts_one (pt_cmpR op_notIn_sign (pv 1) pe_str rfl))) (fun _ _ _ _ _ => (pv 1))) (pe_lst pa_nil) (nomark _))))) (pss_one (ps_ret pe_bl)) pss_nil) (pss_one (ps_ret (pe_or (pe_cmpR op_eq (pv 0) pe_str (nomark _)) (pe_one (pe_cmpR op_ne (pe_ix ix_str (pv 0) pe_int (fun _ _ => rfl)) pe_str (nomark _))))))), ?_⟩
  walk_at "rd"
  have ez : (z = Str.ofString "") = (tl z = []) := by rw [sc_emp, z_eq]
  have e0 : (z = Str.ofString "0") = (tl z = [48]) := by rw [sc_zero, z_eq]
  simp only [ez, e0]
  have io := isOwn_eq (tl z)
  by_cases h0 : tl z = []
  · rw [if_pos h0]
    rw [h0, show decide (([] : Tx) ≠ []) = false from rfl, Bool.false_and] at io
    have := q H (Same.refl _)
    rw [h0, io] at this
    exact this
  rw [if_neg h0]
  rw [decide_eq_true h0, Bool.true_and] at io
  refine tLc_strF z (fun c => !isFig c) (fun R h => ⟨_, rfl, h⟩) (Nat.le_trans hz big1) (fun c H' hc s => ⟨rfl, fun R h => ?_, fun R2 h => ⟨_, rfl, h⟩⟩) (fun D H' nD s h => ⟨Nat.zero_le _, fun p np => ?_⟩)
  · walk_at "rd"
    exact h
  have hlt : ∀ c ∈ z.cps.toList.filter fun c => !isFig c, c < 1114112 := fun c hc => sign_lt c (List.all_eq_true.mp hw c (List.mem_filter.mp hc).1)
  refine ⟨.list ((z.cps.toList.filter fun c => !isFig c).map fun c => .str ⟨#[c]⟩), .list [], .lst (SqL.of ((same_new np) _ _ h)) (signs_dp _), .lst (SqL.of upd_same) .nil, signs_shaped hlt, rfl, ?_⟩
  rw [signs_eqv]
  refine ⟨_, rfl, ?_⟩
  have sf : Same H (upd H' p (.lst [])) := s.trans (same_new np)
  by_cases hf : (z.cps.toList.filter fun c => !isFig c) = []
  · have ha : (tl z).all isFig = true := by
      rw [List.all_eq_true]
      intro c hc
      have := (List.filter_eq_nil_iff.mp hf) c hc
      simpa using this
    rw [ha, Bool.true_and] at io
    rw [if_neg (by rw [decide_eq_true hf]; decide)]
    by_cases h1 : tl z = [48]
    · rw [if_pos h1]
      have := q _ sf
      rw [io, decide_eq_true h1, Bool.true_or] at this
      exact this
    · rw [if_neg h1]
      cases hc : tl z with
      | nil => exact absurd hc h0
      | cons c r =>
        refine ⟨Nat.le_trans hz big1, c, atI_nat (j := 0) (by show (tl z)[0]? = some c; rw [hc]; rfl), ?_⟩
        have := q _ sf
        rw [io, decide_eq_false h1, Bool.false_or, hc] at this
        have e : (!decide ((⟨#[c]⟩ : Str) = Str.ofString "0")) = decide (List.take 1 (c :: r) ≠ [48]) := by
          rw [sc_zero, sg_st, ← decide_not, decide_eq_decide, st_eq]
          rfl
        rw [e]
        exact this
  · rw [if_pos (by rw [decide_eq_false hf]; rfl)]
    have ha : (tl z).all isFig = false := by
      rw [Bool.eq_false_iff]
      intro ha
      apply hf
      rw [List.filter_eq_nil_iff]
      intro c hc
      have := List.all_eq_true.mp ha c hc
      simp [this]
    rw [ha, Bool.false_and] at io
    have := q _ sf
    rw [io] at this
    exact this
def spLW : Sp := fun vs H Q _ => ∃ z, vs = [.str z] ∧ isWorthT (tl z) = true ∧ z.length ≤ 5000000 ∧ ∀ H', Same H H' → Q (.str (St (shownW (tl z)))) H'
theorem sc__law_worth_shown : FnScope ["worth"] ["worth"] (defScope s__law_worth_shown) := ⟨rfl, rfl, rfl, by decide +kernel, rfl, by decide +kernel, by decide +kernel⟩
theorem ok__law_worth_shown (T : Hd w K mg) (D__law_is_own : Dn P w K mg base 1 "_law_is_own" spOwn) : Dn P w K mg base 2 "_law_worth_shown" (spLW) := by
  obtain ⟨fd, F⟩ := T.fn__law_worth_shown
  refine dn_mk F T.g__law_worth_shown (F.binds (ps := ["worth"]) fun _ _ _ _ _ _ us hl => match us, hl with | [_], _ => rfl) sc__law_worth_shown (fun vs H Q E h => ?_) (fun cdv A outer s H vs Q E hr tk h => ?_)
  · obtain ⟨z, rfl, hw, hz, q⟩ := h
    rfl
  obtain ⟨z, rfl, hw, hz, q⟩ := h
  refine ⟨_, (pss_one (ps_ret (pe_ifExp (pt_val (pe_d D__law_is_own hr (by first | decide | omega) (fun σ => L2N.passAt tk σ) (by rfl) (pa_cons (pv 0) pa_nil))) (pv 0) (pe_op op_add_str (pe_strT op_add_str (CwR.pet_replC (pv 0))) pe_str)))), ?_⟩
  walk_at "rd"
  refine ⟨z, rfl, hw, hz, fun H1 s => ⟨_, rfl, ?_⟩⟩
  have := q H1 s
  cases ho : isOwnT (tl z) with
  | true =>
    rw [if_pos rfl]
    rw [shownW_own ho] at this
    exact this
  | false =>
    rw [if_neg (by decide)]
    rw [shownW_q ho] at this
    rw [sc_q, sc_qq, repl_q, st_app, st_app]
    have h1 := dblQ_len (tl z)
    rw [tl_len] at h1
    have hs := sizeLine_eq
    have e1 : (St [34, 34]).length = 2 := rfl
    have e2 : (St [34]).length = 1 := rfl
    refine ⟨by rw [e1]; omega, by rw [e2, st_len]; omega, ?_, ?_⟩
    · rw [e2, st_len, List.length_append]
      simp
      omega
    · exact this
theorem sc__law_parts_shown : FnScope ["parts", "one"] ["parts"] (defScope s__law_parts_shown) := ⟨rfl, rfl, rfl, by decide +kernel, rfl, by decide +kernel, by decide +kernel⟩
theorem ok__law_parts_shown (T : Hd w K mg) {k n : Nat} (hn : n ≤ 30) (D__law_shown : Dn P w K mg base k "_law_shown" (spShow K n)) : Dn P w K mg base (k + 1) "_law_parts_shown" (spShP K n) := by
  obtain ⟨fd, F⟩ := T.fn__law_parts_shown
  refine dn_mk F T.g__law_parts_shown (F.binds (ps := ["parts"]) fun _ _ _ _ _ _ us hl => match us, hl with | [_], _ => rfl) sc__law_parts_shown (fun vs H Q E h => ?_) (fun cdv A outer s H vs Q E hr tk h => ?_)
  · obtain ⟨v, es, rfl, hD, hw, hd, hb, q⟩ := h
    rfl
  obtain ⟨v, es, rfl, hD, hw, hd, hb, q⟩ := h
  refine ⟨_, (pss_cons (ps_if (pt_cmpR (op_eqD hr.units) (pv 0) (pe_lst pa_nil) (nomark _)) (pss_one (ps_ret pe_str)) pss_nil) (pss_one (ps_ret (pe_op op_add_str (pe_op op_add_str pe_str (pe_bm PySem.F.plainAttrs_str PySem.F.slot_str_join PySem.F.type_str_join mt_join pe_str (pa_cons (pe_lc (own := [("one", 1)]) (by rfl) sc__law_parts_shown.nd (pi_seq (pv 0)) (blkOk_by (own := [("one", 1)]) (N := ["parts", "one"]) (sc := defScope s__law_parts_shown) (by decide +kernel)) (fun _ _ _ _ _ => (pg_name (i := 1) sc__law_parts_shown.nd rfl (Or.inl rfl))) (fun _ _ _ _ _ => pts_nil) (fun _ _ _ _ _ => (pe_d D__law_shown hr (by first | decide | omega) (fun σ => passN σ) (by rfl) (pa_cons (pv 1) pa_nil)))) pa_nil))) pe_str)))), ?_⟩
  obtain ⟨a, xs, rfl, hL, hA⟩ := dp_list hD
  obtain ⟨g1, g2⟩ := showP_ge es
  walk_at "rd"
  have hlen : xs.length = es.length := by rw [DpAll.len hA, toDs_len]
  have hs := sizeLine_eq
  have e2 : (Str.ofString "(").length = 1 := rfl
  have e3 : (Str.ofString ")").length = 1 := rfl
  have e1 : (Str.ofString ",").length = 1 := rfl
  refine ⟨Nat.zero_le _, fun p np => ?_⟩
  have s1 := same_new (u := .lst []) np
  obtain ⟨c1, c2⟩ := toDs_shape es hw
  have sh : SeqAt.shaped (.list (toDs es)) = true := by
    unfold SeqAt.shaped
    rw [show (PyData.list (toDs es)).canLay0 = true by simpa [PyData.canLay0] using c1, decide_eq_true (by simp [PyData.depth]; omega)]
    rfl
  refine ⟨.list (toDs es), .list [], Dp.same s1 hD, .lst (SqL.of upd_same) .nil, sh, rfl, ?_⟩
  by_cases h0 : es = []
  · subst h0
    refine ⟨true, rfl, ?_⟩
    rw [if_pos rfl]
    have := q _ s1
    rw [showP] at this
    exact this
  have ee : PyData.eqv (.list (toDs es)) (.list []) = false := by
    cases es with
    | nil => exact absurd rfl h0
    | cons x r => rw [toDs]; rfl
  rw [ee]
  refine ⟨false, rfl, ?_⟩
  rw [if_neg (by decide)]
  refine tLc_list xs (es.map fun e => .str (St (showE e))) (fun R h => ⟨_, rfl, h _ _ (Same.refl _) (s1.seq hL)⟩) (by rw [hlen, sizeLine_eq]; omega) (by rw [List.length_map, hlen]) (fun j c d H' Q' hc hd' s h => ⟨rfl, ?_⟩) (fun D H' nD s h => ⟨D, rfl, (es.map showE).map St, .inl (SqL.of (by rw [List.map_map, List.map_map]; exact h)), ?_, ?_, ?_, ?_⟩)
  · walk_at "rd"
    rw [List.getElem?_map] at hd'
    cases he : es[j]? with
    | none => rw [he] at hd'; cases hd'
    | some e =>
      rw [he] at hd'
      injection hd' with hd'
      subst hd'
      have hm := List.mem_of_getElem? he
      have := g2 e hm
      exact ⟨c, e, rfl, Dp.same (s1.trans s) (DpAll.at_ hA hc (toDs_at he)), wfS_mem.mp hw e hm, depS_le.mp hd e hm, by omega, h⟩
  all_goals
    have hi := interT_len (es.map showE)
    have hj := congrArg List.length (interT_P h0)
    simp only [List.length_cons, List.length_append, List.length_nil, List.length_map] at hi hj
  · rw [List.map_map, e1, List.length_map, List.length_map]
    have e : (es.map ((fun x => Str.length x) ∘ St ∘ showE)) = ((es.map showE).map (fun x : Tx => List.length x)) := by
      rw [List.map_map]
      exact List.map_congr_left fun x _ => st_len _
    have e' : ((es.map showE).map ((fun x => x.length) ∘ St)) = ((es.map showE).map (fun x : Tx => List.length x)) := List.map_congr_left fun x _ => st_len _
    rw [e']
    omega
  · rw [joinT_eq, e2, st_len]
    omega
  · rw [joinT_eq, slen_app, e2, e3, st_len]
    omega
  · rw [joinT_eq, sc_lp, sc_rp, st_app, st_app]
    have := interT_P h0
    have q2 := q _ (s1.trans s)
    rw [← this] at q2
    exact q2
theorem sc__law_under_shown : FnScope ["one"] ["one"] (defScope s__law_under_shown) := ⟨rfl, rfl, rfl, by decide +kernel, rfl, by decide +kernel, by decide +kernel⟩
theorem ok__law_under_shown (T : Hd w K mg) {k n : Nat} (D__law_shown : Dn P w K mg base k "_law_shown" (spShow K n)) : Dn P w K mg base (k + 1) "_law_under_shown" (spShU K n) := by
  obtain ⟨fd, F⟩ := T.fn__law_under_shown
  refine dn_mk F T.g__law_under_shown (F.binds (ps := ["one"]) fun _ _ _ _ _ _ us hl => match us, hl with | [_], _ => rfl) sc__law_under_shown (fun vs H Q E h => ?_) (fun cdv A outer s H vs Q E hr tk h => ?_)
  · obtain ⟨v, e, rfl, hD, hw, hd, hb, q⟩ := h
    rfl
  obtain ⟨v, e, rfl, hD, hw, hd, hb, q⟩ := h
  refine ⟨_, (pss_one (ps_ret (pe_ifExp (pt_cmpR op_eq (pe_ix ix_tup (pv 0) pe_int (fun _ _ => rfl)) pe_str (nomark _)) (pe_op op_add_str (pe_op op_add_str pe_str (pe_d D__law_shown hr (by first | decide | omega) (fun σ => L2N.passAt tk σ) (by rfl) (pa_cons (pv 0) pa_nil))) pe_str) (pe_d D__law_shown hr (by first | decide | omega) (fun σ => L2N.passAt tk σ) (by rfl) (pa_cons (pv 0) pa_nil))))), ?_⟩
  have hD0 := hD
  rw [toD_kids] at hD
  obtain ⟨ad, xs, rfl, hT, hA⟩ := dp_tup hD
  obtain ⟨v0, r, rfl, hv0, hB⟩ := dpa_cons hA
  obtain rfl := dp_str hv0
  walk_at "rd"
  have hs := sizeLine_eq
  refine ⟨_, hT, _, atI_nat (j := 0) rfl, rfl, ?_⟩
  have hu := undS_ge e
  cases ho : e.isOpX with
  | true =>
    have ew : e.word = "op" := by cases e <;> first | (simp [Ex.word]; done) | (cases ho; done)
    have e1 : (undS e) = 40 :: (showE e ++ [41]) := by unfold undS; rw [ho, if_pos rfl]
    rw [e1] at q hb
    simp only [List.length_cons, List.length_append, List.length_nil] at hb
    have e2 : (Str.ofString "(").length = 1 := rfl
    have e3 : (Str.ofString ")").length = 1 := rfl
    refine kif_t ew ⟨_, e, rfl, hD0, hw, hd, by omega, fun H' s => ⟨_, rfl, ?_, ?_, ?_⟩⟩
    · rw [e2, st_len]
      omega
    · rw [slen_app, e2, e3, st_len]
      omega
    · rw [sc_lp, sc_rp, st_app, st_app]
      exact q H' s
  | false =>
    have ew : ¬ e.word = "op" := by
      cases e with
      | op s a b => cases ho
      | call n ps =>
        rw [Ex.wf, Bool.and_eq_true] at hw
        exact call_word hw.1 _ (by simp)
      | _ => (rw [Ex.word]; decide +kernel)
    refine kif_f ew ⟨_, e, rfl, hD0, hw, hd, by omega, fun H' s => ?_⟩
    have := q H' s
    unfold undS at this
    rw [ho] at this
    exact this
theorem rIn_nm {H : Hp} {p : Addr} {z : Str} {Q : VK} (hp : H p = some (.tup [V.str "not", V.str "minus"])) (q : Q (.bl (decide (z ∈ ([Str.ofString "not", Str.ofString "minus"] : List Str)))) H) : rIn K false (V.str z) (V.ref p) H Q := by
  refine ⟨_, _, rfl, .inr (SqT.of hp), rfl, rfl, ?_⟩
  rw [show inV (V.str z) [V.str "not", V.str "minus"] = decide (z ∈ ([Str.ofString "not", Str.ofString "minus"] : List Str)) from inV_strs z [Str.ofString "not", Str.ofString "minus"]]
  exact q
theorem sc__law_shown : FnScope ["one", "part"] ["one"] (defScope s__law_shown) := ⟨rfl, rfl, rfl, by decide +kernel, rfl, by decide +kernel, by decide +kernel⟩
theorem ok__law_shown (T : Hd w K mg) {k n : Nat} (hk : 2 ≤ k) (D__law_worth_shown : Dn P w K mg base 2 "_law_worth_shown" spLW) (D__law_parts_shown : Dn P w K mg base k "_law_parts_shown" (spShP K n)) (D__law_under_shown : Dn P w K mg base k "_law_under_shown" (spShU K n)) (D__law_shown : Dn P w K mg base k "_law_shown" (spShow K n)) : Dn P w K mg base (k + 1) "_law_shown" (spShow K (n + 1)) := by
  obtain ⟨fd, F⟩ := T.fn__law_shown
  refine dn_mk F T.g__law_shown (F.binds (ps := ["one"]) fun _ _ _ _ _ _ us hl => match us, hl with | [_], _ => rfl) sc__law_shown (fun vs H Q E h => ?_) (fun cdv A outer s H vs Q E hr tk h => ?_)
  · obtain ⟨v, e, rfl, hD, hw, hd, hb, q⟩ := h
    rfl
  obtain ⟨v, e, rfl, hD, hw, hd, hb, q⟩ := h
  refine ⟨_, (pss_cons (ps_if (pt_cmpR op_eq (pe_ix ix_tup (pv 0) pe_int (fun _ _ => rfl)) pe_str (nomark _)) (pss_one (ps_ret (pe_d D__law_worth_shown hr (by first | decide | omega) (fun σ => L2N.passAt tk σ) (by rfl) (pa_cons (pe_ix ix_tup (pv 0) pe_int (fun _ _ => rfl)) pa_nil)))) pss_nil) (pss_cons (ps_if (pt_cmpR op_in_seq (pe_ix ix_tup (pv 0) pe_int (fun _ _ => rfl)) (pe_tup (pa_cons pe_str (pa_cons pe_str pa_nil))) rfl) (pss_one (ps_ret (pe_op op_add_str (pe_op op_add_str (pe_ix ix_list (pe_lst (pa_cons pe_str (pa_cons pe_str pa_nil))) (pe_callTy call_int1 (by rfl) T.f_int (by decide +kernel) (pa_cons (pe_cmpR op_eq (pe_ix ix_tup (pv 0) pe_int (fun _ _ => rfl)) pe_str (nomark _)) pa_nil)) (fun _ _ => rfl)) (pe_ix ix_tup (pv 0) pe_int (fun _ _ => rfl))) (pe_d D__law_parts_shown hr (by first | decide | omega) (fun σ => L2N.passAt tk σ) (by rfl) (pa_cons (pe_ix ix_tup (pv 0) pe_int (fun _ _ => rfl)) pa_nil))))) pss_nil) (pss_cons (ps_if (pt_cmpR op_eq (pe_ix ix_tup (pv 0) pe_int (fun _ _ => rfl)) pe_str (nomark _)) (pss_one (ps_ret (pe_op op_add_str pe_str (pe_d D__law_parts_shown hr (by first | decide | omega) (fun σ => L2N.passAt tk σ) (by rfl) (pa_cons (pe_ix ix_tup (pv 0) pe_int (fun _ _ => rfl)) pa_nil))))) pss_nil) (pss_cons (ps_if (pt_cmpR op_eq (pe_ix ix_tup (pv 0) pe_int (fun _ _ => rfl)) pe_str (nomark _)) (pss_one (ps_ret (pe_op op_add_str (pe_op op_add_str (pe_d D__law_shown hr (by first | decide | omega) (fun σ => L2N.passAt tk σ) (by rfl) (pa_cons (pe_ix ix_tup (pv 0) pe_int (fun _ _ => rfl)) pa_nil)) (pe_ix ix_tup (pv 0) pe_int (fun _ _ => rfl))) (pe_d D__law_under_shown hr (by first | decide | omega) (fun σ => L2N.passAt tk σ) (by rfl) (pa_cons (pe_ix ix_tup (pv 0) pe_int (fun _ _ => rfl)) pa_nil))))) pss_nil) (pss_cons (ps_if (pt_cmpR op_in_seq (pe_ix ix_tup (pv 0) pe_int (fun _ _ => rfl)) (pe_tup (pa_cons pe_str (pa_cons pe_str pa_nil))) rfl) (pss_one (ps_ret (pe_op op_add_str (pe_ix ix_list (pe_lst (pa_cons pe_str (pa_cons pe_str pa_nil))) (pe_callTy call_int1 (by rfl) T.f_int (by decide +kernel) (pa_cons (pe_cmpR op_eq (pe_ix ix_tup (pv 0) pe_int (fun _ _ => rfl)) pe_str (nomark _)) pa_nil)) (fun _ _ => rfl)) (pe_d D__law_under_shown hr (by first | decide | omega) (fun σ => L2N.passAt tk σ) (by rfl) (pa_cons (pe_ix ix_tup (pv 0) pe_int (fun _ _ => rfl)) pa_nil))))) pss_nil) (pss_one (ps_ret (pe_op op_add_str (pe_op op_add_str (pe_op op_add_str (pe_op op_add_str pe_str (pe_ix ix_tup (pv 0) pe_int (fun _ _ => rfl))) pe_str) (pe_bm PySem.F.plainAttrs_str PySem.F.slot_str_join PySem.F.type_str_join mt_join pe_str (pa_cons (pe_lc (own := [("part", 1)]) (by rfl) sc__law_shown.nd (pi_seq (pe_slice sl_tupA (pv 0) (po_some pe_int) po_none)) (blkOk_by (own := [("part", 1)]) (N := ["one", "part"]) (sc := defScope s__law_shown) (by decide +kernel)) (fun _ _ _ _ _ => (pg_name (i := 1) sc__law_shown.nd rfl (Or.inl rfl))) (fun _ _ _ _ _ => pts_nil) (fun _ _ _ _ _ => (pe_d D__law_shown hr (by first | decide | omega) (fun σ => passN σ) (by rfl) (pa_cons (pv 1) pa_nil)))) pa_nil))) pe_str)))))))), ?_⟩
  have hD0 := hD
  rw [toD_kids] at hD
  obtain ⟨ad, xs, rfl, hT, hA⟩ := dp_tup hD
  obtain ⟨v0, r, rfl, hv0, hB⟩ := dpa_cons hA
  obtain rfl := dp_str hv0
  have hlen : r.length = e.kids.length := by rw [DpAll.len hB, List.length_map]
  have h3 := kids_three hw
  have hs := sizeLine_eq
  walk_at "rd"
  refine ⟨_, hT, _, atI_nat (j := 0) rfl, rfl, ?_⟩
  have s2 : ∀ p, H p = none → Same H (upd H p (.tup [V.str "var", V.str "at"])) := fun p np => same_new np
  cases e with
  | is wo =>
    obtain ⟨v1, rfl, h1⟩ := dpa1 (show DpAll K H r [.str (St wo)] from hB)
    obtain rfl := dp_str h1
    have hk := kids_bd _ hb (.s (St wo)) (by simp [Ex.kids])
    rw [Ex.wf] at hw
    refine kif_t rfl ⟨_, hT, _, atI_nat (j := 1) rfl, _, rfl, hw, hk, fun H' s => ?_⟩
    have := q _ s
    rw [showE] at this
    exact this
  | var m ps =>
    obtain ⟨v1, v2, rfl, h1, h2⟩ := dpa2 (show DpAll K H r [.str (St m), .list (toDs ps)] from hB)
    obtain rfl := dp_str h1
    rw [Ex.wf, Bool.and_eq_true] at hw
    rw [Ex.dep] at hd
    rw [showE] at hb q
    rw [List.length_append] at hb
    refine kif_f (by rw [Ex.word]; decide +kernel) ⟨_, hT, _, atI_nat (j := 0) rfl, by rw [hs]; decide, fun p np => rIn_var upd_same ⟨true, rfl, ?_⟩⟩
    rw [if_pos rfl]
    refine ⟨by rw [hs]; decide, fun p2 np2 => ?_⟩
    have s3 := (s2 p np).trans (same_new (u := .lst [V.str "^", V.str ""]) np2)
    have hT3 := Same.seqT s3 hT
    refine ⟨_, hT3, _, atI_nat (j := 0) rfl, rfl, _, SqL.of upd_same, V.str "", ?_, _, hT3, _, atI_nat (j := 1) rfl, _, rfl, _, rfl, ?_, _, hT3, _, atI_nat (j := 2) rfl, v2, ps, rfl, Dp.same s3 h2, hw.2, by omega, by omega, fun H' s' => ⟨_, rfl, ?_, ?_⟩⟩
    · rw [if_pos (show V.str (Ex.var m ps).word = V.str "var" from rfl)]
      exact atI_nat (j := 1) rfl
    · rw [Nat.add_comm, st_len, hs]
      show m.length + 0 ≤ _
      omega
    · rw [sc_emp, st_app, st_len, st_len, hs, List.nil_append]
      omega
    · rw [sc_emp, st_app, st_app, List.nil_append]
      exact q H' (s3.trans s')
  | at_ m ps =>
    obtain ⟨v1, v2, rfl, h1, h2⟩ := dpa2 (show DpAll K H r [.str (St m), .list (toDs ps)] from hB)
    obtain rfl := dp_str h1
    rw [Ex.wf, Bool.and_eq_true] at hw
    rw [Ex.dep] at hd
    rw [showE] at hb q
    rw [List.length_cons, List.length_append] at hb
    refine kif_f (by rw [Ex.word]; decide +kernel) ⟨_, hT, _, atI_nat (j := 0) rfl, by rw [hs]; decide, fun p np => rIn_var upd_same ⟨true, rfl, ?_⟩⟩
    rw [if_pos rfl]
    refine ⟨by rw [hs]; decide, fun p2 np2 => ?_⟩
    have s3 := (s2 p np).trans (same_new (u := .lst [V.str "^", V.str ""]) np2)
    have hT3 := Same.seqT s3 hT
    refine ⟨_, hT3, _, atI_nat (j := 0) rfl, rfl, _, SqL.of upd_same, V.str "^", ?_, _, hT3, _, atI_nat (j := 1) rfl, _, rfl, _, rfl, ?_, _, hT3, _, atI_nat (j := 2) rfl, v2, ps, rfl, Dp.same s3 h2, hw.2, by omega, by omega, fun H' s' => ⟨_, rfl, ?_, ?_⟩⟩
    · rw [if_neg (by rw [Ex.word]; decide +kernel)]
      exact atI_nat (j := 0) rfl
    · rw [Nat.add_comm, st_len, hs]
      show m.length + 1 ≤ _
      omega
    · rw [sc_up, st_app, st_len, st_len, hs]
      simp
      omega
    · rw [sc_up, st_app, st_app]
      exact q H' (s3.trans s')
  | short ps =>
    obtain ⟨v1, rfl, h1⟩ := dpa1 (show DpAll K H r [.list (toDs ps)] from hB)
    rw [Ex.wf, Bool.and_eq_true] at hw
    rw [Ex.dep] at hd
    rw [showE] at hb q
    rw [List.length_cons] at hb
    refine kif_f (by rw [Ex.word]; decide +kernel) ⟨_, hT, _, atI_nat (j := 0) rfl, by rw [hs]; decide, fun p np => rIn_var upd_same ⟨false, rfl, ?_⟩⟩
    have hT2 := Same.seqT (s2 p np) hT
    rw [if_neg (by decide)]
    refine ⟨_, hT2, _, atI_nat (j := 0) rfl, rfl, kif_t rfl ⟨_, hT2, _, atI_nat (j := 1) rfl, v1, ps, rfl, Dp.same (s2 p np) h1, hw.2, by omega, by omega, fun H' s' => ⟨_, rfl, ?_, ?_⟩⟩⟩
    · rw [Nat.add_comm, st_len, hs]
      show _ + 1 ≤ _
      omega
    · rw [sc_up, st_app]
      exact q H' ((s2 p np).trans s')
  | op si a b =>
    obtain ⟨v1, v2, v3, rfl, h1, h2, h3'⟩ := dpa3 (show DpAll K H r [.str (St [si]), a.toD, b.toD] from hB)
    obtain rfl := dp_str h1
    rw [Ex.wf, Bool.and_eq_true, Bool.and_eq_true] at hw
    rw [Ex.dep] at hd
    have e1 : showE (.op si a b) = showE a ++ si :: undS b := by rw [showE]; rfl
    rw [e1] at hb q
    rw [List.length_append, List.length_cons] at hb
    refine kif_f (by rw [Ex.word]; decide +kernel) ⟨_, hT, _, atI_nat (j := 0) rfl, by rw [hs]; decide, fun p np => rIn_var upd_same ⟨false, rfl, ?_⟩⟩
    have hT2 := Same.seqT (s2 p np) hT
    rw [if_neg (by decide)]
    refine ⟨_, hT2, _, atI_nat (j := 0) rfl, rfl, kif_f (by rw [Ex.word]; decide +kernel) ⟨_, hT2, _, atI_nat (j := 0) rfl, rfl, kif_t rfl ⟨_, hT2, _, atI_nat (j := 2) rfl, v2, a, rfl, Dp.same (s2 p np) h2, hw.2.1, by omega, by omega, fun H' s' => ⟨_, Same.seqT s' hT2, _, atI_nat (j := 1) rfl, _, rfl, _, rfl, ?_, _, Same.seqT s' hT2, _, atI_nat (j := 3) rfl, v3, b, rfl, Dp.same ((s2 p np).trans s') h3', hw.2.2, by omega, by omega, fun H'' s'' => ⟨_, rfl, ?_, ?_⟩⟩⟩⟩⟩
    · rw [st_len, st_len, hs]
      simp
      omega
    · rw [st_app, st_len, st_len, hs]
      simp
      omega
    · rw [st_app, st_app]
      have := q H'' (((s2 p np).trans s').trans s'')
      rw [List.append_assoc]
      exact this
  | not a =>
    obtain ⟨v1, rfl, h1⟩ := dpa1 (show DpAll K H r [a.toD] from hB)
    rw [Ex.wf] at hw
    rw [Ex.dep] at hd
    have e1 : showE (.not a) = 39 :: undS a := by rw [showE]; rfl
    rw [e1] at hb q
    rw [List.length_cons] at hb
    refine kif_f (by rw [Ex.word]; decide +kernel) ⟨_, hT, _, atI_nat (j := 0) rfl, by rw [hs]; decide, fun p np => rIn_var upd_same ⟨false, rfl, ?_⟩⟩
    have hT2 := Same.seqT (s2 p np) hT
    rw [if_neg (by decide)]
    refine ⟨_, hT2, _, atI_nat (j := 0) rfl, rfl, kif_f (by rw [Ex.word]; decide +kernel) ⟨_, hT2, _, atI_nat (j := 0) rfl, rfl, kif_f (by rw [Ex.word]; decide +kernel) ⟨_, hT2, _, atI_nat (j := 0) rfl, by rw [hs]; decide, fun p2 np2 => rIn_nm upd_same ⟨true, rfl, ?_⟩⟩⟩⟩
    rw [if_pos rfl]
    have s3 := (s2 p np).trans (same_new (u := .tup [V.str "not", V.str "minus"]) np2)
    refine ⟨by rw [hs]; decide, fun p3 np3 => ?_⟩
    have s4 := s3.trans (same_new (u := .lst [V.str "-", V.str "'"]) np3)
    have hT4 := Same.seqT s4 hT
    refine ⟨_, hT4, _, atI_nat (j := 0) rfl, rfl, _, SqL.of upd_same, V.str "'", ?_, _, hT4, _, atI_nat (j := 1) rfl, v1, a, rfl, Dp.same s4 h1, hw, by omega, by omega, fun H' s' => ⟨_, rfl, _, rfl, ?_, ?_⟩⟩
    · rw [if_pos (show V.str (Ex.not a).word = V.str "not" from rfl)]
      exact atI_nat (j := 1) rfl
    · rw [Nat.add_comm, st_len, hs]
      show _ + 1 ≤ _
      omega
    · rw [sc_ap, st_app]
      exact q H' (s4.trans s')
  | minus a =>
    obtain ⟨v1, rfl, h1⟩ := dpa1 (show DpAll K H r [a.toD] from hB)
    rw [Ex.wf] at hw
    rw [Ex.dep] at hd
    have e1 : showE (.minus a) = 45 :: undS a := by rw [showE]; rfl
    rw [e1] at hb q
    rw [List.length_cons] at hb
    refine kif_f (by rw [Ex.word]; decide +kernel) ⟨_, hT, _, atI_nat (j := 0) rfl, by rw [hs]; decide, fun p np => rIn_var upd_same ⟨false, rfl, ?_⟩⟩
    have hT2 := Same.seqT (s2 p np) hT
    rw [if_neg (by decide)]
    refine ⟨_, hT2, _, atI_nat (j := 0) rfl, rfl, kif_f (by rw [Ex.word]; decide +kernel) ⟨_, hT2, _, atI_nat (j := 0) rfl, rfl, kif_f (by rw [Ex.word]; decide +kernel) ⟨_, hT2, _, atI_nat (j := 0) rfl, by rw [hs]; decide, fun p2 np2 => rIn_nm upd_same ⟨true, rfl, ?_⟩⟩⟩⟩
    rw [if_pos rfl]
    have s3 := (s2 p np).trans (same_new (u := .tup [V.str "not", V.str "minus"]) np2)
    refine ⟨by rw [hs]; decide, fun p3 np3 => ?_⟩
    have s4 := s3.trans (same_new (u := .lst [V.str "-", V.str "'"]) np3)
    have hT4 := Same.seqT s4 hT
    refine ⟨_, hT4, _, atI_nat (j := 0) rfl, rfl, _, SqL.of upd_same, V.str "-", ?_, _, hT4, _, atI_nat (j := 1) rfl, v1, a, rfl, Dp.same s4 h1, hw, by omega, by omega, fun H' s' => ⟨_, rfl, _, rfl, ?_, ?_⟩⟩
    · rw [if_neg (by rw [Ex.word]; decide +kernel)]
      exact atI_nat (j := 0) rfl
    · rw [Nat.add_comm, st_len, hs]
      show _ + 1 ≤ _
      omega
    · rw [sc_mi, st_app]
      exact q H' (s4.trans s')
  | call m ps =>
    rw [Ex.wf, Bool.and_eq_true] at hw
    rw [Ex.dep] at hd
    rw [showE] at hb q
    rw [List.length_cons, List.length_append] at hb
    have cw := call_word hw.1
    have hne : ps ≠ [] := by
      rintro rfl
      rcases callOk_cases hw.1 with ⟨_, _, h⟩ | ⟨_, _, _, _, h⟩ | ⟨_, _, h, _⟩ | ⟨_, _, _, h, _⟩ <;> cases h
    obtain ⟨g1, g2⟩ := showP_ge ps
    refine kif_f (cw _ (by simp)) ⟨_, hT, _, atI_nat (j := 0) rfl, by rw [hs]; decide, fun p np => rIn_var upd_same ⟨false, ?_, ?_⟩⟩
    · congr 1
      rw [decide_eq_false]
      intro hm
      simp only [List.mem_cons, List.not_mem_nil, or_false] at hm
      rcases hm with hm | hm
      · exact cw _ (by simp) hm
      · exact cw _ (by simp) hm
    have hT2 := Same.seqT (s2 p np) hT
    rw [if_neg (by decide)]
    refine ⟨_, hT2, _, atI_nat (j := 0) rfl, rfl, kif_f (cw _ (by simp)) ⟨_, hT2, _, atI_nat (j := 0) rfl, rfl, kif_f (cw _ (by simp)) ⟨_, hT2, _, atI_nat (j := 0) rfl, by rw [hs]; decide, fun p2 np2 => rIn_nm upd_same ⟨false, ?_, ?_⟩⟩⟩⟩
    · congr 1
      rw [decide_eq_false]
      intro hm
      simp only [List.mem_cons, List.not_mem_nil, or_false] at hm
      rcases hm with hm | hm
      · exact cw _ (by simp) hm
      · exact cw _ (by simp) hm
    have s3 := (s2 p np).trans (same_new (u := .tup [V.str "not", V.str "minus"]) np2)
    have hT3 := Same.seqT s3 hT
    rw [if_neg (by decide)]
    have hkl : (Ex.call m ps).kids.length = ps.length := by simp [Ex.kids]
    have e36 : Str.ofString "$" = St [36] := sc_do
    have e40 : (Str.ofString "(").length = 1 := rfl
    have e41 : (Str.ofString ")").length = 1 := rfl
    have e44 : (Str.ofString ",").length = 1 := rfl
    refine ⟨_, hT3, _, atI_nat (j := 0) rfl, St m, rfl, ?_, ?_, ?_⟩
    · rw [Nat.add_comm, st_len, hs]
      show _ + 1 ≤ _
      omega
    · rw [e36, st_app, e40, st_len, hs]
      simp
      omega
    refine tLc_tup r (ps.map fun e => .str (St (showE e))) (fun R h => ?_) (by rw [hlen, hs]; omega) (by rw [List.length_map, hlen, hkl]) (fun j c d H' Q' hc hd' s h => ⟨rfl, ?_⟩) (fun D2 H' nD2 s' h => ⟨D2, rfl, (ps.map showE).map St, .inl (SqL.of (by rw [List.map_map, List.map_map]; exact h)), ?_, ?_, ?_, ?_⟩)
    · walk_at "rd"
      refine ⟨_, hT3, fun g => absurd g.1 ?_, fun _ p np => ?_⟩
      · rw [show HT.sIx (V.str (Ex.call m ps).word :: r).length 0 (some (1 : Int)) = min 1 (V.str (Ex.call m ps).word :: r).length from HT.sIx_nat _ _ 1, List.length_cons]
        omega
      · rw [cutV_tail]
        exact h p _ (same_new np) (.of (upd_same ..))
    · walk_at "rd"
      rw [List.getElem?_map] at hd'
      cases he : ps[j]? with
      | none => rw [he] at hd'; cases hd'
      | some e =>
        rw [he] at hd'
        injection hd' with hd'
        subst hd'
        have hm := List.mem_of_getElem? he
        have hg := g2 e hm
        have hkd : ((Ex.call m ps).kids.map Kid.toD)[j]? = some e.toD := by
          rw [List.getElem?_map]
          show ((ps.map Kid.e)[j]?).map Kid.toD = _
          rw [List.getElem?_map, he]
          rfl
        exact ⟨c, e, rfl, Dp.same (s3.trans s) (DpAll.at_ hB hc hkd), wfS_mem.mp hw.2 e hm, depS_le.mp (by omega : depS ps ≤ n) e hm, by omega, h⟩
    all_goals
      have hi := interT_len (ps.map showE)
      have hj := congrArg List.length (interT_P hne)
      simp only [List.length_cons, List.length_append, List.length_nil, List.length_map] at hi hj
    · rw [List.map_map, e44, List.length_map, List.length_map]
      have e' : ((ps.map showE).map ((fun x => x.length) ∘ St)) = ((ps.map showE).map (fun x : Tx => List.length x)) := List.map_congr_left fun x _ => st_len _
      rw [e']
      omega
    · rw [joinT_eq, slen_app, slen_app, e40, e36]
      simp only [st_len]
      show 1 + _ + 1 + _ ≤ _
      omega
    · rw [joinT_eq, slen_app, slen_app, slen_app, e40, e41, e36]
      simp only [st_len]
      show 1 + _ + 1 + _ + 1 ≤ _
      omega
    · rw [joinT_eq, sc_lp, sc_rp, e36, st_app, st_app, st_app, st_app]
      have := interT_P hne
      have q2 := q _ (s3.trans s')
      rw [← this] at q2
      simpa using q2
theorem Dn.false__law_shown (T : Hd w K mg) (k : Nat) : Dn P w K mg base k "_law_shown" (fun _ _ _ _ => False) := by
  obtain ⟨fd, F⟩ := T.fn__law_shown
  exact ⟨_, fd, ["one"], ⟨fun _ _ _ _ h => h.elim, fun _ _ _ _ _ _ _ _ _ _ _ _ _ h => h.elim⟩, T.g__law_shown, F.kp, F.binds (ps := ["one"]) fun _ _ _ _ _ _ us hl => match us, hl with | [_], _ => rfl⟩
/-- how the law writes expressions of at most n within one another -/
theorem ls_chain (T : Hd w K mg) : ∀ n : Nat, n ≤ 29 → Dn P w K mg base (2 * n + 2) "_law_shown" (spShow K n) ∧ Dn P w K mg base (2 * n + 3) "_law_parts_shown" (spShP K n) ∧ Dn P w K mg base (2 * n + 3) "_law_under_shown" (spShU K n)
  | 0, hn => by
    have h0 : Dn P w K mg base (2 * 0 + 2) "_law_shown" (spShow K 0) := (Dn.false__law_shown T _).imp fun vs H Q E h => by
      obtain ⟨v, e, _, _, _, hd, _⟩ := h
      have := dep_pos e
      omega
    exact ⟨h0, ok__law_parts_shown T (by omega) h0, ok__law_under_shown T h0⟩
  | n + 1, hn => by
    have hw := ok__law_worth_shown (P := P) (base := base) T (ok__law_is_own T)
    obtain ⟨a, b, c⟩ := ls_chain T n (by omega)
    have h0 := ok__law_shown T (by omega) hw b c (a.mono (by omega))
    exact ⟨h0, ok__law_parts_shown T (by omega) h0, ok__law_under_shown T h0⟩
end
end Sk

/-! ## G0 -/
namespace Sk
open PySem PySem.Spec PyProof.Rows L2
set_option hygiene false in
local macro_rules | `(tactic| walk_at "rd") => `(tactic| simp only [tVar, tC, tB, tAnd, tOr, tNot, tAndV, tOrV, tNotV, tIf, tNext, tSeq, tBreak, tCont, tDrop, tRet, tRetN, tIfS, tAsg, tAug, tOp, tUn, tTest, tChain, tFld, sFldAug, sFld, rAdd, tNil, tCons, tTup, tLst, tCB, tNoPart, tPart, tSl, tBM0, tBM, tYes, tM0, tM1, CwR.tReplC, tCallS, tMethS, tMakeS, gName, wipe, tyV, gTup, gCons, gNil,
  rI, rI0, rEq, rNe, scal, rPlus, rPlusI, rPlusS, rCat, rCatA, rIx, rIxL, rIxT, rIxS, rSl, rSlS, rSlL, rSlA, iPlus, iPlusI, iPlusS, ipI, rAll, rAny, LenV, WE, E0, rAppend,
  L2.start, List.map_cons, List.map_nil, List.length_cons, List.length_nil, Nat.zero_add, Nat.add_zero, Nat.reduceAdd, Nat.reduceSub, Nat.sub_self, List.replicate_zero, List.replicate_succ, List.append_nil, List.nil_append, List.cons_append, List.getElem?_cons_zero, List.getElem?_cons_succ, List.set_cons_zero, List.set_cons_succ, Option.some.injEq,
  V.int.injEq, V.str.injEq, V.bl.injEq, V.ref.injEq, V.ty.injEq, HO.ins.injEq, HO.lst.injEq, HO.tup.injEq, List.cons.injEq, reduceCtorEq, false_and, and_false, true_and, and_true, and_assoc, exists_const, exists_false, false_or, or_false, exists_eq_left', exists_eq_left, exists_eq_right, exists_eq_right', exists_and_left, ↓reduceIte, decide_eq_true_eq, Bool.not_eq_true', decide_eq_false_iff_not, if_true, if_false, cxOf, and_self, Bool.not_true, Bool.not_false, Bool.false_eq_true,
  sf_signs, sf_spot, sf_put, T.cl_Source, T.na_Source_signs, T.na_Source_spot, sg_inj, upd_same, rIsS, tyN, kb1, kb2, kb3, kb4, kb5, kb6, kb7, kb8, kb9, kb10, kb11, kb12, kb13, kb14, kb15, kb16, kb17, kb18, kb19, kb20, kb21, tDNewK, rPowW, gStar, gUnl])
/-! ### draws -/
def BagAt (H : Hp) (b : Addr) (N : Nat) : Prop := ∃ x y n : Int, H b = some (.lst [.int x, .int y, .int n]) ∧ 0 ≤ x ∧ 0 ≤ y ∧ y < 2 ^ 128 ∧ 0 ≤ n ∧ n ≤ (N : Int)
theorem BagAt.mono {H : Hp} {b : Addr} {N M : Nat} (h : BagAt H b N) (hm : N ≤ M) : BagAt H b M := by
  obtain ⟨x, y, n, h1, h2, h3, h4, h5, h6⟩ := h
  exact ⟨x, y, n, h1, h2, h3, h4, h5, by omega⟩
theorem BagAt.at_ {H H' : Hp} {b : Addr} {N : Nat} (h : BagAt H b N) (e : H' b = H b) : BagAt H' b N := by
  obtain ⟨x, y, n, h1, h⟩ := h
  exact ⟨x, y, n, by rw [e]; exact h1, h⟩
theorem BagAt.some {H : Hp} {b : Addr} {N : Nat} (h : BagAt H b N) : ∃ o, H b = some o := by
  obtain ⟨x, y, n, h1, h⟩ := h
  exact ⟨_, h1⟩
theorem BagAt.same {H H' : Hp} {b : Addr} {N : Nat} (h : BagAt H b N) (s : Same H H') : BagAt H' b N := by
  obtain ⟨x, y, n, h1, h⟩ := h
  exact ⟨x, y, n, s _ _ h1, h⟩
/-- a new object beside the bag -/
theorem BagAt.new {H : Hp} {b p : Addr} {o : HO} {N : Nat} (h : BagAt H b N) (np : H p = none) : BagAt (upd H p o) b N := h.same (same_new np)
theorem but_same {b : Addr} {H H1 H2 : Hp} (h : But b H H1) (s : Same H1 H2) : But b H H2 := fun c o e hc => s c o (h c o e hc)
def big : Nat := 2 ^ 150
section
variable {P : Program} {w : World} {K : PySem.W.Frag} {mg : Str → Option Value} {base : Heap}
def spCell (K : PySem.W.Frag) : Sp := fun vs H Q _ => ∃ (a : Addr) (xs : List Int) (k : Int), vs = [.ref a, .int k] ∧ SqL K H a (xs.map V.int) ∧ 0 ≤ k ∧ ∀ c : Int, Q (.int c) H
theorem pow_big {i j : Int} (h : i.natAbs < 2 ^ 200) (h0 : 0 ≤ j) (h1 : j ≤ 100) : CPowW i j := ⟨h0, h1, Nat.lt_of_lt_of_le h (Nat.pow_le_pow_right (by decide) (by decide))⟩
theorem mul_big {i j : Int} (h : i.natAbs < 2 ^ 40) (h' : j.natAbs < 2 ^ 160) : CMulW i j := wide_mul h h' (by decide) (by decide) (by decide)
theorem sc__law_cell_at : FnScope ["script", "k"] ["script", "k"] (defScope s__law_cell_at) := ⟨rfl, rfl, rfl, by decide +kernel, rfl, by decide +kernel, by decide +kernel⟩
theorem ok__law_cell_at (T : Hd w K mg)  : Dn P w K mg base 1 "_law_cell_at" (spCell K) := by
  obtain ⟨fd, F⟩ := T.fn__law_cell_at
  refine dn_mk F T.g__law_cell_at (F.binds (ps := ["script", "k"]) fun _ _ _ _ _ _ us hl => match us, hl with | [_, _], _ => rfl) sc__law_cell_at (fun vs H Q E h => ?_) (fun cdv A outer s H vs Q E hr tk h => ?_)
  · obtain ⟨a, xs, k, rfl, hL, hk, q⟩ := h
    rfl
  obtain ⟨a, xs, k, rfl, hL, hk, q⟩ := h
  refine ⟨_, (pss_cons (ps_if (pt_cmpR op_lt (pv 1) (pe_callB call_len (by rfl) T.f_len (by decide +kernel) (pa_cons (pv 0) pa_nil)) (nomark _)) (pss_one (ps_ret (pe_ix ix_seq (pv 0) (pv 1) (fun _ _ => rfl)))) pss_nil) (pss_one (ps_ret pe_int))), ?_⟩
  walk_at "rd"
  refine ⟨_, .inl ⟨_, hL, rfl⟩, ?_⟩
  rw [List.length_map]
  by_cases c : k < (xs.length : Int)
  · rw [if_pos c]
    have e : (xs.map V.int)[k.toNat]? = some (V.int (xs[k.toNat]'(by omega))) := by
      rw [List.getElem?_map, List.getElem?_eq_getElem (by omega)]
      rfl
    have e2 := atI_nat e
    rw [show ((k.toNat : Nat) : Int) = k by omega] at e2
    exact .inl ⟨_, hL, _, e2, q _⟩
  · rw [if_neg c]
    exact q _
def spBag : Sp := fun vs H Q _ => ∃ (c n : Int), vs = [.int c, .int n] ∧ 0 ≤ n ∧ n ≤ 1000 ∧ ∀ b H', H b = none → Same H H' → BagAt H' b 0 → (∀ c, c ≠ b → H' c = H c) → Q (.ref b) H'
theorem sc__law_bag : FnScope ["cell", "nth"] ["cell", "nth"] (defScope s__law_bag) := ⟨rfl, rfl, rfl, by decide +kernel, rfl, by decide +kernel, by decide +kernel⟩
theorem ok__law_bag (T : Hd w K mg)  : Dn P w K mg base 1 "_law_bag" (spBag) := by
  obtain ⟨fd, F⟩ := T.fn__law_bag
  refine dn_mk F T.g__law_bag (F.binds (ps := ["cell", "nth"]) fun _ _ _ _ _ _ us hl => match us, hl with | [_, _], _ => rfl) sc__law_bag (fun vs H Q E h => ?_) (fun cdv A outer s H vs Q E hr tk h => ?_)
  · obtain ⟨c, n, rfl, h0, h1, q⟩ := h
    rfl
  obtain ⟨c, n, rfl, h0, h1, q⟩ := h
  refine ⟨_, (pss_one (ps_ret (pe_lst (pa_cons (pe_callB (call_max2 rfl) (by rfl) T.f_max (by decide +kernel) (pa_cons pe_int (pa_cons (pe_op op_sub (pv 0) (pe_op op_powW pe_int pe_int)) pa_nil))) (pa_cons (pe_op op_add (pe_op op_modN (pv 0) pe_int) (pe_op op_mulW pe_int (pv 1))) (pa_cons pe_int pa_nil)))))), ?_⟩
  walk_at "rd"
  refine ⟨pow_big (by decide) (by decide) (by decide), by decide, mul_big (by decide) (by omega), by rw [sizeLine_eq]; omega, fun b hb => ?_⟩
  refine q b _ hb (same_new hb) ⟨_, _, 0, upd_same, ?_, ?_, ?_, by decide, by decide⟩ fun c hc => upd_ne hc
  · split <;> omega
  · have := Int.fmod_nonneg_of_pos c (b := 170141183460469231731687303715884105727) (by decide)
    omega
  · have := Int.fmod_lt_of_pos c (b := 170141183460469231731687303715884105727) (by decide)
    omega
def spDraw : Sp := fun vs H Q _ => ∃ (b : Addr) (m : Int) (N : Nat), vs = [.ref b, .int m] ∧ BagAt H b N ∧ 0 < m ∧ m.natAbs < 2 ^ 200 ∧ N < big ∧ ∀ r H', 0 ≤ r → r < m → BagAt H' b (N + 1) → (∀ c, c ≠ b → H' c = H c) → Q (.int r) H'
theorem sc__law_draw : FnScope ["bag", "many", "mixed", "found"] ["bag", "many"] (defScope s__law_draw) := ⟨rfl, rfl, rfl, by decide +kernel, rfl, by decide +kernel, by decide +kernel⟩
theorem ok__law_draw (T : Hd w K mg)  : Dn P w K mg base 1 "_law_draw" (spDraw) := by
  obtain ⟨fd, F⟩ := T.fn__law_draw
  refine dn_mk F T.g__law_draw (F.binds (ps := ["bag", "many"]) fun _ _ _ _ _ _ us hl => match us, hl with | [_, _], _ => rfl) sc__law_draw (fun vs H Q E h => ?_) (fun cdv A outer s H vs Q E hr tk h => ?_)
  · obtain ⟨b, m, N, rfl, hbag, hm, hm2, hN, q⟩ := h
    rfl
  obtain ⟨b, m, N, rfl, hbag, hm, hm2, hN, q⟩ := h
  refine ⟨_, (pss_cons (ps_if (pt_cmpR op_gt (pe_ix ix_list (pv 0) pe_int (fun _ _ => rfl)) pe_int (nomark _)) (pss_cons (ps_set (i := 3) sc__law_draw.nd rfl (by first | exact Or.inl rfl | exact Or.inr rfl) (pe_op op_modN (pe_ix ix_list (pv 0) pe_int (fun _ _ => rfl)) (pv 1))) (pss_cons (ps_asg (pe_op op_fdivW (pe_ix ix_list (pv 0) pe_int (fun _ _ => rfl)) (pv 1)) (pg_sub (pv 0) pe_int set_list)) (pss_one (ps_ret (pv 3))))) pss_nil) (pss_cons (ps_asg (pe_op op_add (pe_ix ix_list (pv 0) pe_int (fun _ _ => rfl)) pe_int) (pg_sub (pv 0) pe_int set_list)) (pss_cons (ps_set (i := 2) sc__law_draw.nd rfl (by first | exact Or.inl rfl | exact Or.inr rfl) (pe_op op_modN (pe_op op_powW (pe_op op_add (pe_ix ix_list (pv 0) pe_int (fun _ _ => rfl)) (pe_op op_mulW pe_int (pe_ix ix_list (pv 0) pe_int (fun _ _ => rfl)))) pe_int) pe_int)) (pss_cons (ps_set (i := 2) sc__law_draw.nd rfl (by first | exact Or.inl rfl | exact Or.inr rfl) (pe_op op_modN (pe_op op_powW (pe_op op_add (pv 2) (pe_op op_mulW pe_int (pe_ix ix_list (pv 0) pe_int (fun _ _ => rfl)))) pe_int) pe_int)) (pss_one (ps_ret (pe_op op_modN (pe_op op_fdivW (pv 2) pe_int) (pv 1)))))))), ?_⟩
  obtain ⟨x, y, n, hb, hx, hy, hy2, hn, hnN⟩ := hbag
  have hbig : big = 1427247692705959881058285969449495136382746624 := by decide +kernel
  rw [hbig] at hN
  walk_at "rd"
  refine ⟨_, SqL.of hb, _, atI_nat (j := 0) rfl, x, rfl, ?_⟩
  by_cases c : 1 < x
  · rw [if_pos c]
    refine ⟨_, SqL.of hb, _, atI_nat (j := 0) rfl, x, rfl, by omega, _, SqL.of hb, _, atI_nat (j := 0) rfl, x, rfl, wide_div hm hm2 (by decide) (by decide), ?_⟩
    unfold gSub rSetL
    walk_at "rd"
    refine ⟨_, hb, 0, rfl, ?_⟩
    exact q _ _ (Int.fmod_nonneg_of_pos x hm) (Int.fmod_lt_of_pos x hm) ⟨_, _, _, upd_same, Int.ediv_nonneg hx (by omega), hy, hy2, hn, by omega⟩ fun c hc => upd_ne hc
  · rw [if_neg c]
    refine ⟨_, SqL.of hb, _, atI_nat (j := 2) rfl, n, rfl, ?_⟩
    unfold gSub rSetL
    walk_at "rd"
    refine ⟨_, hb, 2, rfl, ?_⟩
    have hL : SqL K (upd H b (.lst ([V.int x, V.int y, V.int n].set 2 (V.int (n + 1))))) b [V.int x, V.int y, V.int (n + 1)] := SqL.of upd_same
    refine ⟨_, hL, _, atI_nat (j := 1) rfl, _, hL, _, atI_nat (j := 2) rfl, n + 1, rfl, mul_big (by decide) (by omega), y, rfl, pow_big (by omega) (by decide) (by decide), by decide, _, hL, _, atI_nat (j := 2) rfl, n + 1, rfl, mul_big (by decide) (by omega), pow_big ?_ (by decide) (by decide), by decide, ⟨by decide, by decide +kernel⟩, by omega, ?_⟩
    · have h1 := Int.fmod_nonneg_of_pos ((y + 67867967 * (n + 1)) ^ Int.toNat 3) (b := 170141183460469231731687303715884105727) (by decide)
      have h2 := Int.fmod_lt_of_pos ((y + 67867967 * (n + 1)) ^ Int.toNat 3) (b := 170141183460469231731687303715884105727) (by decide)
      omega
    · exact q _ _ (Int.fmod_nonneg_of_pos _ hm) (Int.fmod_lt_of_pos _ hm) ⟨_, _, _, upd_same, hx, hy, hy2, by omega, by omega⟩ fun c hc => by rw [upd_ne hc]
/-- a draw, once more -/
theorem drawQ {H : Hp} {b : Addr} {m : Int} {N : Nat} {Q : VK} {E : XK} (hb : BagAt H b N) (hm : 0 < m) (hN : N < big) (h : ∀ r H', 0 ≤ r → r < m → BagAt H' b (N + 1) → But b H H' → Q (.int r) H') (hm2 : m.natAbs < 2 ^ 200 := by decide) : spDraw [.ref b, .int m] H Q E :=
  ⟨b, m, N, rfl, hb, hm, hm2, hN, fun r H' h0 h1 h2 h3 => h r H' h0 h1 h2 fun c o e hc => by rw [h3 c hc]; exact e⟩
theorem sc__law_signs : FnScope ["few"] [] (defScope s__law_signs) := ⟨rfl, rfl, rfl, by decide +kernel, rfl, by decide +kernel, by decide +kernel⟩
theorem ok__law_signs (T : Hd w K mg)  : Dn P w K mg base 1 "_law_signs" ((fun vs H Q _ => vs = [] ∧ Q (.str (St signsL)) H)) := by
  obtain ⟨fd, F⟩ := T.fn__law_signs
  refine dn_mk F T.g__law_signs (F.binds (ps := []) fun _ _ _ _ _ _ us hl => match us, hl with | [], _ => rfl) sc__law_signs (fun vs H Q E h => ?_) (fun cdv A outer s H vs Q E hr tk h => ?_)
  · obtain ⟨rfl, q⟩ := h
    rfl
  obtain ⟨rfl, q⟩ := h
  refine ⟨_, (pss_cons (ps_set (i := 0) sc__law_signs.nd rfl (by first | exact Or.inl rfl | exact Or.inr rfl) pe_str) (pss_one (ps_ret (pe_op op_add_str (pe_op op_add_str (pe_op op_add_str (pe_op op_add_str pe_str (pe_bm0 PySem.F.plainAttrs_str PySem.F.slot_str_upper PySem.F.type_str_upper mt_upper (pv 0))) pe_str) (pv 0)) pe_str)))), ?_⟩
  walk_at "rd"
  have e : Str.ofString " !\"#$&'()*+,-./0123456789:;<=>?@" ++ Txt.upper (Str.ofString "abcdefghijklmnopqrstuvwxyz") ++ Str.ofString "[\\]^_`" ++ Str.ofString "abcdefghijklmnopqrstuvwxyz" ++ Str.ofString "{|}~" = St signsL := by decide +kernel
  rw [e]
  have hs := sizeLine_eq
  exact ⟨by decide +kernel, by rw [hs]; decide +kernel, by rw [hs]; decide +kernel, by rw [hs]; decide +kernel, by rw [hs]; decide +kernel, q⟩
end
end Sk

/-! ## G1 -/
namespace Sk
open PySem PySem.Spec PyProof.Rows L2
set_option hygiene false in
local macro_rules | `(tactic| walk_at "rd") => `(tactic| simp only [tVar, tC, tB, tAnd, tOr, tNot, tAndV, tOrV, tNotV, tIf, tNext, tSeq, tBreak, tCont, tDrop, tRet, tRetN, tIfS, tAsg, tAug, tOp, tUn, tTest, tChain, tFld, sFldAug, sFld, rAdd, tNil, tCons, tTup, tLst, tCB, tNoPart, tPart, tSl, tBM0, tBM, tYes, tM0, tM1, CwR.tReplC, tCallS, tMethS, tMakeS, gName, wipe, tyV, gTup, gCons, gNil,
  rI, rI0, rEq, rNe, scal, rPlus, rPlusI, rPlusS, rCat, rCatA, rIx, rIxL, rIxT, rIxS, rSl, rSlS, rSlL, rSlA, iPlus, iPlusI, iPlusS, ipI, rAll, rAny, LenV, WE, E0, rAppend,
  L2.start, List.map_cons, List.map_nil, List.length_cons, List.length_nil, Nat.zero_add, Nat.add_zero, Nat.reduceAdd, Nat.reduceSub, Nat.sub_self, List.replicate_zero, List.replicate_succ, List.append_nil, List.nil_append, List.cons_append, List.getElem?_cons_zero, List.getElem?_cons_succ, List.set_cons_zero, List.set_cons_succ, Option.some.injEq,
  V.int.injEq, V.str.injEq, V.bl.injEq, V.ref.injEq, V.ty.injEq, HO.ins.injEq, HO.lst.injEq, HO.tup.injEq, List.cons.injEq, reduceCtorEq, false_and, and_false, true_and, and_true, and_assoc, exists_const, exists_false, false_or, or_false, exists_eq_left', exists_eq_left, exists_eq_right, exists_eq_right', exists_and_left, ↓reduceIte, decide_eq_true_eq, Bool.not_eq_true', decide_eq_false_iff_not, if_true, if_false, cxOf, and_self, Bool.not_true, Bool.not_false, Bool.false_eq_true,
  sf_signs, sf_spot, sf_put, T.cl_Source, T.na_Source_signs, T.na_Source_spot, sg_inj, upd_same, rIsS, tyN, kb1, kb2, kb3, kb4, kb5, kb6, kb7, kb8, kb9, kb10, kb11, kb12, kb13, kb14, kb15, kb16, kb17, kb18, kb19, kb20, kb21, tDNewK, rPowW, gStar, gUnl])
/-! ### drawn texts and names -/
theorem ix_any {L : List V} {r : Int} (h0 : 0 ≤ r) (h1 : r < (L.length : Int)) : ∃ v, v ∈ L ∧ atI L r = some v := by
  have hl : r.toNat < L.length := by omega
  refine ⟨L[r.toNat], List.getElem_mem hl, ?_⟩
  have e : L[r.toNat]? = some L[r.toNat] := List.getElem?_eq_getElem hl
  have e2 := atI_nat e
  rwa [show ((r.toNat : Nat) : Int) = r by omega] at e2
theorem ix_strs {S : List Str} {r : Int} (h0 : 0 ≤ r) (h1 : r < (S.length : Int)) : ∃ s, s ∈ S ∧ atI (S.map V.str) r = some (V.str s) := by
  obtain ⟨v, hv, e⟩ := ix_any (L := S.map V.str) h0 (by rw [List.length_map]; exact h1)
  obtain ⟨s, hs, rfl⟩ := List.mem_map.mp hv
  exact ⟨s, hs, e⟩
theorem cut_list (z : Str) (m : Nat) : tl (cutS z none (some (m : Int))) = (tl z).take m := by
  unfold cutS
  have e2 : HT.sIx z.length z.length (some (m : Int)) = min m z.length := HT.sIx_nat _ _ m
  have e1 : HT.sIx z.length 0 none = 0 := rfl
  rw [e1, e2]
  show ((tl z).drop 0).take (min m z.length - 0) = _
  rw [List.drop_zero, Nat.sub_zero, ← tl_len]
  rcases Nat.le_total m (tl z).length with h | h
  · rw [Nat.min_eq_left h]
  · rw [Nat.min_eq_right h, List.take_length, List.take_of_length_le h]
theorem cut_ok {z : Str} {m : Nat} (h : isWorthT (tl z) = true) : isWorthT (tl (cutS z none (some (m : Int)))) = true ∧ (cutS z none (some (m : Int))).length ≤ m := by
  rw [← tl_len, cut_list]
  refine ⟨?_, by rw [List.length_take]; omega⟩
  unfold isWorthT at *
  rw [List.all_eq_true] at *
  exact fun c hc => h c (List.mem_of_mem_take hc)
theorem int_worth (i : Int) : isWorthT (tl (Str.ofString (toString i))) = true := by
  have h := PyProof.Rows.int_sign i
  unfold isWorthT
  rw [List.all_eq_true]
  intro c hc
  have e : tl (Str.ofString (toString i)) = (toString i).toList.map Char.toNat := by
    unfold tl
    rw [Str.ofString_eq_byList]
    rfl
  rw [e] at hc
  obtain ⟨ch, hm, rfl⟩ := List.mem_map.mp hc
  rcases h ch hm with h | h
  · obtain ⟨h1, h2⟩ := PyProof.Rows.digit_range h
    have : ∀ n, 48 ≤ n → n ≤ 57 → isSign n = true := by
      intro n h1 h2
      have : ∀ k, k < 10 → isSign (48 + k) = true := by decide +kernel
      have := this (n - 48) (by omega)
      rwa [show 48 + (n - 48) = n by omega] at this
    exact this _ h1 h2
  · subst h
    decide +kernel
theorem int_len {i : Int} {k : Nat} (hk : 0 < k) (h : i.natAbs < 10 ^ k) : (Str.ofString (toString i)).length ≤ k + 1 := by
  by_cases h0 : 0 ≤ i
  · have e : (10 : Int) ^ k = ((10 ^ k : Nat) : Int) := by simp
    have := toString_length_le h0 hk (by rw [e]; omega)
    omega
  · have e : (10 : Int) ^ k = ((10 ^ k : Nat) : Int) := by simp
    have h1 := toString_length_le (v := -i) (by omega) hk (by rw [e]; omega)
    have tlo : ∀ s : String, (Str.ofString s).length = s.toList.length := by
      intro s
      rw [← tl_len]
      have e : tl (Str.ofString s) = s.toList.map Char.toNat := by
        unfold tl
        rw [Str.ofString_eq_byList]
        rfl
      rw [e, List.length_map]
    rw [tlo] at h1 ⊢
    rw [Int.toString_eq_repr, Int.repr_eq_if] at h1 ⊢
    rw [if_pos (by omega)] at h1
    rw [if_neg (by omega), String.toList_append, List.length_append]
    have e1 : ("-" : String).toList.length = 1 := by decide
    rw [e1]
    omega
theorem joinL_nil : ∀ l : List Tx, TL.joinL [] l = l.flatten
  | [] => rfl
  | [a] => by simp [TL.joinL]
  | a :: b :: r => by
    have := joinL_nil (b :: r)
    rw [TL.joinL, this]
    simp
theorem join_nil (ys : List Str) : tl (Txt.join (Str.ofString "") ys) = (ys.map tl).flatten := by
  rw [TL.join_eq]
  show TL.tl _ = _
  rw [TL.tl_join]
  have e : TL.tl (Str.ofString "") = [] := by decide +kernel
  rw [e, joinL_nil]
  rfl
theorem join_worth {ys : List Str} {f : Nat → Bool} (h : ∀ y ∈ ys, (tl y).all f = true) : (tl (Txt.join (Str.ofString "") ys)).all f = true := by
  rw [join_nil, List.all_eq_true]
  intro c hc
  obtain ⟨l, hl, hcl⟩ := List.mem_flatten.mp hc
  obtain ⟨y, hy, rfl⟩ := List.mem_map.mp hl
  exact List.all_eq_true.mp (h y hy) c hcl
theorem join_len (ys : List Str) : (Txt.join (Str.ofString "") ys).length = (ys.map fun x => x.length).sum := by
  rw [← tl_len, join_nil, List.length_flatten, List.map_map]
  congr 1
theorem sum_le {ys : List Str} {k : Nat} (h : ∀ y ∈ ys, y.length ≤ k) : (ys.map fun x => x.length).sum ≤ ys.length * k := by
  induction ys with
  | nil => simp
  | cons y r ih =>
    have h1 := h y (by simp)
    have h2 := ih fun x hx => h x (List.mem_cons_of_mem _ hx)
    simp only [List.map_cons, List.sum_cons, List.length_cons, Nat.add_mul]
    omega
/-- [te for k in range(n)], te a drawn text -/
theorem tLc_pick {ta : TA} {te : TE} {i : Nat} {vs : List Nat} {σ : SS} {H0 : Hp} {Q : VK} {b : Addr} (p : Str → Prop) (Pn : Nat → Hp → Prop) (h0 : ∀ R : List V → Hp → Prop, (∀ n H, Pn n H → R [.int n] H) → ta σ H0 R)
    (h : ∀ n H, Pn n H → n ≤ sizeLine ∧ ∃ N, BagAt H b N ∧
      (∀ (j : Nat) (H' : Hp), j < n → But b H H' → BagAt H' b (N + j) → wipe ((wipe σ vs).set i (some (.int (j : Int)))) vs = wipe σ vs ∧ ∀ R2 : VK, (∀ y H4, p y → BagAt H4 b (N + j + 1) → (∀ c, c ≠ b → H4 c = H' c) → R2 (.str y) H4) → te ((wipe σ vs).set i (some (.int (j : Int)))) H' R2) ∧
      ∀ D ys H', H D = none → List.length ys = n → (∀ y ∈ ys, p y) → H' D = some (.lst (ys.map V.str)) → BagAt H' b (N + n) → But b H H' → Q (.ref D) H') : tLc (iRng1 ta) (gName i) tYes te vs σ H0 Q := by
  refine tLc_rngB Pn h0 fun n H pn => ?_
  obtain ⟨hn, N, hb, hs, hd⟩ := h n H pn
  refine ⟨hn, fun _ j acc H' => (∃ ys : List Str, acc = ys.map V.str ∧ ys.length = j ∧ ∀ y ∈ ys, p y) ∧ BagAt H' b (N + j) ∧ But b H H', fun D nD => ⟨⟨[], rfl, rfl, by simp⟩, hb.new nD, fun c o e _ => by rw [upd_ne (ne_of_none e nD)]; exact e⟩, ?_, ?_⟩
  · rintro D nD j acc H' hj ⟨⟨ys, rfl, hl, hp⟩, hbj, hbut⟩ hD
    obtain ⟨h1, h2⟩ := hs j H' hj hbut hbj
    have hDb : D ≠ b := fun e => by
      obtain ⟨o, ho⟩ := hb.some
      rw [e, ho] at nD
      cases nD
    refine ⟨h1, fun R2 h => h2 _ fun y H4 hy hb4 hk => h _ _ (by rw [hk D hDb]; exact hD) ⟨⟨ys ++ [y], by simp, by simp [hl], fun x hx => ?_⟩, ?_, fun c o e hc => ?_⟩⟩
    · rcases List.mem_append.mp hx with hx | hx
      · exact hp x hx
      · rw [List.mem_singleton.mp hx]; exact hy
    · exact hb4.at_ (upd_ne hDb.symm)
    · rw [upd_ne (ne_of_none e nD), hk c hc]
      exact hbut c o e hc
  · rintro D nD acc H' ⟨⟨ys, rfl, hl, hp⟩, hbj, hbut⟩ hD
    exact hd D ys H' nD hl hp hD hbj hbut
theorem but_new {b p : Addr} {o : HO} {H H1 : Hp} (h : But b H H1) (np : H1 p = none) : But b H (upd H1 p o) := but_same h (same_new np)
theorem bag_ne {H : Hp} {b p : Addr} {N : Nat} (h : BagAt H b N) (np : H p = none) : p ≠ b := fun e => by
  obtain ⟨o, ho⟩ := h.some
  rw [e, ho] at np
  cases np
section
variable {P : Program} {w : World} {K : PySem.W.Frag} {mg : Str → Option Value} {base : Heap}
def spText (K : PySem.W.Frag) : Sp := fun vs H Q _ => ∃ (b : Addr) (most N : Nat), vs = [.ref b, .int most] ∧ BagAt H b N ∧ most ≤ 1000 ∧ N + 2000 < big ∧ ∀ z H', isWorthT (tl z) = true → z.length ≤ most → BagAt H' b (N + 1100) → But b H H' → Q (.str z) H'
def NEAR : List Str := ["07", "-0", "+1", "1a", "-", "--5", "+-3x", "00", "1 ", "1.0", "-01", "-5-", "+", "0x1", "- 5", "1e3"]
def SOME6 : List Str := ["; ", ":", "=", ",", "|", "|  ", ")", "(", "\"", "\"\"", ")=\"", "; write 1", "=\"", "x", " "]
def SOME3 : List Str := ["0123456789+-a ", "ab", St signsL]
theorem sc__law_text : FnScope ["bag", "most", "lot", "some", "many", "number", "near", "k"] ["bag", "most"] (defScope s__law_text) := ⟨rfl, rfl, rfl, by decide +kernel, rfl, by decide +kernel, by decide +kernel⟩
theorem ok__law_text (T : Hd w K mg) (D__law_draw : Dn P w K mg base 1 "_law_draw" spDraw) (D__law_signs : Dn P w K mg base 1 "_law_signs" (fun vs H Q _ => vs = [] ∧ Q (.str (St signsL)) H)) : Dn P w K mg base 2 "_law_text" (spText K) := by
  obtain ⟨fd, F⟩ := T.fn__law_text
  refine dn_mk F T.g__law_text (F.binds (ps := ["bag", "most"]) fun _ _ _ _ _ _ us hl => match us, hl with | [_, _], _ => rfl) sc__law_text (fun vs H Q E h => ?_) (fun cdv A outer s H vs Q E hr tk h => ?_)
  · obtain ⟨b, most, N, rfl, hb, hm, hN, q⟩ := h
    rfl
  obtain ⟨b, most, N, rfl, hb, hm, hN, q⟩ := h
  refine ⟨_, (pss_cons (ps_set (i := 2) sc__law_text.nd rfl (by first | exact Or.inl rfl | exact Or.inr rfl) (pe_d D__law_draw hr (by first | decide | omega) (fun σ => L2N.passAt tk σ) (by rfl) (pa_cons (pv 0) (pa_cons pe_int pa_nil)))) (pss_cons (ps_if (pt_cmpR op_lt (pv 2) pe_int (nomark _)) (pss_cons (ps_set (i := 5) sc__law_text.nd rfl (by first | exact Or.inl rfl | exact Or.inr rfl) (pe_d D__law_draw hr (by first | decide | omega) (fun σ => L2N.passAt tk σ) (by rfl) (pa_cons (pv 0) (pa_cons (pe_ix ix_list (pe_lst (pa_cons pe_int (pa_cons pe_int (pa_cons (pe_op op_powW pe_int pe_int) (pa_cons (pe_op op_powW pe_int pe_int) pa_nil))))) (pe_d D__law_draw hr (by first | decide | omega) (fun σ => L2N.passAt tk σ) (by rfl) (pa_cons (pv 0) (pa_cons pe_int pa_nil))) (fun _ _ => rfl)) pa_nil)))) (pss_one (ps_ret (pe_slice sl_str (pe_callTy call_str_int (by rfl) T.f_str (by decide +kernel) (pa_cons (pe_op op_mulW (pv 5) (pe_ix ix_list (pe_lst (pa_cons pe_int (pa_cons pe_int (pa_cons (pe_un un_neg pe_int) pa_nil)))) (pe_d D__law_draw hr (by first | decide | omega) (fun σ => L2N.passAt tk σ) (by rfl) (pa_cons (pv 0) (pa_cons pe_int pa_nil))) (fun _ _ => rfl))) pa_nil)) po_none (po_some (pv 1)))))) pss_nil) (pss_cons (ps_if (pt_cmpR op_eq (pv 2) pe_int (nomark _)) (pss_cons (ps_set (i := 6) sc__law_text.nd rfl (by first | exact Or.inl rfl | exact Or.inr rfl) (pe_lst (pa_cons pe_str (pa_cons pe_str (pa_cons pe_str (pa_cons pe_str (pa_cons pe_str (pa_cons pe_str (pa_cons pe_str (pa_cons pe_str (pa_cons pe_str (pa_cons pe_str (pa_cons pe_str (pa_cons pe_str (pa_cons pe_str (pa_cons pe_str (pa_cons pe_str (pa_cons pe_str pa_nil)))))))))))))))))) (pss_one (ps_ret (pe_slice sl_str (pe_ix ix_list (pv 6) (pe_d D__law_draw hr (by first | decide | omega) (fun σ => L2N.passAt tk σ) (by rfl) (pa_cons (pv 0) (pa_cons pe_int pa_nil))) (fun _ _ => rfl)) po_none (po_some (pv 1)))))) pss_nil) (pss_cons (ps_if (pt_cmpR op_eq (pv 2) pe_int (nomark _)) (pss_cons (ps_set (i := 3) sc__law_text.nd rfl (by first | exact Or.inl rfl | exact Or.inr rfl) (pe_lst (pa_cons pe_str (pa_cons pe_str (pa_cons pe_str (pa_cons pe_str (pa_cons pe_str (pa_cons pe_str (pa_cons pe_str (pa_cons pe_str (pa_cons pe_str (pa_cons pe_str (pa_cons pe_str (pa_cons pe_str (pa_cons pe_str (pa_cons pe_str (pa_cons pe_str pa_nil))))))))))))))))) (pss_one (ps_ret (pe_slice sl_str (pe_bm PySem.F.plainAttrs_str PySem.F.slot_str_join PySem.F.type_str_join mt_join pe_str (pa_cons (pe_lc (own := [("k", 7)]) (by rfl) sc__law_text.nd (pi_range1 (by rfl) T.f_range (pa_cons (pe_op op_add pe_int (pe_d D__law_draw hr (by first | decide | omega) (fun σ => L2N.passAt tk σ) (by rfl) (pa_cons (pv 0) (pa_cons pe_int pa_nil)))) pa_nil)) (blkOk_by (own := [("k", 7)]) (N := ["bag", "most", "lot", "some", "many", "number", "near", "k"]) (sc := defScope s__law_text) (by decide +kernel)) (fun _ _ _ _ _ => (pg_name (i := 7) sc__law_text.nd rfl (Or.inl rfl))) (fun _ _ _ _ _ => pts_nil) (fun _ _ _ _ _ => (pe_ix (ix_listK (K := K) rfl) (pv 3) (pe_d D__law_draw hr (by first | decide | omega) (fun σ => passN σ) (by rfl) (pa_cons (pv 0) (pa_cons pe_int pa_nil))) (fun _ _ => rfl)))) pa_nil)) po_none (po_some (pv 1)))))) pss_nil) (pss_cons (ps_set (i := 3) sc__law_text.nd rfl (by first | exact Or.inl rfl | exact Or.inr rfl) (pe_ix ix_list (pe_lst (pa_cons pe_str (pa_cons pe_str (pa_cons (pe_d0 D__law_signs hr (by first | decide | omega) (fun σ => L2N.passAt tk σ) (by rfl)) pa_nil)))) (pe_op op_sub (pv 2) pe_int) (fun _ _ => rfl))) (pss_cons (ps_set (i := 4) sc__law_text.nd rfl (by first | exact Or.inl rfl | exact Or.inr rfl) (pe_ix ix_list (pe_lst (pa_cons pe_int (pa_cons pe_int (pa_cons (pe_d D__law_draw hr (by first | decide | omega) (fun σ => L2N.passAt tk σ) (by rfl) (pa_cons (pv 0) (pa_cons (pe_op op_add (pv 1) pe_int) pa_nil))) pa_nil)))) (pe_d D__law_draw hr (by first | decide | omega) (fun σ => L2N.passAt tk σ) (by rfl) (pa_cons (pv 0) (pa_cons pe_int pa_nil))) (fun _ _ => rfl))) (pss_one (ps_ret (pe_bm PySem.F.plainAttrs_str PySem.F.slot_str_join PySem.F.type_str_join mt_join pe_str (pa_cons (pe_lc (own := [("k", 7)]) (by rfl) sc__law_text.nd (pi_range1 (by rfl) T.f_range (pa_cons (pe_callB (call_min2 rfl) (by rfl) T.f_min (by decide +kernel) (pa_cons (pv 4) (pa_cons (pv 1) pa_nil))) pa_nil)) (blkOk_by (own := [("k", 7)]) (N := ["bag", "most", "lot", "some", "many", "number", "near", "k"]) (sc := defScope s__law_text) (by decide +kernel)) (fun _ _ _ _ _ => (pg_name (i := 7) sc__law_text.nd rfl (Or.inl rfl))) (fun _ _ _ _ _ => pts_nil) (fun _ _ _ _ _ => (pe_ix ix_str (pv 3) (pe_d D__law_draw hr (by first | decide | omega) (fun σ => passN σ) (by rfl) (pa_cons (pv 0) (pa_cons (pe_callB (call_lenK (K := K) rfl) (by rfl) T.f_len (by decide +kernel) (pa_cons (pv 3) pa_nil)) pa_nil))) (fun _ _ => rfl)))) pa_nil)))))))))), ?_⟩
  have hs := sizeLine_eq
  walk_at "rd"
  refine drawQ hb (by decide) (by omega) fun lot H1 l0 l1 b1 u1 => ⟨lot, rfl, ?_⟩
  by_cases c1 : lot < 2
  · rw [if_pos c1]
    refine ⟨pow_big (by decide) (by decide) (by decide), pow_big (by decide) (by decide) (by decide), by rw [hs]; decide, fun p np => ?_⟩
    refine drawQ (b1.new np) (by decide) (by omega) fun r2 H2 m0 m1 b2 u2 => ?_
    have u2' := (but_new u1 np).trans u2
    have hp2 := u2 p _ upd_same (bag_ne b1 np)
    obtain ⟨mv, hmv, emv⟩ := ix_any (L := [V.int 10, V.int 200, V.int (10 ^ Int.toNat 20), V.int (10 ^ Int.toNat 40)]) m0 (by simpa using m1)
    refine ⟨_, _, rfl, SqL.of hp2, _, emv, ?_⟩
    obtain ⟨mm, rfl, q0, q1⟩ : ∃ mm : Int, mv = .int mm ∧ 0 < mm ∧ mm ≤ 10 ^ 40 := by
      simp only [List.mem_cons, List.not_mem_nil, or_false] at hmv
      rcases hmv with rfl | rfl | rfl | rfl
      · exact ⟨_, rfl, by decide, by decide⟩
      · exact ⟨_, rfl, by decide, by decide⟩
      · exact ⟨_, rfl, by decide, by decide⟩
      · exact ⟨_, rfl, by decide, by decide⟩
    refine drawQ b2 q0 (by omega) (fun nu H3 n0 n1 b3 u3 => ?_) (by omega)
    refine ⟨1, rfl, by rw [hs]; decide, fun p3 np3 => ?_⟩
    refine drawQ (b3.new np3) (by decide) (by omega) fun r4 H4 s0 s1 b4 u4 => ?_
    have hp4 := u4 p3 _ upd_same (bag_ne b3 np3)
    obtain ⟨sv, hsv, esv⟩ := ix_any (L := [V.int 1, V.int 1, V.int (-1)]) s0 (by simpa using s1)
    obtain ⟨sg, rfl, q2⟩ : ∃ sg : Int, sv = .int sg ∧ (sg = 1 ∨ sg = -1) := by
      simp only [List.mem_cons, List.not_mem_nil, or_false] at hsv
      rcases hsv with rfl | rfl | rfl
      · exact ⟨_, rfl, .inl rfl⟩
      · exact ⟨_, rfl, .inl rfl⟩
      · exact ⟨_, rfl, .inr rfl⟩
    have hab : (nu * sg).natAbs < 2 ^ 140 := by
      rcases q2 with rfl | rfl <;> omega
    refine ⟨_, _, rfl, SqL.of hp4, _, esv, nu, rfl, sg, rfl, ?_, Nat.lt_of_lt_of_le (PySem.Flt.log2_lt_of (by decide) hab) (by decide), ?_, ?_⟩
    · exact wide_mul (a := 140) (b := 40) (by omega) (by rcases q2 with rfl | rfl <;> decide) (by decide) (by decide) (by decide)
    · have := int_len (i := nu * sg) (k := 60) (by decide) (Nat.lt_of_lt_of_le hab (by decide))
      omega
    · obtain ⟨w1, w2⟩ := cut_ok (m := most) (int_worth (nu * sg))
      exact q _ _ w1 w2 (b4.mono (by omega)) ((but_new (u2'.trans u3) np3).trans u4)
  rw [if_neg c1]
  refine ⟨rfl, ?_⟩
  by_cases c2 : lot = 2
  · rw [if_pos (by rw [c2])]
    refine ⟨by rw [hs]; decide, fun p np => ?_⟩
    refine drawQ (b1.new np) (by decide) (by omega) fun r2 H2 m0 m1 b2 u2 => ?_
    have u2' := (but_new u1 np).trans u2
    have hp2 := u2 p _ upd_same (bag_ne b1 np)
    obtain ⟨st, hst, est⟩ := ix_strs (S := NEAR) m0 m1
    have hw : ∀ s ∈ NEAR, isWorthT (tl s) = true ∧ s.length ≤ 10 := by decide +kernel
    obtain ⟨w1, w2⟩ := hw st hst
    obtain ⟨w3, w4⟩ := cut_ok (m := most) w1
    exact ⟨_, _, rfl, SqL.of hp2, _, est, st, rfl, by omega, q _ _ w3 w4 (b2.mono (by omega)) u2'⟩
  rw [if_neg (by intro h; injection h; contradiction)]
  refine ⟨rfl, ?_⟩
  by_cases c3 : lot = 6
  · rw [if_pos (by rw [c3])]
    refine ⟨by rw [hs]; decide, fun p np => ?_⟩
    have hw : ∀ s ∈ SOME6, (tl s).all isSign = true ∧ s.length ≤ 10 := by decide +kernel
    have hpb := bag_ne b1 np
    refine tLc_pick (fun y => (tl y).all isSign = true ∧ y.length ≤ 10) (fun n H' => n ≤ 4 ∧ BagAt H' b (N + 2) ∧ But b H H' ∧ H' p = some (.lst (SOME6.map V.str))) (fun R h => ?_) fun n H2 ⟨hn4, b2, u2, hp2⟩ => ⟨by omega, N + 2, b2, fun j H' hj hu hbj => ⟨rfl, fun R2 h => ?_⟩, fun D ys H' nD hl hp hD hbn hu => ?_⟩
    · walk_at "rd"
      refine drawQ (b1.new np) (by decide) (by omega) fun r2 H2 m0 m1 b2 u2 => ⟨r2, rfl, ?_⟩
      have := h (1 + r2).toNat H2 ⟨by omega, b2, (but_new u1 np).trans u2, u2 p _ upd_same hpb⟩
      rw [show (((1 + r2).toNat : Nat) : Int) = 1 + r2 by omega] at this
      exact this
    · walk_at "rd"
      have hp' := hu p _ hp2 hpb
      refine ⟨b, 15, N + 2 + j, rfl, hbj, by decide, by decide, by omega, fun r H4 m0 m1 b4 k4 => ?_⟩
      obtain ⟨st, hst, est⟩ := ix_strs (S := SOME6) m0 m1
      refine ⟨_, _, rfl, SqL.of (by rw [k4 _ hpb]; exact hp'), _, est, h st H4 (hw st hst) b4 k4⟩
    · have hsum := sum_le fun y hy => (hp y hy).2
      have hjw : isWorthT (tl (Txt.join (Str.ofString "") ys)) = true := join_worth fun y hy => (hp y hy).1
      obtain ⟨w1, w2⟩ := cut_ok (m := most) hjw
      have e0 : (Str.ofString "").length = 0 := rfl
      refine ⟨D, rfl, ys, .inl (SqL.of hD), by rw [e0]; omega, by rw [join_len]; omega, q _ _ w1 w2 (hbn.mono (by omega)) (u2.trans hu)⟩
  rw [if_neg (by intro h; injection h; contradiction)]
  refine ⟨by rw [hs]; decide, fun p np => ⟨lot, rfl, _, SqL.of upd_same, ?_⟩⟩
  obtain ⟨so, hso, eso⟩ := ix_strs (S := SOME3) (r := lot - 3) (by omega) (by show lot - 3 < 3; omega)
  refine ⟨_, eso, ?_⟩
  refine drawQ (b1.new np) (by omega) (by omega) (fun r2 H2 m0 m1 b2 u2 => ?_) (by omega)
  have u2' := (but_new u1 np).trans u2
  refine ⟨by rw [hs]; decide, fun p3 np3 => ?_⟩
  refine drawQ (b2.new np3) (by decide) (by omega) fun r4 H4 s0 s1 b4 u4 => ?_
  have hp4 := u4 p3 _ upd_same (bag_ne b2 np3)
  have u4' := (but_new u2' np3).trans u4
  obtain ⟨mv, hmv, emv⟩ := ix_any (L := [V.int 1, V.int 2, V.int r2]) s0 (by simpa using s1)
  obtain ⟨mm, rfl, q0⟩ : ∃ mm : Int, mv = .int mm ∧ 0 ≤ mm := by
    simp only [List.mem_cons, List.not_mem_nil, or_false] at hmv
    rcases hmv with rfl | rfl | rfl
    · exact ⟨_, rfl, by decide⟩
    · exact ⟨_, rfl, by decide⟩
    · exact ⟨_, rfl, m0⟩
  refine ⟨_, _, rfl, SqL.of hp4, _, emv, ?_⟩
  obtain ⟨n0, hn0, en⟩ : ∃ n : Nat, n ≤ most ∧ (if (most : Int) < mm then (most : Int) else mm) = (n : Int) := by
    refine ⟨(if (most : Int) < mm then (most : Int) else mm).toNat, ?_, ?_⟩ <;> split <;> omega
  have hw : ∀ s ∈ SOME3, (tl s).all isSign = true ∧ s.length ≤ 100 ∧ 0 < s.length := by decide +kernel
  obtain ⟨v1, v2, v3⟩ := hw so hso
  refine tLc_pick (b := b) (fun y => (tl y).all isSign = true ∧ y.length ≤ 1) (fun n H' => n = n0 ∧ H' = H4) (fun R h => ?_) fun n H2 ⟨e1, e2⟩ => ?_
  · walk_at "rd"
    rw [en]
    exact h n0 H4 ⟨rfl, rfl⟩
  subst e1 e2
  refine ⟨by omega, _, b4, fun j H' hj hu hbj => ⟨rfl, fun R2 h => ?_⟩, fun D ys H' nD hl hp hD hbn hu => ?_⟩
  · walk_at "rd"
    refine ⟨by omega, ?_⟩
    refine ⟨b, so.length, _, rfl, hbj, by omega, Nat.lt_of_le_of_lt (show (so.length : Int).natAbs ≤ 100 by omega) (by decide), by omega, fun r H5 m0 m1 b5 k5 => ?_⟩
    have hr : r.toNat < (tl so).length := by rw [tl_len]; omega
    have er : (tl so)[r.toNat]? = some (tl so)[r.toNat] := List.getElem?_eq_getElem hr
    have e2 := atI_nat er
    rw [show ((r.toNat : Nat) : Int) = r by omega] at e2
    refine ⟨r, rfl, by omega, _, e2, h _ H5 ⟨?_, Nat.le_refl _⟩ b5 k5⟩
    rw [List.all_eq_true]
    intro c hc
    have : c = (tl so)[r.toNat] := by simpa [tl] using hc
    rw [this]
    exact List.all_eq_true.mp v1 _ (List.getElem_mem hr)
  · have hsum := sum_le fun y hy => (hp y hy).2
    have hjw : isWorthT (tl (Txt.join (Str.ofString "") ys)) = true := join_worth fun y hy => (hp y hy).1
    have e0 : (Str.ofString "").length = 0 := rfl
    exact ⟨D, rfl, ys, .inl (SqL.of hD), by rw [e0]; omega, q _ _ hjw (by rw [join_len]; omega) (hbn.mono (by omega)) (u4'.trans hu)⟩
def spNm (K : PySem.W.Frag) : Sp := fun vs H Q _ => ∃ (b : Addr) (N : Nat), vs = [.ref b] ∧ BagAt H b N ∧ N + 100 < big ∧ ∀ z H', isNameT (tl z) = true → BagAt H' b (N + 20) → But b H H' → Q (.str z) H'
def SOMEN : List Str := ["abcdefghijklmnopqrstuvwxyz", "ab"]
theorem sc__law_name : FnScope ["bag", "some", "many", "k"] ["bag"] (defScope s__law_name) := ⟨rfl, rfl, rfl, by decide +kernel, rfl, by decide +kernel, by decide +kernel⟩
theorem ok__law_name (T : Hd w K mg) (D__law_draw : Dn P w K mg base 1 "_law_draw" spDraw) : Dn P w K mg base 2 "_law_name" (spNm K) := by
  obtain ⟨fd, F⟩ := T.fn__law_name
  refine dn_mk F T.g__law_name (F.binds (ps := ["bag"]) fun _ _ _ _ _ _ us hl => match us, hl with | [_], _ => rfl) sc__law_name (fun vs H Q E h => ?_) (fun cdv A outer s H vs Q E hr tk h => ?_)
  · obtain ⟨b, N, rfl, hb, hN, q⟩ := h
    rfl
  obtain ⟨b, N, rfl, hb, hN, q⟩ := h
  refine ⟨_, (pss_cons (ps_set (i := 1) sc__law_name.nd rfl (by first | exact Or.inl rfl | exact Or.inr rfl) (pe_ix ix_list (pe_lst (pa_cons pe_str (pa_cons pe_str pa_nil))) (pe_d D__law_draw hr (by first | decide | omega) (fun σ => L2N.passAt tk σ) (by rfl) (pa_cons (pv 0) (pa_cons pe_int pa_nil))) (fun _ _ => rfl))) (pss_cons (ps_set (i := 2) sc__law_name.nd rfl (by first | exact Or.inl rfl | exact Or.inr rfl) (pe_ix ix_list (pe_lst (pa_cons pe_int (pa_cons pe_int (pa_cons (pe_op op_add pe_int (pe_d D__law_draw hr (by first | decide | omega) (fun σ => L2N.passAt tk σ) (by rfl) (pa_cons (pv 0) (pa_cons pe_int pa_nil)))) pa_nil)))) (pe_d D__law_draw hr (by first | decide | omega) (fun σ => L2N.passAt tk σ) (by rfl) (pa_cons (pv 0) (pa_cons pe_int pa_nil))) (fun _ _ => rfl))) (pss_one (ps_ret (pe_bm PySem.F.plainAttrs_str PySem.F.slot_str_join PySem.F.type_str_join mt_join pe_str (pa_cons (pe_lc (own := [("k", 3)]) (by rfl) sc__law_name.nd (pi_range1 (by rfl) T.f_range (pa_cons (pv 2) pa_nil)) (blkOk_by (own := [("k", 3)]) (N := ["bag", "some", "many", "k"]) (sc := defScope s__law_name) (by decide +kernel)) (fun _ _ _ _ _ => (pg_name (i := 3) sc__law_name.nd rfl (Or.inl rfl))) (fun _ _ _ _ _ => pts_nil) (fun _ _ _ _ _ => (pe_ix ix_str (pv 1) (pe_d D__law_draw hr (by first | decide | omega) (fun σ => passN σ) (by rfl) (pa_cons (pv 0) (pa_cons (pe_callB (call_lenK (K := K) rfl) (by rfl) T.f_len (by decide +kernel) (pa_cons (pv 1) pa_nil)) pa_nil))) (fun _ _ => rfl)))) pa_nil)))))), ?_⟩
  have hs := sizeLine_eq
  walk_at "rd"
  refine ⟨by rw [hs]; decide, fun p np => ?_⟩
  refine drawQ (hb.new np) (by decide) (by omega) fun r1 H1 m0 m1 b1 u1 => ?_
  have u1' := (but_new But.refl np).trans u1
  have hp1 := u1 p _ upd_same (bag_ne hb np)
  obtain ⟨so, hso, eso⟩ := ix_strs (S := SOMEN) m0 m1
  refine ⟨_, _, rfl, SqL.of hp1, _, eso, ?_⟩
  refine drawQ b1 (by decide) (by omega) fun r2 H2 n0 n1 b2 u2 => ⟨r2, rfl, by rw [hs]; decide, fun p3 np3 => ?_⟩
  refine drawQ (b2.new np3) (by decide) (by omega) fun r4 H4 s0 s1 b4 u4 => ?_
  have hp4 := u4 p3 _ upd_same (bag_ne b2 np3)
  have u4' := (but_new (u1'.trans u2) np3).trans u4
  obtain ⟨mv, hmv, emv⟩ := ix_any (L := [V.int 1, V.int 2, V.int (1 + r2)]) s0 (by simpa using s1)
  obtain ⟨mm, rfl, q0, q1⟩ : ∃ mm : Nat, mv = .int (mm : Int) ∧ 1 ≤ mm ∧ mm ≤ 8 := by
    simp only [List.mem_cons, List.not_mem_nil, or_false] at hmv
    rcases hmv with rfl | rfl | rfl
    · exact ⟨1, rfl, by decide, by decide⟩
    · exact ⟨2, rfl, by decide, by decide⟩
    · exact ⟨(1 + r2).toNat, by congr 1; omega, by omega, by omega⟩
  refine ⟨_, _, rfl, SqL.of hp4, _, emv, ?_⟩
  have hw : ∀ s ∈ SOMEN, (tl s).all isLet = true ∧ s.length ≤ 100 ∧ 0 < s.length := by decide +kernel
  obtain ⟨v1, v2, v3⟩ := hw so hso
  refine tLc_pick (b := b) (fun y => (tl y).all isLet = true ∧ y.length = 1) (fun n H' => n = mm ∧ H' = H4) (fun R h => ⟨_, rfl, h mm H4 ⟨rfl, rfl⟩⟩) fun n H2 ⟨e1, e2⟩ => ?_
  subst e1 e2
  refine ⟨by omega, _, b4, fun j H' hj hu hbj => ⟨rfl, fun R2 h => ?_⟩, fun D ys H' nD hl hp hD hbn hu => ?_⟩
  · walk_at "rd"
    refine ⟨by omega, ?_⟩
    refine ⟨b, so.length, _, rfl, hbj, by omega, Nat.lt_of_le_of_lt (show (so.length : Int).natAbs ≤ 100 by omega) (by decide), by omega, fun r H5 m0 m1 b5 k5 => ?_⟩
    have hr : r.toNat < (tl so).length := by rw [tl_len]; omega
    have er : (tl so)[r.toNat]? = some (tl so)[r.toNat] := List.getElem?_eq_getElem hr
    have e2 := atI_nat er
    rw [show ((r.toNat : Nat) : Int) = r by omega] at e2
    refine ⟨r, rfl, by omega, _, e2, h _ H5 ⟨?_, rfl⟩ b5 k5⟩
    rw [List.all_eq_true]
    intro c hc
    have : c = (tl so)[r.toNat] := by simpa [tl] using hc
    rw [this]
    exact List.all_eq_true.mp v1 _ (List.getElem_mem hr)
  · have hsum : (ys.map fun x => x.length).sum = ys.length := by
      have : ∀ l : List Str, (∀ y ∈ l, (tl y).all isLet = true ∧ y.length = 1) → (l.map fun x => x.length).sum = l.length := by
        intro l
        induction l with
        | nil => intro _; rfl
        | cons y r ih =>
          intro h
          have h1 := (h y (by simp)).2
          have h2 := ih fun x hx => h x (List.mem_cons_of_mem _ hx)
          simp only [List.map_cons, List.sum_cons, List.length_cons]
          omega
      exact this ys hp
    have hjw : (tl (Txt.join (Str.ofString "") ys)).all isLet = true := join_worth fun y hy => (hp y hy).1
    have e0 : (Str.ofString "").length = 0 := rfl
    refine ⟨D, rfl, ys, .inl (SqL.of hD), by rw [e0]; omega, q _ _ ?_ (hbn.mono (by omega)) (u4'.trans hu)⟩
    unfold isNameT
    rw [hjw, Bool.and_true, decide_eq_true_eq, tl_len, join_len]
    omega
end
end Sk

/-! ## G2 -/
namespace Sk
open PySem PySem.Spec PyProof.Rows L2
set_option hygiene false in
local macro_rules | `(tactic| walk_at "rd") => `(tactic| simp only [tVar, tC, tB, tAnd, tOr, tNot, tAndV, tOrV, tNotV, tIf, tNext, tSeq, tBreak, tCont, tDrop, tRet, tRetN, tIfS, tAsg, tAug, tOp, tUn, tTest, tChain, tFld, sFldAug, sFld, rAdd, tNil, tCons, tTup, tLst, tCB, tNoPart, tPart, tSl, tBM0, tBM, tYes, tM0, tM1, CwR.tReplC, tCallS, tMethS, tMakeS, gName, wipe, tyV, gTup, gCons, gNil,
  rI, rI0, rEq, rNe, scal, rPlus, rPlusI, rPlusS, rCat, rCatA, rIx, rIxL, rIxT, rIxS, rSl, rSlS, rSlL, rSlA, iPlus, iPlusI, iPlusS, ipI, rAll, rAny, LenV, WE, E0, rAppend,
  L2.start, List.map_cons, List.map_nil, List.length_cons, List.length_nil, Nat.zero_add, Nat.add_zero, Nat.reduceAdd, Nat.reduceSub, Nat.sub_self, List.replicate_zero, List.replicate_succ, List.append_nil, List.nil_append, List.cons_append, List.getElem?_cons_zero, List.getElem?_cons_succ, List.set_cons_zero, List.set_cons_succ, Option.some.injEq,
  V.int.injEq, V.str.injEq, V.bl.injEq, V.ref.injEq, V.ty.injEq, HO.ins.injEq, HO.lst.injEq, HO.tup.injEq, List.cons.injEq, reduceCtorEq, false_and, and_false, true_and, and_true, and_assoc, exists_const, exists_false, false_or, or_false, exists_eq_left', exists_eq_left, exists_eq_right, exists_eq_right', exists_and_left, ↓reduceIte, decide_eq_true_eq, Bool.not_eq_true', decide_eq_false_iff_not, if_true, if_false, cxOf, and_self, Bool.not_true, Bool.not_false, Bool.false_eq_true,
  sf_signs, sf_spot, sf_put, T.cl_Source, T.na_Source_signs, T.na_Source_spot, sg_inj, upd_same, rIsS, tyN, kb1, kb2, kb3, kb4, kb5, kb6, kb7, kb8, kb9, kb10, kb11, kb12, kb13, kb14, kb15, kb16, kb17, kb18, kb19, kb20, kb21, tDNewK, rPowW, gStar, gUnl])
/-! ### drawn expressions -/
def lE : Nat → Nat
  | 0 => 402
  | n + 1 => 6 * lE n + 30
def cE : Nat → Nat
  | 0 => 6000
  | n + 1 => 10 * cE n + 6000
theorem lE_ge (n : Nat) : 402 ≤ lE n := by
  induction n with
  | zero => exact Nat.le_refl _
  | succ n ih => rw [lE]; omega
theorem cE_ge (n : Nat) : 6000 ≤ cE n := by
  cases n with
  | zero => exact Nat.le_refl _
  | succ n => rw [cE]; omega
theorem dp_more {K : PySem.W.Frag} {b : Addr} {H H1 H2 : Hp} {N : Nat} {v : V} {d : PyData} (hb : BagAt H b N) (h : But b H1 H2) (hd : Dp K (dif H H1) v d) : Dp K (dif H H2) v d := by
  obtain ⟨o, ho⟩ := hb.some
  exact Dp.same (dif_more ho h) hd
theorem dp_back {K : PySem.W.Frag} {b : Addr} {H H1 H2 : Hp} {N : Nat} {v : V} {d : PyData} (hb : BagAt H1 b N) (h : But b H H1) (hd : Dp K (dif H1 H2) v d) : Dp K (dif H H2) v d := by
  obtain ⟨o, ho⟩ := hb.some
  exact Dp.same (dif_back ho h) hd
theorem fr_of {b a : Addr} {H H1 : Hp} {N : Nat} (h : But b H H1) (hb : BagAt H1 b N) (na : H1 a = none) : H a = none := by
  obtain ⟨o, ho⟩ := hb.some
  exact free_of h ho na
theorem but_new' {b p : Addr} {o : HO} {H H1 : Hp} (h : But b H H1) (np : H p = none) : But b H (upd H1 p o) := fun c u e hc => by
  rw [upd_ne (ne_of_none e np)]
  exact h c u e hc
section
variable {P : Program} {w : World} {K : PySem.W.Frag} {mg : Str → Option Value} {base : Heap}
def spXp (K : PySem.W.Frag) (n : Nat) : Sp := fun vs H Q _ => ∃ (b : Addr) (d N : Nat), vs = [.ref b, .int (d : Int)] ∧ 1 ≤ d ∧ d ≤ n ∧ BagAt H b N ∧ N + cE (d - 1) < big ∧
  ∀ v e H', e.wf = true → e.dep ≤ d → (showE e).length ≤ lE (d - 1) → Dp K (dif H H') v e.toD → BagAt H' b (N + cE (d - 1)) → But b H H' → Q v H'
def spXl (K : PySem.W.Frag) (n : Nat) : Sp := fun vs H Q _ => ∃ (b : Addr) (d N : Nat), vs = [.ref b, .int (d : Int)] ∧ 1 ≤ d ∧ d ≤ n ∧ BagAt H b N ∧ N + cE (d - 1) - 100 < big ∧
  ∀ v e H', e.wf = true → e.isPl = true → e.dep ≤ d → (showE e).length ≤ lE (d - 1) → Dp K (dif H H') v e.toD → BagAt H' b (N + cE (d - 1) - 100) → But b H H' → Q v H'
def spXs (K : PySem.W.Frag) (n : Nat) : Sp := fun vs H Q _ => ∃ (b : Addr) (d least N : Nat), vs = [.ref b, .int (d : Int), .int (least : Int)] ∧ least ≤ 1 ∧ 1 ≤ d ∧ d ≤ n ∧ BagAt H b N ∧ N + 3 + 6 * cE (d - 1) < big ∧
  ∀ v es H', wfS es = true → depS es ≤ d → (showP es).length ≤ 6 * (lE (d - 1) + 1) + 1 → least ≤ es.length → Dp K (dif H H') v (.list (toDs es)) → BagAt H' b (N + 3 + 6 * cE (d - 1)) → But b H H' → Q v H'
theorem showT_le {L : Nat} : ∀ es : List Ex, (∀ x ∈ es, (showE x).length ≤ L) → (showT es).length ≤ es.length * (L + 1) + 1
  | [], _ => by rw [showT]; simp
  | e :: r, h => by
    have h1 := h e (by simp)
    have h2 := showT_le r fun x hx => h x (List.mem_cons_of_mem _ hx)
    rw [showT, List.length_cons, List.length_append, List.length_cons, Nat.add_mul]
    omega
theorem showP_le {L : Nat} (es : List Ex) (h : ∀ x ∈ es, (showE x).length ≤ L) : (showP es).length ≤ es.length * (L + 1) + 1 := by
  cases es with
  | nil => rw [showP]; simp
  | cons e r =>
    have h1 := h e (by simp)
    have h2 := showT_le r fun x hx => h x (List.mem_cons_of_mem _ hx)
    rw [showP, List.length_cons, List.length_append, List.length_cons, Nat.add_mul]
    omega
theorem sc__law_parts : FnScope ["bag", "deep", "least", "many", "k"] ["bag", "deep", "least"] (defScope s__law_parts) := ⟨rfl, rfl, rfl, by decide +kernel, rfl, by decide +kernel, by decide +kernel⟩
theorem ok__law_parts (T : Hd w K mg) {k n : Nat} (hk : 1 ≤ k) (D__law_draw : Dn P w K mg base 1 "_law_draw" spDraw) (D__law_expr : Dn P w K mg base k "_law_expr" (spXp K n)) : Dn P w K mg base (k + 1) "_law_parts" (spXs K n) := by
  obtain ⟨fd, F⟩ := T.fn__law_parts
  refine dn_mk F T.g__law_parts (F.binds (ps := ["bag", "deep", "least"]) fun _ _ _ _ _ _ us hl => match us, hl with | [_, _, _], _ => rfl) sc__law_parts (fun vs H Q E h => ?_) (fun cdv A outer s H vs Q E hr tk h => ?_)
  · obtain ⟨b, d, least, N, rfl, hl, hd0, hd1, hb, hN, q⟩ := h
    rfl
  obtain ⟨b, d, least, N, rfl, hl, hd0, hd1, hb, hN, q⟩ := h
  refine ⟨_, (pss_cons (ps_set (i := 3) sc__law_parts.nd rfl (by first | exact Or.inl rfl | exact Or.inr rfl) (pe_callB (call_max2 rfl) (by rfl) T.f_max (by decide +kernel) (pa_cons (pv 2) (pa_cons (pe_ix ix_list (pe_lst (pa_cons (pe_d D__law_draw hr (by first | decide | omega) (fun σ => L2N.passAt tk σ) (by rfl) (pa_cons (pv 0) (pa_cons pe_int pa_nil))) (pa_cons (pe_d D__law_draw hr (by first | decide | omega) (fun σ => L2N.passAt tk σ) (by rfl) (pa_cons (pv 0) (pa_cons pe_int pa_nil))) pa_nil))) (pe_op op_fdivW (pe_d D__law_draw hr (by first | decide | omega) (fun σ => L2N.passAt tk σ) (by rfl) (pa_cons (pv 0) (pa_cons pe_int pa_nil))) pe_int) (fun _ _ => rfl)) pa_nil)))) (pss_one (ps_ret (pe_lc (own := [("k", 4)]) (by rfl) sc__law_parts.nd (pi_range1 (by rfl) T.f_range (pa_cons (pv 3) pa_nil)) (blkOk_by (own := [("k", 4)]) (N := ["bag", "deep", "least", "many", "k"]) (sc := defScope s__law_parts) (by decide +kernel)) (fun _ _ _ _ _ => (pg_name (i := 4) sc__law_parts.nd rfl (Or.inl rfl))) (fun _ _ _ _ _ => pts_nil) (fun _ _ _ _ _ => (pe_d D__law_expr hr (by first | decide | omega) (fun σ => passN σ) (by rfl) (pa_cons (pv 0) (pa_cons (pv 1) pa_nil)))))))), ?_⟩
  have hs := sizeLine_eq
  have hce := cE_ge (d - 1)
  walk_at "rd"
  refine drawQ hb (by decide) (by omega) fun r1 H1 l0 l1 b1 u1 => ?_
  refine drawQ b1 (by decide) (by omega) fun r2 H2 m0 m1 b2 u2 => ⟨by rw [hs]; decide, fun p np => ?_⟩
  refine drawQ (b2.new np) (by decide) (by omega) fun r3 H3 n0 n1 b3 u3 => ?_
  have hp3 := u3 p _ upd_same (bag_ne b2 np)
  have u3' := (but_new (u1.trans u2) np).trans u3
  obtain ⟨mv, hmv, emv⟩ := ix_any (L := [V.int r1, V.int r2]) (r := r3 / 7) (by omega) (by show r3 / 7 < 2; omega)
  obtain ⟨mm, rfl, q0, q1⟩ : ∃ mm : Int, mv = .int mm ∧ 0 ≤ mm ∧ mm ≤ 6 := by
    simp only [List.mem_cons, List.not_mem_nil, or_false] at hmv
    rcases hmv with rfl | rfl
    · exact ⟨_, rfl, by omega, by omega⟩
    · exact ⟨_, rfl, by omega, by omega⟩
  refine ⟨r3, rfl, ⟨by decide, by decide +kernel⟩, _, SqL.of hp3, _, emv, mm, rfl, ?_⟩
  obtain ⟨many, g0, g1, en⟩ : ∃ n : Nat, least ≤ n ∧ n ≤ 6 ∧ (if mm > (least : Int) then mm else (least : Int)) = (n : Int) := by
    refine ⟨(if mm > (least : Int) then mm else (least : Int)).toNat, ?_, ?_, ?_⟩ <;> split <;> omega
  rw [en]
  have hmul : many * cE (d - 1) ≤ 6 * cE (d - 1) := Nat.mul_le_mul_right _ g1
  refine tLc_rngB (fun n H' => n = many ∧ H' = H3) (fun R h => ⟨_, rfl, h many H3 ⟨rfl, rfl⟩⟩) fun n H4 ⟨e1, e2⟩ => ?_
  subst e1 e2
  refine ⟨by omega, fun D j acc H' => ∃ es : List Ex, es.length = j ∧ DpAll K (difO H D H') acc (toDs es) ∧ (∀ x ∈ es, x.wf = true ∧ x.dep ≤ d ∧ (showE x).length ≤ lE (d - 1)) ∧ BagAt H' b (N + 3 + j * cE (d - 1)) ∧ But b H H', fun D nD => ⟨[], rfl, .nil, by simp, (b3.mono (by omega)).new nD, but_new u3' nD⟩, ?_, ?_⟩
  · rintro D nD j acc H' hj ⟨es, hes, hA, hp, hbj, hu⟩ hD
    refine ⟨rfl, fun R2 h => ?_⟩
    walk_at "rd"
    have hDb : D ≠ b := bag_ne b3 nD
    have hm2 : (j + 1) * cE (d - 1) ≤ n * cE (d - 1) := Nat.mul_le_mul_right _ hj
    have hm3 : (j + 1) * cE (d - 1) = j * cE (d - 1) + cE (d - 1) := by rw [Nat.add_mul, Nat.one_mul]
    refine ⟨b, d, N + 3 + j * cE (d - 1), rfl, hd0, hd1, hbj, by omega, fun v e H5 hw hd hl hv hb5 u5 => ?_⟩
    have hD5 := u5 D _ hD hDb
    obtain ⟨o, ho⟩ := hb.some
    obtain ⟨o2, ho2⟩ := hbj.some
    refine h v H5 hD5 ⟨es ++ [e], by rw [List.length_append, hes]; rfl, ?_, fun x hx => ?_, ?_, but_new' (hu.trans u5) (fr_of u3' b3 nD)⟩
    · rw [difO_upd, toDs_snoc]
      exact DpAll.snoc (DpAll.same (difO_more ho u5) hA) (Dp.same (difO_back ho2 hD hu) hv)
    · rcases List.mem_append.mp hx with hx | hx
      · exact hp x hx
      · rw [List.mem_singleton.mp hx]; exact ⟨hw, hd, hl⟩
    · refine (hb5.mono ?_).at_ (upd_ne hDb.symm)
      omega
  · rintro D nD acc H' ⟨es, hes, hA, hp, hbj, hu⟩ hD
    refine q _ es H' (wfS_mem.mpr fun x hx => (hp x hx).1) (depS_le.mpr fun x hx => (hp x hx).2.1) ?_ (by omega) (.lst (SqL.of (dif_eq.mpr ⟨fr_of u3' b3 nD, hD⟩)) (DpAll.same difO_sub hA)) (hbj.mono (by omega)) hu
    have h1 := showP_le es fun x hx => (hp x hx).2.2
    have h2 : es.length * (lE (d - 1) + 1) ≤ 6 * (lE (d - 1) + 1) := Nat.mul_le_mul_right _ (by omega)
    omega
theorem pl_fin {sk z : Str} {v : V} {es : List Ex} {H H3 : Hp} {a : Addr} {d n : Nat} (hsk : sk = "var" ∨ sk = "at") (hz : isNameT (tl z) = true) (hw : wfS es = true) (hd : depS es ≤ d) (hl : (showP es).length + 9 ≤ n)
    (hv : Dp K (dif H H3) v (.list (toDs es))) (na : H3 a = none) (ha : H a = none) : ∃ e : Ex, e.wf = true ∧ e.isPl = true ∧ e.dep ≤ d + 1 ∧ (showE e).length ≤ n ∧ Dp K (dif H (upd H3 a (.tup [.str sk, .str z, v]))) (.ref a) e.toD := by
  have hz8 : (tl z).length ≤ 8 := by
    unfold isNameT at hz
    rw [Bool.and_eq_true, decide_eq_true_eq] at hz
    exact hz.1.2
  rcases hsk with rfl | rfl
  · refine ⟨.var (tl z) es, by rw [Ex.wf, hz, hw]; rfl, rfl, by rw [Ex.dep]; omega, by rw [showE, List.length_append]; omega, ?_⟩
    rw [Ex.toD]
    exact tup_new na ha (.cons (.str _) (.cons (.str _) (.cons hv .nil)))
  · refine ⟨.at_ (tl z) es, by rw [Ex.wf, hz, hw]; rfl, rfl, by rw [Ex.dep]; omega, by rw [showE, List.length_cons, List.length_append]; omega, ?_⟩
    rw [Ex.toD]
    exact tup_new na ha (.cons (.str _) (.cons (.str _) (.cons hv .nil)))
def KINDS : List Str := ["var", "at", "at"]
theorem sc__law_place : FnScope ["bag", "deep", "lot", "parts"] ["bag", "deep"] (defScope s__law_place) := ⟨rfl, rfl, rfl, by decide +kernel, rfl, by decide +kernel, by decide +kernel⟩
theorem ok__law_place (T : Hd w K mg) {k n : Nat} (hk : 2 ≤ k) (D__law_draw : Dn P w K mg base 1 "_law_draw" spDraw) (D__law_name : Dn P w K mg base 2 "_law_name" (spNm K)) (D__law_parts : Dn P w K mg base k "_law_parts" (spXs K n)) : Dn P w K mg base (k + 1) "_law_place" (spXl K (n + 1)) := by
  obtain ⟨fd, F⟩ := T.fn__law_place
  refine dn_mk F T.g__law_place (F.binds (ps := ["bag", "deep"]) fun _ _ _ _ _ _ us hl => match us, hl with | [_, _], _ => rfl) sc__law_place (fun vs H Q E h => ?_) (fun cdv A outer s H vs Q E hr tk h => ?_)
  · obtain ⟨b, d, N, rfl, hd0, hd1, hb, hN, q⟩ := h
    rfl
  obtain ⟨b, d, N, rfl, hd0, hd1, hb, hN, q⟩ := h
  refine ⟨_, (pss_cons (ps_set (i := 2) sc__law_place.nd rfl (by first | exact Or.inl rfl | exact Or.inr rfl) (pe_d D__law_draw hr (by first | decide | omega) (fun σ => L2N.passAt tk σ) (by rfl) (pa_cons (pv 0) (pa_cons pe_int pa_nil)))) (pss_cons (ps_if (PW.pt (pw_and (pt_cmpR op_eq (pv 2) pe_int (nomark _)) (pw_and1 (pt_cmpR op_gt (pv 1) pe_int (nomark _))))) (pss_one (ps_ret (pe_tup (pa_cons pe_str (pa_cons (pe_d D__law_parts hr (by first | decide | omega) (fun σ => L2N.passAt tk σ) (by rfl) (pa_cons (pv 0) (pa_cons (pe_op op_sub (pv 1) pe_int) (pa_cons pe_int pa_nil)))) pa_nil))))) pss_nil) (pss_cons (ps_set (i := 3) sc__law_place.nd rfl (by first | exact Or.inl rfl | exact Or.inr rfl) (pe_ifExp (pt_cmpR op_gt (pv 1) pe_int (nomark _)) (pe_d D__law_parts hr (by first | decide | omega) (fun σ => L2N.passAt tk σ) (by rfl) (pa_cons (pv 0) (pa_cons (pe_op op_sub (pv 1) pe_int) (pa_cons pe_int pa_nil)))) (pe_lst pa_nil))) (pss_one (ps_ret (pe_tup (pa_cons (pe_ix ix_list (pe_lst (pa_cons pe_str (pa_cons pe_str (pa_cons pe_str pa_nil)))) (pv 2) (fun _ _ => rfl)) (pa_cons (pe_d D__law_name hr (by first | decide | omega) (fun σ => L2N.passAt tk σ) (by rfl) (pa_cons (pv 0) pa_nil)) (pa_cons (pv 3) pa_nil))))))))), ?_⟩
  have hs := sizeLine_eq
  have hce := cE_ge (d - 1)
  have hle := lE_ge (d - 1)
  walk_at "rd"
  refine drawQ hb (by decide) (by omega) fun r H1 l0 l1 b1 u1 => ⟨rfl, ?_⟩
  obtain ⟨sk, hsk, esk⟩ := ix_strs (S := KINDS) (r := r) l0 l1
  have hsk' : sk = "var" ∨ sk = "at" := by
    unfold KINDS at hsk
    simp only [List.mem_cons, List.not_mem_nil, or_false, or_self] at hsk
    exact hsk
  by_cases hd : 1 < (d : Int)
  · simp only [if_pos hd]
    obtain ⟨m, rfl⟩ : ∃ m, d = m + 2 := ⟨d - 2, by omega⟩
    have em : ((m + 2 : Nat) : Int) - 1 = ((m + 1 : Nat) : Int) := by omega
    have ec : cE (m + 2 - 1) = 10 * cE m + 6000 := by show cE (m + 1) = _; rw [cE]
    have el : lE (m + 2 - 1) = 6 * lE m + 30 := by show lE (m + 1) = _; rw [lE]
    have hcm := cE_ge m
    rw [ec] at hN q
    rw [el] at q
    rw [em]
    by_cases c2 : r = 2
    · rw [if_pos (by rw [c2])]
      refine ⟨b, m + 1, 1, N + 1, rfl, by omega, by omega, by omega, b1, by show N + 1 + 3 + 6 * cE m < big; omega, fun v es H2 hw hdp hl hle hv b2 u2 => ⟨by rw [hs]; decide, fun p np => ?_⟩⟩
      refine q _ (.short es) _ ?_ rfl (by rw [Ex.dep]; omega) ?_ ?_ ((b2.mono (by show N + 1 + 3 + 6 * cE m ≤ _; omega)).new np) (but_new (u1.trans u2) np)
      · rw [Ex.wf, hw, Bool.and_true, decide_eq_true_eq]
        rintro rfl
        exact absurd hle (by decide)
      · rw [showE, List.length_cons]
        have : lE (m + 1 - 1) = lE m := rfl
        omega
      · rw [Ex.toD]
        exact tup_new np (fr_of (u1.trans u2) b2 np) (.cons (.str _) (.cons (dp_back b1 u1 hv) .nil))
    · rw [if_neg (fun h => c2 (V.int.inj h))]
      refine ⟨b, m + 1, 0, N + 1, rfl, by omega, by omega, by omega, b1, by show N + 1 + 3 + 6 * cE m < big; omega, fun v es H2 hw hdp hl _ hv b2 u2 => ⟨by rw [hs]; decide, fun p np => ?_⟩⟩
      refine ⟨_, _, rfl, SqL.of upd_same, _, esk, ?_⟩
      refine ⟨b, _, rfl, b2.new np, by show N + 1 + 3 + 6 * cE m + 100 < big; omega, fun z H3 hz b3 u3 => ⟨by rw [hs]; decide, fun a na => ?_⟩⟩
      have u3' := (but_new (u1.trans u2) np).trans u3
      have hlm : lE (m + 1 - 1) = lE m := rfl
      obtain ⟨e, g1, g2, g3, g4, g5⟩ := pl_fin (n := 6 * lE m + 30) hsk' hz hw hdp (by omega) (dp_more hb ((but_new But.refl np).trans u3) (dp_back b1 u1 hv)) na (fr_of u3' b3 na)
      exact q _ e _ g1 g2 (by omega) g4 g5 ((b3.mono (by show N + 1 + 3 + 6 * cE m + 20 ≤ _; omega)).new na) (but_new u3' na)
  · simp only [if_neg hd, ite_self]
    refine ⟨by rw [hs]; decide, fun p np => ⟨by rw [hs]; decide, fun p2 np2 => ?_⟩⟩
    refine ⟨_, _, rfl, SqL.of upd_same, _, esk, ?_⟩
    have b1' := b1.new (o := .lst []) np
    refine ⟨b, _, rfl, b1'.new np2, by omega, fun z H3 hz b3 u3 => ⟨by rw [hs]; decide, fun a na => ?_⟩⟩
    have u1' := but_new (o := .lst []) u1 np
    have u3' := (but_new u1' np2).trans u3
    have hv : Dp K (dif H (upd H1 p (.lst []))) (.ref p) (.list (toDs [])) := by
      rw [toDs]
      exact lst_new np (fr_of u1 b1 np) .nil
    obtain ⟨e, g1, g2, g3, g4, g5⟩ := pl_fin (es := []) (d := 0) (n := lE (d - 1)) hsk' hz (by rw [wfS]) (by rw [depS]; exact Nat.le_refl _) (by rw [showP, List.length_nil]; omega) (dp_more hb ((but_new But.refl np2).trans u3) hv) na (fr_of u3' b3 na)
    exact q _ e _ g1 g2 (by omega) g4 g5 ((b3.mono (by omega)).new na) (but_new u3' na)
end
end Sk

/-! ## G3 -/
namespace Sk
open PySem PySem.Spec PyProof.Rows L2
set_option hygiene false in
local macro_rules | `(tactic| walk_at "rd") => `(tactic| simp only [tVar, tC, tB, tAnd, tOr, tNot, tAndV, tOrV, tNotV, tIf, tNext, tSeq, tBreak, tCont, tDrop, tRet, tRetN, tIfS, tAsg, tAug, tOp, tUn, tTest, tChain, tFld, sFldAug, sFld, rAdd, tNil, tCons, tTup, tLst, tCB, tNoPart, tPart, tSl, tBM0, tBM, tYes, tM0, tM1, CwR.tReplC, tCallS, tMethS, tMakeS, gName, wipe, tyV, gTup, gCons, gNil,
  rI, rI0, rEq, rNe, scal, rPlus, rPlusI, rPlusS, rCat, rCatA, rIx, rIxL, rIxT, rIxS, rSl, rSlS, rSlL, rSlA, iPlus, iPlusI, iPlusS, ipI, rAll, rAny, LenV, WE, E0, rAppend,
  L2.start, List.map_cons, List.map_nil, List.length_cons, List.length_nil, Nat.zero_add, Nat.add_zero, Nat.reduceAdd, Nat.reduceSub, Nat.sub_self, List.replicate_zero, List.replicate_succ, List.append_nil, List.nil_append, List.cons_append, List.getElem?_cons_zero, List.getElem?_cons_succ, List.set_cons_zero, List.set_cons_succ, Option.some.injEq,
  V.int.injEq, V.str.injEq, V.bl.injEq, V.ref.injEq, V.ty.injEq, HO.ins.injEq, HO.lst.injEq, HO.tup.injEq, List.cons.injEq, reduceCtorEq, false_and, and_false, true_and, and_true, and_assoc, exists_const, exists_false, false_or, or_false, exists_eq_left', exists_eq_left, exists_eq_right, exists_eq_right', exists_and_left, ↓reduceIte, decide_eq_true_eq, Bool.not_eq_true', decide_eq_false_iff_not, if_true, if_false, cxOf, and_self, Bool.not_true, Bool.not_false, Bool.false_eq_true,
  sf_signs, sf_spot, sf_put, T.cl_Source, T.na_Source_signs, T.na_Source_spot, sg_inj, upd_same, rIsS, tyN, kb1, kb2, kb3, kb4, kb5, kb6, kb7, kb8, kb9, kb10, kb11, kb12, kb13, kb14, kb15, kb16, kb17, kb18, kb19, kb20, kb21, tDNewK, rPowW, gStar, gUnl])
theorem dblQ_le : ∀ l : Tx, (dblQ l).length ≤ 2 * l.length
  | [] => by rw [dblQ]; exact Nat.le_refl _
  | c :: r => by
    have := dblQ_le r
    rw [dblQ]
    split <;> simp only [List.length_cons] <;> omega
theorem shownW_le (l : Tx) : (shownW l).length ≤ 2 * l.length + 2 := by
  unfold shownW
  split
  · omega
  · have := dblQ_le l
    unfold quotedW
    rw [List.length_cons, List.length_append, List.length_singleton]
    omega
theorem ifor {c1 c2 A B : Prop} [Decidable c1] [Decidable c2] (hA : (c1 ∨ c2) → A) (hB : ¬ c1 → ¬ c2 → B) : if c1 then A else if c2 then A else B := by
  by_cases h1 : c1
  · rw [if_pos h1]; exact hA (.inl h1)
  rw [if_neg h1]
  by_cases h2 : c2
  · rw [if_pos h2]; exact hA (.inr h2)
  · rw [if_neg h2]; exact hB h1 h2
theorem callOk_len (a : Ex) : callOk (tl "length") [a] = true := by
  unfold callOk
  rw [show callsN (tl "length") = some 1 by decide +kernel]
  rfl
theorem callOk_3 {n : Tx} (h : n = tl "piece" ∨ n = tl "part") (a b c : Ex) : callOk n [a, b, c] = true := by
  unfold callOk
  rw [show callsN n = some 3 by rcases h with rfl | rfl <;> decide +kernel]
  rfl
theorem callOk_pl {n : Tx} (h : n = tl "order" ∨ n = tl "back" ∨ n = tl "data") {p : Ex} (hp : p.isPl = true) : callOk n [p] = true := by
  unfold callOk
  rw [show callsN n = none by rcases h with rfl | rfl | rfl <;> decide +kernel]
  have e : isPlaceW n = true := by rcases h with rfl | rfl | rfl <;> decide +kernel
  simp only [e, hp, Bool.true_and, Bool.true_or]
theorem callOk_ot {p : Ex} (a : Ex) (hp : p.isPl = true) : callOk (tl "other") [p, a] = true := by
  unfold callOk
  rw [show callsN (tl "other") = none by decide +kernel]
  simp only [hp, decide_true, Bool.true_and, Bool.or_true]
theorem undS_le (a : Ex) : (undS a).length ≤ (showE a).length + 2 := by
  unfold undS
  split
  · rw [List.length_cons, List.length_append, List.length_singleton]
    omega
  · omega
def OPS : List Str := ["not", "minus", "length"]
def FOURS : List Str := ["order", "back", "data", "other"]
def TWOS : List Str := ["piece", "part"]
theorem memO {s : Str} (h : s ∈ OPS) : s = "not" ∨ s = "minus" ∨ s = "length" := by
  unfold OPS at h
  simpa only [List.mem_cons, List.not_mem_nil, or_false] using h
theorem memF {s : Str} (h : s ∈ FOURS) : s = "order" ∨ s = "back" ∨ s = "data" ∨ s = "other" := by
  unfold FOURS at h
  simpa only [List.mem_cons, List.not_mem_nil, or_false] using h
theorem memT {s : Str} (h : s ∈ TWOS) : s = "piece" ∨ s = "part" := by
  unfold TWOS at h
  simpa only [List.mem_cons, List.not_mem_nil, or_false] using h
theorem big_eq : big = 1427247692705959881058285969449495136382746624 := by decide +kernel
section
variable {P : Program} {w : World} {K : PySem.W.Frag} {mg : Str → Option Value} {base : Heap}
theorem sc__law_expr : FnScope ["bag", "deep", "lot", "word", "most", "worth", "sign", "three", "k"] ["bag", "deep"] (defScope s__law_expr) := ⟨rfl, rfl, rfl, by decide +kernel, rfl, by decide +kernel, by decide +kernel⟩
theorem ok__law_expr (T : Hd w K mg) {k n : Nat} (hk : 2 ≤ k) (D__law_draw : Dn P w K mg base 1 "_law_draw" spDraw) (D__law_text : Dn P w K mg base 2 "_law_text" (spText K)) (D__law_name : Dn P w K mg base 2 "_law_name" (spNm K)) (D__law_place : Dn P w K mg base k "_law_place" (spXl K (n + 1))) (D__law_expr : Dn P w K mg base k "_law_expr" (spXp K n)) : Dn P w K mg base (k + 1) "_law_expr" (spXp K (n + 1)) := by
  obtain ⟨fd, F⟩ := T.fn__law_expr
  refine dn_mk F T.g__law_expr (F.binds (ps := ["bag", "deep"]) fun _ _ _ _ _ _ us hl => match us, hl with | [_, _], _ => rfl) sc__law_expr (fun vs H Q E h => ?_) (fun cdv A outer s H vs Q E hr tk h => ?_)
  · obtain ⟨b, d, N, rfl, hd0, hd1, hb, hN, q⟩ := h
    rfl
  obtain ⟨b, d, N, rfl, hd0, hd1, hb, hN, q⟩ := h
  refine ⟨_, (pss_cons (ps_set (i := 2) sc__law_expr.nd rfl (by first | exact Or.inl rfl | exact Or.inr rfl) (pe_d D__law_draw hr (by first | decide | omega) (fun σ => L2N.passAt tk σ) (by rfl) (pa_cons (pv 0) (pa_cons pe_int pa_nil)))) (pss_cons (ps_if (PW.pt (pw_or (pt_cmpR op_lt (pv 1) pe_int (nomark _)) (pw_or1 (pt_cmpR op_lt (pv 2) pe_int (nomark _))))) (pss_cons (ps_set (i := 4) sc__law_expr.nd rfl (by first | exact Or.inl rfl | exact Or.inr rfl) (pe_ix ix_list (pe_lst (pa_cons pe_int (pa_cons pe_int pa_nil))) (pe_op op_fdivW (pe_d D__law_draw hr (by first | decide | omega) (fun σ => L2N.passAt tk σ) (by rfl) (pa_cons (pv 0) (pa_cons pe_int pa_nil))) pe_int) (fun _ _ => rfl))) (pss_cons (ps_set (i := 5) sc__law_expr.nd rfl (by first | exact Or.inl rfl | exact Or.inr rfl) (pe_ix ix_list (pe_lst (pa_cons (pe_d D__law_text hr (by first | decide | omega) (fun σ => L2N.passAt tk σ) (by rfl) (pa_cons (pv 0) (pa_cons (pv 4) pa_nil))) (pa_cons (pe_callTy call_str_int (by rfl) T.f_str (by decide +kernel) (pa_cons (pe_d D__law_draw hr (by first | decide | omega) (fun σ => L2N.passAt tk σ) (by rfl) (pa_cons (pv 0) (pa_cons pe_int pa_nil))) pa_nil)) (pa_cons (pe_d D__law_text hr (by first | decide | omega) (fun σ => L2N.passAt tk σ) (by rfl) (pa_cons (pv 0) (pa_cons pe_int pa_nil))) pa_nil)))) (pe_op op_modN (pv 2) pe_int) (fun _ _ => rfl))) (pss_one (ps_ret (pe_ifExp (pt_cmpR op_lt (pv 2) pe_int (nomark _)) (pe_tup (pa_cons pe_str (pa_cons (pv 5) pa_nil))) (pe_tup (pa_cons pe_str (pa_cons (pe_d D__law_name hr (by first | decide | omega) (fun σ => L2N.passAt tk σ) (by rfl) (pa_cons (pv 0) pa_nil)) (pa_cons (pe_lst pa_nil) pa_nil))))))))) pss_nil) (pss_cons (ps_if (pt_cmpR op_lt (pv 2) pe_int (nomark _)) (pss_one (ps_ret (pe_d D__law_place hr (by first | decide | omega) (fun σ => L2N.passAt tk σ) (by rfl) (pa_cons (pv 0) (pa_cons (pv 1) pa_nil))))) pss_nil) (pss_cons (ps_if (pt_cmpR op_lt (pv 2) pe_int (nomark _)) (pss_cons (ps_set (i := 6) sc__law_expr.nd rfl (by first | exact Or.inl rfl | exact Or.inr rfl) (pe_ix ix_str pe_str (pe_d D__law_draw hr (by first | decide | omega) (fun σ => L2N.passAt tk σ) (by rfl) (pa_cons (pv 0) (pa_cons pe_int pa_nil))) (fun _ _ => rfl))) (pss_one (ps_ret (pe_tup (pa_cons pe_str (pa_cons (pv 6) (pa_cons (pe_d D__law_expr hr (by first | decide | omega) (fun σ => L2N.passAt tk σ) (by rfl) (pa_cons (pv 0) (pa_cons (pe_op op_sub (pv 1) pe_int) pa_nil))) (pa_cons (pe_d D__law_expr hr (by first | decide | omega) (fun σ => L2N.passAt tk σ) (by rfl) (pa_cons (pv 0) (pa_cons (pe_op op_sub (pv 1) pe_int) pa_nil))) pa_nil)))))))) pss_nil) (pss_cons (ps_if (pt_cmpR op_lt (pv 2) pe_int (nomark _)) (pss_one (ps_ret (pe_tup (pa_cons (pe_ix ix_list (pe_lst (pa_cons pe_str (pa_cons pe_str (pa_cons pe_str pa_nil)))) (pe_op op_sub (pv 2) pe_int) (fun _ _ => rfl)) (pa_cons (pe_d D__law_expr hr (by first | decide | omega) (fun σ => L2N.passAt tk σ) (by rfl) (pa_cons (pv 0) (pa_cons (pe_op op_sub (pv 1) pe_int) pa_nil))) pa_nil))))) pss_nil) (pss_cons (ps_if (pt_cmpR op_eq (pv 2) pe_int (nomark _)) (pss_cons (ps_setLc (i := 7) (own := [("k", 8)]) rfl sc__law_expr.nd rfl rfl (sw_true rfl rfl rfl (by decide +kernel)) (pi_range1 (by rfl) T.f_range (pa_cons pe_int pa_nil)) (blkOk_by (own := [("k", 8)]) (N := ["bag", "deep", "lot", "word", "most", "worth", "sign", "three", "k"]) (sc := defScope s__law_expr) (by decide +kernel)) (fun _ _ _ _ _ => (pg_name (i := 8) sc__law_expr.nd rfl (Or.inl rfl))) (fun _ _ _ _ _ => pts_nil) (fun _ _ _ _ _ => (pe_d D__law_expr hr (by first | decide | omega) (fun σ => passN σ) (by rfl) (pa_cons (pv 0) (pa_cons (pe_op op_sub (pv 1) pe_int) pa_nil))))) (pss_one (ps_ret (pe_tup (pa_cons (pe_ix ix_list (pe_lst (pa_cons pe_str (pa_cons pe_str pa_nil))) (pe_d D__law_draw hr (by first | decide | omega) (fun σ => L2N.passAt tk σ) (by rfl) (pa_cons (pv 0) (pa_cons pe_int pa_nil))) (fun _ _ => rfl)) (pa_cons (pe_ix ix_list (pv 7) pe_int (fun _ _ => rfl)) (pa_cons (pe_ix ix_list (pv 7) pe_int (fun _ _ => rfl)) (pa_cons (pe_ix ix_list (pv 7) pe_int (fun _ _ => rfl)) pa_nil)))))))) pss_nil) (pss_cons (ps_set (i := 3) sc__law_expr.nd rfl (by first | exact Or.inl rfl | exact Or.inr rfl) (pe_ix ix_list (pe_lst (pa_cons pe_str (pa_cons pe_str (pa_cons pe_str (pa_cons pe_str pa_nil))))) (pe_d D__law_draw hr (by first | decide | omega) (fun σ => L2N.passAt tk σ) (by rfl) (pa_cons (pv 0) (pa_cons pe_int pa_nil))) (fun _ _ => rfl))) (pss_cons (ps_if (pt_cmpR op_eq (pv 3) pe_str (nomark _)) (pss_one (ps_ret (pe_tup (pa_cons (pv 3) (pa_cons (pe_d D__law_place hr (by first | decide | omega) (fun σ => L2N.passAt tk σ) (by rfl) (pa_cons (pv 0) (pa_cons (pe_op op_sub (pv 1) pe_int) pa_nil))) (pa_cons (pe_d D__law_expr hr (by first | decide | omega) (fun σ => L2N.passAt tk σ) (by rfl) (pa_cons (pv 0) (pa_cons (pe_op op_sub (pv 1) pe_int) pa_nil))) pa_nil)))))) pss_nil) (pss_one (ps_ret (pe_tup (pa_cons (pv 3) (pa_cons (pe_d D__law_place hr (by first | decide | omega) (fun σ => L2N.passAt tk σ) (by rfl) (pa_cons (pv 0) (pa_cons (pe_op op_sub (pv 1) pe_int) pa_nil))) pa_nil))))))))))))), ?_⟩
  have hs := sizeLine_eq
  have hce := cE_ge (d - 1)
  have hle := lE_ge (d - 1)
  walk_at "rd"
  refine drawQ hb (by decide) (by omega) fun lot H1 l0 l1 b1 u1 => ?_
  simp only [V.int.injEq, exists_eq_left']
  refine ifor (fun _ => ?_) fun c1 c2 => ?_
  · refine ⟨by rw [hs]; decide, fun p np => ?_⟩
    refine drawQ (b1.new np) (by decide) (by omega) fun r2 H2 m0 m1 b2 u2 => ?_
    have u2' := (but_new u1 np).trans u2
    have hp2 := u2 p _ upd_same (bag_ne b1 np)
    obtain ⟨mv, hmv, emv⟩ := ix_any (L := [V.int 12, V.int 200]) (r := r2 / 7) (by omega) (by show r2 / 7 < 2; omega)
    obtain ⟨mm, rfl, q0⟩ : ∃ mm : Nat, mv = .int (mm : Int) ∧ mm ≤ 200 := by
      simp only [List.mem_cons, List.not_mem_nil, or_false] at hmv
      rcases hmv with rfl | rfl
      · exact ⟨12, rfl, by decide⟩
      · exact ⟨200, rfl, by decide⟩
    refine ⟨r2, rfl, ⟨by decide, by decide +kernel⟩, _, SqL.of hp2, _, emv, ?_⟩
    refine ⟨b, mm, N + 2, rfl, b2, by omega, by omega, fun z1 H3 hz1 hl1 b3 u3 => ?_⟩
    refine drawQ b3 (by decide) (by omega) fun r4 H4 s0 s1 b4 u4 => ⟨r4, rfl, Nat.lt_of_lt_of_le (PySem.Flt.log2_lt_of (k := 7) (by decide) (by omega)) (by decide), ?_⟩
    refine ⟨b, 12, _, rfl, b4, by decide, by omega, fun z2 H5 hz2 hl2 b5 u5 => ⟨by rw [hs]; decide, fun p3 np3 => ?_⟩⟩
    have u5' := ((u2'.trans u3).trans u4).trans u5
    have hz4 := int_worth r4
    have hl4 := int_len (i := r4) (k := 2) (by decide) (by omega)
    obtain ⟨z, hz, ez⟩ := ix_strs (S := [z1, Str.ofString (toString r4), z2]) (r := lot.fmod 3) (Int.fmod_nonneg_of_pos _ (by decide)) (Int.fmod_lt_of_pos _ (by decide))
    have hzw : isWorthT (tl z) = true ∧ z.length ≤ 200 := by
      simp only [List.mem_cons, List.not_mem_nil, or_false] at hz
      rcases hz with rfl | rfl | rfl
      · exact ⟨hz1, by omega⟩
      · exact ⟨hz4, by omega⟩
      · exact ⟨hz2, by omega⟩
    refine ⟨by decide, _, SqL.of upd_same, _, ez, ?_⟩
    by_cases c9 : lot < 9
    · rw [if_pos c9]
      refine ⟨by rw [hs]; decide, fun a na => ?_⟩
      have u6 := but_new (o := .lst [V.str z1, V.str (Str.ofString (toString r4)), V.str z2]) u5' np3
      refine q _ (.is (tl z)) _ (by rw [Ex.wf]; exact hzw.1) (by rw [Ex.dep]; omega) ?_ ?_ (((b5.new np3).new na).mono (by omega)) (but_new u6 na)
      · have := shownW_le (tl z)
        rw [tl_len] at this
        rw [showE]
        omega
      · rw [Ex.toD]
        exact tup_new na (fr_of u6 (b5.new np3) na) (.cons (.str _) (.cons (.str _) .nil))
    · rw [if_neg c9]
      refine ⟨b, _, rfl, b5.new np3, by omega, fun zn H6 hzn b6 u6 => ⟨by rw [hs]; decide, fun p4 np4 => ⟨by rw [hs]; decide, fun a na => ?_⟩⟩⟩
      have u6' := (but_new u5' np3).trans u6
      have u7 := but_new (o := .lst []) u6' np4
      have hv : Dp K (dif H (upd H6 p4 (.lst []))) (.ref p4) (.list (toDs [])) := by
        rw [toDs]
        exact lst_new np4 (fr_of u6' b6 np4) .nil
      obtain ⟨e, g1, g2, g3, g4, g5⟩ := pl_fin (es := []) (d := 0) (n := lE (d - 1)) (.inl rfl) hzn (by rw [wfS]) (by rw [depS]; exact Nat.le_refl _) (by rw [showP, List.length_nil]; omega) hv na (fr_of u7 (b6.new np4) na)
      exact q _ e _ g1 (by omega) g4 g5 (((b6.new np4).new na).mono (by omega)) (but_new u7 na)
  obtain ⟨m, rfl⟩ : ∃ m, d = m + 2 := ⟨d - 2, by omega⟩
  have em : ((m + 2 : Nat) : Int) - 1 = ((m + 1 : Nat) : Int) := by omega
  have ec : cE (m + 2 - 1) = 10 * cE m + 6000 := by show cE (m + 1) = _; rw [cE]
  have el : lE (m + 2 - 1) = 6 * lE m + 30 := by show lE (m + 1) = _; rw [lE]
  have ec1 : cE (m + 1 - 1) = cE m := rfl
  have el1 : lE (m + 1 - 1) = lE m := rfl
  have hcm := cE_ge m
  have hlm := lE_ge m
  by_cases c6 : lot < 6
  · rw [if_pos c6]
    exact ⟨b, m + 2, N + 1, rfl, hd0, hd1, b1, by omega, fun v e H2 hw hp hdp hl hv b2 u2 => q v e H2 hw hdp hl (dp_back b1 u1 hv) (b2.mono (by omega)) (u1.trans u2)⟩
  rw [if_neg c6]
  rw [ec] at hN q
  rw [el] at q
  rw [em]
  by_cases c9 : lot < 9
  · rw [if_pos c9]
    refine drawQ b1 (by decide) (by omega) fun r2 H2 m0 m1 b2 u2 => ⟨r2, rfl, by rw [hs]; decide +kernel, ?_⟩
    have hlen : opsL.length = 13 := by decide +kernel
    have hr : r2.toNat < opsL.length := by omega
    have e2 := atI_nat (List.getElem?_eq_getElem hr)
    rw [show ((r2.toNat : Nat) : Int) = r2 by omega] at e2
    have hop : isOp opsL[r2.toNat] = true := decide_eq_true (List.getElem_mem hr)
    refine ⟨_, e2, ?_⟩
    refine ⟨b, m + 1, _, rfl, by omega, by omega, b2, by omega, fun v1 e1 H3 hw1 hd1' hl1 hv1 b3 u3 => ?_⟩
    refine ⟨b, m + 1, _, rfl, by omega, by omega, b3, by omega, fun v2 e2 H4 hw2 hd2' hl2 hv2 b4 u4 => ⟨by rw [hs]; decide, fun a na => ?_⟩⟩
    have u2' := u1.trans u2
    have u3' := u2'.trans u3
    have u4' := u3'.trans u4
    refine q _ (.op opsL[r2.toNat] e1 e2) _ (by rw [Ex.wf, hop, hw1, hw2]; rfl) (by rw [Ex.dep]; omega) ?_ ?_ ((b4.new na).mono (by omega)) (but_new u4' na)
    · have := undS_le e2
      unfold undS at this
      rw [showE, List.length_append, List.length_cons]
      omega
    · rw [Ex.toD]
      exact tup_new na (fr_of u4' b4 na) (.cons (.str _) (.cons (.str _) (.cons (dp_more hb u4 (dp_back b2 u2' hv1)) (.cons (dp_back b3 u3' hv2) .nil))))
  rw [if_neg c9]
  by_cases c12 : lot < 12
  · rw [if_pos c12]
    refine ⟨by rw [hs]; decide, fun p np => ⟨_, SqL.of upd_same, ?_⟩⟩
    obtain ⟨sk, hsk, esk⟩ := ix_strs (S := OPS) (r := lot - 9) (by omega) (by show lot - 9 < 3; omega)
    refine ⟨_, esk, ?_⟩
    have u2 := but_new (o := .lst [V.str (Str.ofString "not"), V.str (Str.ofString "minus"), V.str (Str.ofString "length")]) u1 np
    refine ⟨b, m + 1, _, rfl, by omega, by omega, b1.new np, by omega, fun v1 e1 H3 hw1 hd1' hl1 hv1 b3 u3 => ⟨by rw [hs]; decide, fun a na => ?_⟩⟩
    have u3' := u2.trans u3
    have hv : Dp K (dif H H3) v1 e1.toD := dp_back (b1.new np) u2 hv1
    have hu := undS_le e1
    unfold undS at hu
    obtain ⟨e, g1, g2, g3, g4⟩ : ∃ e : Ex, e.wf = true ∧ e.dep ≤ m + 2 ∧ (showE e).length ≤ 6 * lE m + 30 ∧ Dp K (dif H (upd H3 a (.tup [.str sk, v1]))) (.ref a) e.toD := by
      rcases memO hsk with rfl | rfl | rfl
      · refine ⟨.not e1, by rw [Ex.wf]; exact hw1, by rw [Ex.dep]; omega, by rw [showE, List.length_cons]; omega, ?_⟩
        rw [Ex.toD]
        exact tup_new na (fr_of u3' b3 na) (.cons (.str _) (.cons hv .nil))
      · refine ⟨.minus e1, by rw [Ex.wf]; exact hw1, by rw [Ex.dep]; omega, by rw [showE, List.length_cons]; omega, ?_⟩
        rw [Ex.toD]
        exact tup_new na (fr_of u3' b3 na) (.cons (.str _) (.cons hv .nil))
      · refine ⟨.call (tl "length") [e1], by rw [Ex.wf, callOk_len, wfS, wfS, hw1]; rfl, by rw [Ex.dep, depS, depS]; omega, ?_, ?_⟩
        · have h1 := showP_le (L := lE m) [e1] (by simpa using hl1)
          have e6 : (tl "length").length = 6 := by decide +kernel
          simp only [List.length_singleton] at h1
          rw [showE, List.length_cons, List.length_append, e6]
          omega
        · rw [Ex.toD, toDs, toDs]
          exact tup_new na (fr_of u3' b3 na) (.cons (.str _) (.cons hv .nil))
    exact q _ e _ g1 g2 g3 g4 ((b3.new na).mono (by omega)) (but_new u3' na)
  rw [if_neg c12]
  refine ⟨trivial, ?_⟩
  by_cases c13 : lot = 12
  · rw [if_pos c13]
    refine tLc_rngB (fun n H' => n = 3 ∧ H' = H1) (fun R h => h 3 H1 ⟨rfl, rfl⟩) fun n' H4 ⟨e1, e2⟩ => ?_
    subst e1 e2
    refine ⟨by omega, fun D j acc H' => ∃ es : List Ex, es.length = j ∧ DpAll K (difO H D H') acc (toDs es) ∧ (∀ x ∈ es, x.wf = true ∧ x.dep ≤ m + 1 ∧ (showE x).length ≤ lE m) ∧ BagAt H' b (N + 1 + j * cE m) ∧ But b H H', fun D nD => ⟨[], rfl, .nil, by simp, (b1.mono (by omega)).new nD, but_new u1 nD⟩, ?_, ?_⟩
    · rintro D nD j acc H' hj ⟨es, hes, hA, hp, hbj, hu⟩ hD
      refine ⟨rfl, fun R2 h => ?_⟩
      walk_at "rd"
      rw [em]
      have hDb : D ≠ b := bag_ne b1 nD
      have hm2 : (j + 1) * cE m ≤ 3 * cE m := Nat.mul_le_mul_right _ hj
      have hm3 : (j + 1) * cE m = j * cE m + cE m := by rw [Nat.add_mul, Nat.one_mul]
      refine ⟨b, m + 1, N + 1 + j * cE m, rfl, by omega, by omega, hbj, by omega, fun v e H5 hw hd hl hv hb5 u5 => ?_⟩
      have hD5 := u5 D _ hD hDb
      obtain ⟨o, ho⟩ := hb.some
      obtain ⟨o2, ho2⟩ := hbj.some
      refine h v H5 hD5 ⟨es ++ [e], by rw [List.length_append, hes]; rfl, ?_, fun x hx => ?_, ?_, but_new' (hu.trans u5) (fr_of u1 b1 nD)⟩
      · rw [difO_upd, toDs_snoc]
        exact DpAll.snoc (DpAll.same (difO_more ho u5) hA) (Dp.same (difO_back ho2 hD hu) hv)
      · rcases List.mem_append.mp hx with hx | hx
        · exact hp x hx
        · rw [List.mem_singleton.mp hx]; exact ⟨hw, hd, hl⟩
      · refine (hb5.mono ?_).at_ (upd_ne hDb.symm)
        omega
    · rintro D nD acc H2 ⟨es, hes, hA, hp, hb2, hu⟩ hD
      obtain ⟨e1, e2, e3, rfl⟩ : ∃ a b c, es = [a, b, c] := by
        match es, hes with
        | [a, b, c], _ => exact ⟨a, b, c, rfl⟩
      rw [toDs, toDs, toDs, toDs] at hA
      cases hA with
      | cons hv1 hA =>
      cases hA with
      | cons hv2 hA =>
      cases hA with
      | cons hv3 hA =>
      cases hA
      rename_i v1 v2 v3
      refine ⟨by rw [hs]; decide, fun p np => ?_⟩
      refine drawQ (b := b) (N := N + 1 + 3 * cE m) (hb2.new np) (by decide) (by omega) fun r5 H5 m0 m1 b5 u5 => ?_
      have hDb : D ≠ b := bag_ne b1 nD
      have hp5 := u5 p _ upd_same (bag_ne hb2 np)
      have hD5 := u5 D _ (by rw [upd_ne (ne_of_none hD np)]; exact hD) hDb
      obtain ⟨sk, hsk, esk⟩ := ix_strs (S := TWOS) (r := r5) m0 m1
      have u5' := (but_new hu np).trans u5
      refine ⟨_, _, rfl, SqL.of hp5, _, esk, _, rfl, _, SqL.of hD5, _, atI_nat (j := 0) rfl, _, rfl, _, SqL.of hD5, _, atI_nat (j := 1) rfl, _, rfl, _, SqL.of hD5, _, atI_nat (j := 2) rfl, by rw [hs]; decide, fun a na => ?_⟩
      have hp1 := hp e1 (by simp)
      have hp2 := hp e2 (by simp)
      have hp3 := hp e3 (by simp)
      refine q _ (.call (tl sk) [e1, e2, e3]) _ ?_ (by rw [Ex.dep, depS, depS, depS, depS]; omega) ?_ ?_ ((b5.new na).mono (by omega)) (but_new u5' na)
      · rw [Ex.wf, callOk_3 (by rcases memT hsk with rfl | rfl <;> simp), wfS, wfS, wfS, wfS, hp1.1, hp2.1, hp3.1]
        rfl
      · have h1 := showP_le (L := lE m) [e1, e2, e3] (fun x hx => (hp x hx).2.2)
        simp only [List.length_cons, List.length_nil] at h1
        have e6 : (tl sk).length ≤ 5 := by rcases memT hsk with rfl | rfl <;> decide +kernel
        rw [showE, List.length_cons, List.length_append]
        omega
      · rw [Ex.toD, toDs, toDs, toDs, toDs]
        have hm : But b H2 H5 := (but_new But.refl np).trans u5
        have hx : ∀ {v : V} {e : Ex}, Dp K (difO H D H2) v e.toD → Dp K (dif H H5) v e.toD := fun h => dp_more hb hm (Dp.same difO_sub h)
        exact tup_new na (fr_of u5' b5 na) (.cons (.str _) (.cons (hx hv1) (.cons (hx hv2) (.cons (hx hv3) .nil))))
  rw [if_neg c13]
  refine ⟨by rw [hs]; decide, fun p np => ?_⟩
  refine drawQ (b1.new np) (by decide) (by omega) fun r2 H2 m0 m1 b2 u2 => ?_
  have u2' := (but_new u1 np).trans u2
  have hp2 := u2 p _ upd_same (bag_ne b1 np)
  obtain ⟨sk, hsk, esk⟩ := ix_strs (S := FOURS) (r := r2) m0 m1
  refine ⟨_, _, rfl, SqL.of hp2, _, esk, rfl, ?_⟩
  by_cases co : sk = "other"
  · subst co
    rw [if_pos rfl]
    refine ⟨b, m + 1, _, rfl, by omega, by omega, b2, by omega, fun v1 e1 H3 hw1 hp1 hd1' hl1 hv1 b3 u3 => ?_⟩
    refine ⟨b, m + 1, _, rfl, by omega, by omega, b3, by omega, fun v2 e2 H4 hw2 hd2' hl2 hv2 b4 u4 => ⟨by rw [hs]; decide, fun a na => ?_⟩⟩
    have u3' := u2'.trans u3
    have u4' := u3'.trans u4
    refine q _ (.call (tl "other") [e1, e2]) _ (by rw [Ex.wf, callOk_ot _ hp1, wfS, wfS, wfS, hw1, hw2]; rfl) (by rw [Ex.dep, depS, depS, depS]; omega) ?_ ?_ ((b4.new na).mono (by omega)) (but_new u4' na)
    · have h1 := showP_le (L := lE m) [e1, e2] (by
        intro x hx
        simp only [List.mem_cons, List.not_mem_nil, or_false] at hx
        rcases hx with rfl | rfl
        · exact hl1
        · exact hl2)
      simp only [List.length_cons, List.length_nil] at h1
      have e6 : (tl "other").length = 5 := by decide +kernel
      rw [showE, List.length_cons, List.length_append, e6]
      omega
    · rw [Ex.toD, toDs, toDs, toDs]
      exact tup_new na (fr_of u4' b4 na) (.cons (.str _) (.cons (dp_more hb u4 (dp_back b2 u2' hv1)) (.cons (dp_back b3 u3' hv2) .nil)))
  · rw [if_neg (fun h => co (V.str.inj h))]
    refine ⟨b, m + 1, _, rfl, by omega, by omega, b2, by omega, fun v1 e1 H3 hw1 hp1 hd1' hl1 hv1 b3 u3 => ⟨by rw [hs]; decide, fun a na => ?_⟩⟩
    have u3' := u2'.trans u3
    have hsk' : tl sk = tl "order" ∨ tl sk = tl "back" ∨ tl sk = tl "data" := by
      rcases memF hsk with rfl | rfl | rfl | rfl
      · exact .inl rfl
      · exact .inr (.inl rfl)
      · exact .inr (.inr rfl)
      · exact absurd rfl co
    refine q _ (.call (tl sk) [e1]) _ (by rw [Ex.wf, callOk_pl hsk' hp1, wfS, wfS, hw1]; rfl) (by rw [Ex.dep, depS, depS]; omega) ?_ ?_ ((b3.new na).mono (by omega)) (but_new u3' na)
    · have h1 := showP_le (L := lE m) [e1] (by simpa using hl1)
      simp only [List.length_singleton] at h1
      have e6 : (tl sk).length ≤ 5 := by rcases hsk' with e | e | e <;> rw [e] <;> decide +kernel
      rw [showE, List.length_cons, List.length_append]
      omega
    · rw [Ex.toD, toDs, toDs]
      exact tup_new na (fr_of u3' b3 na) (.cons (.str _) (.cons (dp_back b2 u2' hv1) .nil))
end
section
variable {P : Program} {w : World} {K : PySem.W.Frag} {mg : Str → Option Value} {base : Heap}
theorem Dn.false__law_expr (T : Hd w K mg) (k : Nat) : Dn P w K mg base k "_law_expr" (fun _ _ _ _ => False) := by
  obtain ⟨fd, F⟩ := T.fn__law_expr
  exact ⟨_, fd, ["bag", "deep"], ⟨fun _ _ _ _ h => h.elim, fun _ _ _ _ _ _ _ _ _ _ _ _ _ h => h.elim⟩, T.g__law_expr, F.kp, F.binds (ps := ["bag", "deep"]) fun _ _ _ _ _ _ us hl => match us, hl with | [_, _], _ => rfl⟩
/-- how the law draws expressions of at most n within one another -/
theorem dr_chain (T : Hd w K mg) : ∀ n : Nat, Dn P w K mg base (3 * n + 2) "_law_expr" (spXp K n)
  | 0 => (Dn.false__law_expr T _).imp fun vs H Q E h => by
    obtain ⟨b, d, N, _, h1, h2, _⟩ := h
    omega
  | n + 1 => by
    have hd := ok__law_draw (P := P) (K := K) (base := base) T
    have ht := ok__law_text (P := P) (K := K) (base := base) T hd (ok__law_signs T)
    have hn := ok__law_name (P := P) (K := K) (base := base) T hd
    have e := dr_chain T n
    have p := ok__law_parts T (by omega) hd e
    have l := ok__law_place T (by omega) hd hn p
    exact ok__law_expr T (by omega) hd ht hn l (e.mono (by omega))
end
end Sk

/-! ## R0 -/
namespace Sk
open PySem PySem.Spec PyProof.Rows L2
set_option hygiene false in
local macro_rules | `(tactic| walk_at "rd") => `(tactic| simp only [tVar, tC, tB, tAnd, tOr, tNot, tAndV, tOrV, tNotV, tIf, tNext, tSeq, tBreak, tCont, tDrop, tRet, tRetN, tIfS, tAsg, tAug, tOp, tUn, tTest, tChain, tFld, sFldAug, sFld, rAdd, tNil, tCons, tTup, tLst, tCB, tNoPart, tPart, tSl, tBM0, tBM, tYes, tM0, tM1, CwR.tReplC, tCallS, tMethS, tMakeS, gName, wipe, tyV, gTup, gCons, gNil,
  rI, rI0, rEq, rNe, scal, rPlus, rPlusI, rPlusS, rCat, rCatA, rIx, rIxL, rIxT, rIxS, rSl, rSlS, rSlL, rSlA, iPlus, iPlusI, iPlusS, ipI, rAll, rAny, LenV, WE, E0, rAppend,
  L2.start, List.map_cons, List.map_nil, List.length_cons, List.length_nil, Nat.zero_add, Nat.add_zero, Nat.reduceAdd, Nat.reduceSub, Nat.sub_self, List.replicate_zero, List.replicate_succ, List.append_nil, List.nil_append, List.cons_append, List.getElem?_cons_zero, List.getElem?_cons_succ, List.set_cons_zero, List.set_cons_succ, Option.some.injEq,
  V.int.injEq, V.str.injEq, V.bl.injEq, V.ref.injEq, V.ty.injEq, HO.ins.injEq, HO.lst.injEq, HO.tup.injEq, List.cons.injEq, reduceCtorEq, false_and, and_false, true_and, and_true, and_assoc, exists_const, exists_false, false_or, or_false, exists_eq_left', exists_eq_left, exists_eq_right, exists_eq_right', exists_and_left, ↓reduceIte, decide_eq_true_eq, Bool.not_eq_true', decide_eq_false_iff_not, if_true, if_false, cxOf, and_self, Bool.not_true, Bool.not_false, Bool.false_eq_true,
  sf_signs, sf_spot, sf_put, T.cl_Source, T.na_Source_signs, T.na_Source_spot, sg_inj, upd_same, rIsS, tyN, kb1, kb2, kb3, kb4, kb5, kb6, kb7, kb8, kb9, kb10, kb11, kb12, kb13, kb14, kb15, kb16, kb17, kb18, kb19, kb20, kb21, tDNewK, rPowW, gStar, gUnl])
section
variable {P : Program} {w : World} {K : PySem.W.Frag} {mg : Str → Option Value} {base : Heap}
def spSrcT (K : PySem.W.Frag) : Sp := fun vs H Q _ => ∃ p dx z, vs = [.ref p, .str z] ∧ H p = some (.ins (He.ga K "Source") dx []) ∧ z.length ≤ 5000000 ∧ ∀ H', But p H H' → SrcAt K H' p z 0 → Q .non H'
theorem sc_Source___init__ : FnScope ["self", "text"] ["self", "text"] (defScope s_Source___init__) := ⟨rfl, rfl, rfl, by decide +kernel, rfl, by decide +kernel, by decide +kernel⟩
theorem ok_Source___init__ (T : Hd w K mg)  : Mn P w K mg base 1 "Source" (He.ga K "Source") (spSrcT K) := by
  obtain ⟨fd, F⟩ := T.fn_Source___init__
  refine mn_mk T.mk_Source T.g_Source F (F.binds (ps := ["self", "text"]) fun _ _ _ _ _ _ us hl => match us, hl with | [_, _], _ => rfl) sc_Source___init__ (fun vs H Q E h => ?_) (fun cdv A outer s H vs Q E hr tk h => ?_)
  · obtain ⟨p, dx, z, rfl, hp, hz, q⟩ := h
    rfl
  obtain ⟨p, dx, z, rfl, hp, hz, q⟩ := h
  refine ⟨_, (pss_cons (ps_if (pt_not (pt_val (pe_callB call_isS (by rfl) T.f_isinstance (by decide +kernel) (pa_cons (pv 1) (pa_cons (pe_bltn (v := .ty "str") (u := .type "str") (by rfl) T.f_str (by decide +kernel) rfl) pa_nil))))) (pss_one (L2N.ps_raise rfl tk (L2N.pmk_own PySem.F.excBase_ValueError T.x_NoText T.g_NoText T.k_NoText (raises_own T.b_NoText T.t_NoText) rfl))) pss_nil) (pss_cons (ps_fld (pv 0) (pv 1) rfl) (pss_one (ps_fld (pv 0) pe_int rfl)))), ?_⟩
  walk_at "rd"
  simp only [hp]
  walk_at "rd"
  refine ⟨by decide, (show 1 < 1000 by decide), q _ (fun b o h e => ?_) ⟨⟨dx, upd_same⟩, Nat.zero_le _, hz⟩⟩
  rw [upd_ne e, upd_ne e]
  exact h
theorem made_free {H : Hp} {x dx b : Addr} {o u1 u2 : HO} (hx : H x = none) (hd : H dx = none) (h : H b = some o) : upd (upd H dx u1) x u2 b = some o := by
  rw [upd_ne (ne_of_none h hx), upd_ne (ne_of_none h hd)]
  exact h
theorem but_sameN {p : Addr} {H H0 H' : Hp} (hp : H p = none) (s : Same H H0) (b : But p H0 H') : Same H H' := fun c o h => b c o (s c o h) (ne_of_none h hp)
theorem dif_same {H H0 H' : Hp} (s : Same H H0) : Same (dif H0 H') (dif H H') := fun c u h => by
  obtain ⟨h1, h2⟩ := dif_eq.mp h
  refine dif_eq.mpr ⟨?_, h2⟩
  cases e : H c with
  | none => rfl
  | some v => rw [s c v e] at h1; cases h1
end
end Sk

/-! ## R1b -/
namespace Sk
open PySem PySem.Spec PyProof.Rows L2
set_option hygiene false in
local macro_rules | `(tactic| walk_at "rd") => `(tactic| simp only [tVar, tC, tB, tAnd, tOr, tNot, tAndV, tOrV, tNotV, tIf, tNext, tSeq, tBreak, tCont, tDrop, tRet, tRetN, tIfS, tAsg, tAug, tOp, tUn, tTest, tChain, tFld, sFldAug, sFld, rAdd, tNil, tCons, tTup, tLst, tCB, tNoPart, tPart, tSl, tBM0, tBM, tYes, tM0, tM1, CwR.tReplC, tCallS, tMethS, tMakeS, gName, wipe, tyV, gTup, gCons, gNil,
  rI, rI0, rEq, rNe, scal, rPlus, rPlusI, rPlusS, rCat, rCatA, rIx, rIxL, rIxT, rIxS, rSl, rSlS, rSlL, rSlA, iPlus, iPlusI, iPlusS, ipI, rAll, rAny, LenV, WE, E0, rAppend,
  L2.start, List.map_cons, List.map_nil, List.length_cons, List.length_nil, Nat.zero_add, Nat.add_zero, Nat.reduceAdd, Nat.reduceSub, Nat.sub_self, List.replicate_zero, List.replicate_succ, List.append_nil, List.nil_append, List.cons_append, List.getElem?_cons_zero, List.getElem?_cons_succ, List.set_cons_zero, List.set_cons_succ, Option.some.injEq,
  V.int.injEq, V.str.injEq, V.bl.injEq, V.ref.injEq, V.ty.injEq, HO.ins.injEq, HO.lst.injEq, HO.tup.injEq, List.cons.injEq, reduceCtorEq, false_and, and_false, true_and, and_true, and_assoc, exists_const, exists_false, false_or, or_false, exists_eq_left', exists_eq_left, exists_eq_right, exists_eq_right', exists_and_left, ↓reduceIte, decide_eq_true_eq, Bool.not_eq_true', decide_eq_false_iff_not, if_true, if_false, cxOf, and_self, Bool.not_true, Bool.not_false, Bool.false_eq_true,
  sf_signs, sf_spot, sf_put, T.cl_Source, T.na_Source_signs, T.na_Source_spot, sg_inj, upd_same, rIsS, tyN, kb1, kb2, kb3, kb4, kb5, kb6, kb7, kb8, kb9, kb10, kb11, kb12, kb13, kb14, kb15, kb16, kb17, kb18, kb19, kb20, kb21, tDNewK, rPowW, gStar, gUnl, tLenSetU, tSortSet, tDGet, tDIn, sDPut, tJs, tFmt])
section
variable {P : Program} {w : World} {K : PySem.W.Frag} {mg : Str → Option Value} {base : Heap}
/-- a text, read as an expression: what it writes, else NoText -/
def spRE (K : PySem.W.Frag) : Sp := fun vs H Q E => ∃ z, vs = [.str z] ∧ z.length ≤ 5000000 ∧ (∀ e, exR 40 (tl z) = some (e, []) → ∀ u H', Same H H' → Dp K (dif H H') u e.toD → Q u H') ∧
  ((∀ e, exR 40 (tl z) ≠ some (e, [])) → ∀ H', Same H H' → E (exNT K) none H')
theorem sc_read_expression : FnScope ["text", "source", "found"] ["text"] (defScope s_read_expression) := ⟨rfl, rfl, rfl, by decide +kernel, rfl, by decide +kernel, by decide +kernel⟩
theorem ok_read_expression (T : Hd w K mg) {k : Nat} (hk : 2 ≤ k) (K_Source : Mn P w K mg base 1 "Source" (He.ga K "Source") (spSrcT K)) (M_Source_at_end : Mt P w K mg base 1 (He.ga K "Source") "at_end" (spEnd K)) (D_expression_from : Dn P w K mg base k "expression_from" (spEx K 40)) : Dn P w K mg base (k + 1) "read_expression" (spRE K) := by
  obtain ⟨fd, F⟩ := T.fn_read_expression
  refine dn_mk F T.g_read_expression (F.binds (ps := ["text"]) fun _ _ _ _ _ _ us hl => match us, hl with | [_], _ => rfl) sc_read_expression (fun vs H Q E h => ?_) (fun cdv A outer s H vs Q E hr tk h => ?_)
  · obtain ⟨z, rfl, hz, q1, q2⟩ := h
    rfl
  obtain ⟨z, rfl, hz, q1, q2⟩ := h
  refine ⟨_, (pss_cons (ps_set (i := 1) sc_read_expression.nd rfl (by first | exact Or.inl rfl | exact Or.inr rfl) (pe_k K_Source hr (by first | decide | omega) (fun σ => L2N.passAt tk σ) (by rfl) (pa_cons (pv 0) pa_nil))) (pss_cons (ps_set (i := 2) sc_read_expression.nd rfl (by first | exact Or.inl rfl | exact Or.inr rfl) (pe_d D_expression_from hr (by first | decide | omega) (fun σ => L2N.passAt tk σ) (by rfl) (pa_cons (pv 1) (pa_cons (C8.pe_gc (by rfl) T.c_MOST_LEVELS) pa_nil)))) (pss_cons (ps_if (pt_not (pt_val (pe_m0 (pv 1) M_Source_at_end hr (by first | decide | omega) (fun σ => L2N.passAt tk σ)))) (pss_one (L2N.ps_raise rfl tk (L2N.pmk_own PySem.F.excBase_ValueError T.x_NoText T.g_NoText T.k_NoText (raises_own T.b_NoText T.t_NoText) rfl))) pss_nil) (pss_one (ps_ret (pv 2)))))), ?_⟩
  walk_at "rd"
  intro x dx hx hdx hne
  have s0 : Same H (upd (upd H dx (.own x)) x (.ins (He.ga K "Source") dx [])) := fun b o h => made_free hx hdx h
  refine ⟨x, dx, z, rfl, upd_same, hz, fun H1 b1 S1 => ⟨rfl, ?_⟩⟩
  have s1 := but_sameN hx s0 b1
  obtain ⟨⟨dx1, hp1⟩, _, _⟩ := id S1
  refine ⟨x, z, 0, 40, rfl, by decide, S1, fun e r he H2 v j b2 S2 hij hr hv => ?_, fun he H2 b2 => ?_⟩
  · have he : exR 40 (tl z) = some (e, r) := he
    subst hr
    have s2 := but_sameN hx s1 b2
    obtain ⟨⟨dx2, hp2⟩, _, _⟩ := id S2
    refine ⟨_, _, hp2, sf_no (by decide +kernel) (by decide +kernel), x, z, j, rfl, S2, _, rfl, ?_⟩
    by_cases hj : rem z j = []
    · rw [if_neg (by simp [hj])]
      rw [hj] at he
      exact q1 e he v H2 s2 (Dp.same (dif_same s1) hv)
    · rw [if_pos (by simp [hj])]
      refine q2 (fun e' h => ?_) H2 s2
      rw [he] at h
      injection h with h
      injection h with _ h
      exact hj h
  · have he : exR 40 (tl z) = none := he
    exact q2 (fun e h => by rw [he] at h; cases h) H2 (but_sameN hx s1 b2)
theorem ok_read (T : Hd w K mg) : Dn P w K mg base 209 "read_expression" (spRE K) := by
  have R := rds (P := P) (base := base) T
  obtain ⟨_, h40, _⟩ := ex_chain (P := P) (base := base) T 40
  exact ok_read_expression T (by omega) (ok_Source___init__ (P := P) (base := base) T) R.at_end h40
end
end Sk

/-! ## L53a -/
namespace Sk
open PySem PySem.Spec PyProof.Rows L2
set_option hygiene false in
local macro_rules | `(tactic| walk_at "rd") => `(tactic| simp only [tVar, tC, tB, tAnd, tOr, tNot, tAndV, tOrV, tNotV, tIf, tNext, tSeq, tBreak, tCont, tDrop, tRet, tRetN, tIfS, tAsg, tAug, tOp, tUn, tTest, tChain, tFld, sFldAug, sFld, rAdd, tNil, tCons, tTup, tLst, tCB, tNoPart, tPart, tSl, tBM0, tBM, tYes, tM0, tM1, CwR.tReplC, tCallS, tMethS, tMakeS, gName, wipe, tyV, gTup, gCons, gNil,
  rI, rI0, rEq, rNe, scal, rPlus, rPlusI, rPlusS, rCat, rCatA, rIx, rIxL, rIxT, rIxS, rSl, rSlS, rSlL, rSlA, iPlus, iPlusI, iPlusS, ipI, rAll, rAny, LenV, WE, E0, rAppend,
  L2.start, List.map_cons, List.map_nil, List.length_cons, List.length_nil, Nat.zero_add, Nat.add_zero, Nat.reduceAdd, Nat.reduceSub, Nat.sub_self, List.replicate_zero, List.replicate_succ, List.append_nil, List.nil_append, List.cons_append, List.getElem?_cons_zero, List.getElem?_cons_succ, List.set_cons_zero, List.set_cons_succ, Option.some.injEq,
  V.int.injEq, V.str.injEq, V.bl.injEq, V.ref.injEq, V.ty.injEq, HO.ins.injEq, HO.lst.injEq, HO.tup.injEq, List.cons.injEq, reduceCtorEq, false_and, and_false, true_and, and_true, and_assoc, exists_const, exists_false, false_or, or_false, exists_eq_left', exists_eq_left, exists_eq_right, exists_eq_right', exists_and_left, ↓reduceIte, decide_eq_true_eq, Bool.not_eq_true', decide_eq_false_iff_not, if_true, if_false, cxOf, and_self, Bool.not_true, Bool.not_false, Bool.false_eq_true,
  sf_signs, sf_spot, sf_put, T.cl_Source, T.na_Source_signs, T.na_Source_spot, sg_inj, upd_same, rIsS, tyN, kb1, kb2, kb3, kb4, kb5, kb6, kb7, kb8, kb9, kb10, kb11, kb12, kb13, kb14, kb15, kb16, kb17, kb18, kb19, kb20, kb21, tDNewK, rPowW, gStar, gUnl, tLenSetU, tDGet, tDIn, sDPut, tJs, tFmt])
/-! ### the law's own reader: its lexemes -/
/-- a reading at a place of a text: a new pair of what is read and the place behind it, or None -/
def PL {α : Type} (R : Rd1 α) (rep : Hp → Hp → V → α → Prop) (z : Str) (i : Nat) (H : Hp) (Q : VK) : Prop :=
  (∀ a r, R (rem z i) = some (a, r) → ∀ (p : Addr) (v : V) (j : Nat) H', Same H H' → H p = none → H' p = some (.tup [v, .int (j : Int)]) → rep H H' v a → rem z j = r → j ≤ z.length → Q (.ref p) H') ∧
  (R (rem z i) = none → ∀ H', Same H H' → Q .non H')
def repS (_ _ : Hp) (v : V) (w : Tx) : Prop := v = .str (St w)
/-- text[i:i + k] -/
theorem cut_take {z : Str} {i k : Nat} (h : i ≤ z.length) : cutS z (some (i : Int)) (some ((i : Int) + (k : Int))) = St ((rem z i).take k) := by
  by_cases hk : i + k ≤ z.length
  · have := cutS_mid (z := z) (i := i) (j := i + k) (by omega) hk
    rw [show (((i + k : Nat)) : Int) = (i : Int) + (k : Int) by omega, show i + k - i = k by omega] at this
    exact this
  · unfold cutS
    have e1 : HT.sIx z.length 0 (some (i : Int)) = i := by rw [HT.sIx_nat]; omega
    have e2 : HT.sIx z.length z.length (some ((i : Int) + (k : Int))) = z.length := by
      have := HT.sIx_nat z.length z.length (i + k)
      rw [show (((i + k : Nat)) : Int) = (i : Int) + (k : Int) by omega] at this
      rw [this]
      omega
    rw [e1, e2]
    have hl : (rem z i).length = z.length - i := rem_len z i
    show St (((tl z).drop i).take (z.length - i)) = _
    have e3 : ((tl z).drop i).take (z.length - i) = (rem z i).take k := by
      rw [List.take_of_length_le (by rw [List.length_drop, tl_len]; omega), List.take_of_length_le (by omega)]
      rfl
    rw [e3]
theorem none_of {H H1 : Hp} {p : Addr} (s : Same H H1) (np : H1 p = none) : H p = none := by
  cases e : H p with
  | none => rfl
  | some o => rw [s _ _ e] at np; cases np
section
variable {P : Program} {w : World} {K : PySem.W.Frag} {mg : Str → Option Value} {base : Heap}
def spRunL : Sp := fun vs H Q _ => ∃ (z : Str) (i : Nat) (y : Str), vs = [.str z, .int (i : Int), .str y] ∧ i ≤ z.length ∧ z.length ≤ 5000000 ∧ ∀ H', Same H H' → Q (.str (St ((rem z i).takeWhile fun c => decide (c ∈ tl y)))) H'
theorem sc__law_run : FnScope ["text", "at", "some", "found"] ["text", "at", "some"] (defScope s__law_run) := ⟨rfl, rfl, rfl, by decide +kernel, rfl, by decide +kernel, by decide +kernel⟩
theorem ok__law_run (T : Hd w K mg)  : Dn P w K mg base 1 "_law_run" (spRunL) := by
  obtain ⟨fd, F⟩ := T.fn__law_run
  refine dn_mk F T.g__law_run (F.binds (ps := ["text", "at", "some"]) fun _ _ _ _ _ _ us hl => match us, hl with | [_, _, _], _ => rfl) sc__law_run (fun vs H Q E h => ?_) (fun cdv A outer s H vs Q E hr tk h => ?_)
  · obtain ⟨z, i, y, rfl, hi, hz, q⟩ := h
    rfl
  obtain ⟨z, i, y, rfl, hi, hz, q⟩ := h
  refine ⟨_, (pss_cons (ps_set (i := 3) sc__law_run.nd rfl (by first | exact Or.inl rfl | exact Or.inr rfl) pe_str) (pss_cons (ps_while (passes_of rfl) (PW.pt (pw_and (pt_cmpR op_lt (pv 1) (pe_callB call_len (by rfl) T.f_len (by decide +kernel) (pa_cons (pv 0) pa_nil)) (nomark _)) (pw_and1 (pt_cmpR op_in_sign (pe_ix ix_str (pv 0) (pv 1) (fun _ _ => rfl)) (pv 2) rfl)))) (pss_cons (ps_set (i := 3) sc__law_run.nd rfl (by first | exact Or.inl rfl | exact Or.inr rfl) (pe_op op_add_str (pv 3) (pe_ix ix_str (pv 0) (pv 1) (fun _ _ => rfl)))) (pss_one (ps_set (i := 1) sc__law_run.nd rfl (by first | exact Or.inl rfl | exact Or.inr rfl) (pe_op op_add (pv 1) pe_int))))) (pss_one (ps_ret (pv 3))))), ?_⟩
  have hs := sizeLine_eq
  walk_at "rd"
  refine while_w (fun m σ H' => ∃ j, i ≤ j ∧ j ≤ z.length ∧ σ = [some (.str z), some (.int (j : Int)), some (.str y), some (.str (St ((rem z i).take (j - i))))] ∧ Same H H' ∧ (rem z i).takeWhile (fun c => decide (c ∈ tl y)) = (rem z i).take (j - i) ++ (rem z j).takeWhile (fun c => decide (c ∈ tl y)) ∧ m = z.length - j) _ ⟨i, Nat.le_refl _, hi, by simp; rfl, Same.refl _, by simp, rfl⟩ ?_
  rintro m σ H1 ⟨j, h1, h2, rfl, s, e, rfl⟩
  walk_at "rd"
  refine ⟨by rw [hs]; omega, ?_⟩
  have done : (rem z j).takeWhile (fun c => decide (c ∈ tl y)) = [] → Q (V.str (St ((rem z i).take (j - i)))) H1 := fun e2 => by
    rw [e2, List.append_nil] at e
    rw [← e]
    exact q H1 s
  by_cases hj : j < z.length
  · rw [if_pos (by omega)]
    obtain ⟨c, hc⟩ := rem_cons hj
    refine ⟨by rw [hs]; omega, c, atI_nat (rem_at hc), ?_⟩
    by_cases hm : c ∈ y.cps.toList
    · rw [if_pos hm]
      have hlen : (St ((rem z i).take (j - i))).length ≤ z.length := by
        rw [st_len, List.length_take, rem_len]
        omega
      refine ⟨fun σ' H' => σ' = [some (.str z), some (.int ((j : Int) + 1)), some (.str y), some (.str (St ((rem z i).take (j - i)) ++ ⟨#[c]⟩))] ∧ Same H1 H', fun σ' H' h => ?_, by rw [hs]; omega, c, atI_nat (rem_at hc), by rw [hs]; show _ + 1 ≤ _; omega, rfl, Same.refl _⟩
      obtain ⟨rfl, s2⟩ := h
      refine ⟨z.length - (j + 1), by omega, j + 1, by omega, by omega, ?_, s.trans s2, ?_, rfl⟩
      · have e2 : St ((rem z i).take (j - i)) ++ (⟨#[c]⟩ : Str) = St ((rem z i).take (j + 1 - i)) := by rw [← take_more h1 hc, ← st_app]
        have e3 : ((j : Int) + 1) = ((j + 1 : Nat) : Int) := by omega
        rw [e2, e3]
      · rw [e, hc, List.takeWhile_cons, if_pos (show decide (c ∈ tl y) = true from decide_eq_true hm), ← take_more h1 hc, List.append_assoc]
        rfl
    · rw [if_neg hm]
      refine done ?_
      rw [hc, List.takeWhile_cons, if_neg (by rw [decide_eq_true_eq]; exact hm)]
  · rw [if_neg (by omega)]
    refine done ?_
    rw [rem_nil (by omega)]
    rfl
theorem letr_fun : (fun c => decide (c ∈ tl (Str.ofString "abcdefghijklmnopqrstuvwxyz"))) = isLet := rfl
theorem figr_fun : (fun c => decide (c ∈ tl (Str.ofString "0123456789"))) = isFig := rfl
def spNameL : Sp := fun vs H Q _ => ∃ (z : Str) (i : Nat), vs = [.str z, .int (i : Int)] ∧ i ≤ z.length ∧ z.length ≤ 5000000 ∧ PL nameR repS z i H Q
theorem sc__law_name_in : FnScope ["text", "at", "name"] ["text", "at"] (defScope s__law_name_in) := ⟨rfl, rfl, rfl, by decide +kernel, rfl, by decide +kernel, by decide +kernel⟩
theorem ok__law_name_in (T : Hd w K mg) (D__law_run : Dn P w K mg base 1 "_law_run" spRunL) : Dn P w K mg base 2 "_law_name_in" (spNameL) := by
  obtain ⟨fd, F⟩ := T.fn__law_name_in
  refine dn_mk F T.g__law_name_in (F.binds (ps := ["text", "at"]) fun _ _ _ _ _ _ us hl => match us, hl with | [_, _], _ => rfl) sc__law_name_in (fun vs H Q E h => ?_) (fun cdv A outer s H vs Q E hr tk h => ?_)
  · obtain ⟨z, i, rfl, hi, hz, q1, q2⟩ := h
    rfl
  obtain ⟨z, i, rfl, hi, hz, q1, q2⟩ := h
  refine ⟨_, (pss_cons (ps_set (i := 2) sc__law_name_in.nd rfl (by first | exact Or.inl rfl | exact Or.inr rfl) (pe_d D__law_run hr (by first | decide | omega) (fun σ => L2N.passAt tk σ) (by rfl) (pa_cons (pv 0) (pa_cons (pv 1) (pa_cons pe_str pa_nil))))) (pss_one (ps_ret (pe_ifExp (pt_chain op_lt op_lt pe_int (pe_callB call_len (by rfl) T.f_len (by decide +kernel) (pa_cons (pv 2) pa_nil)) pe_int) (pe_tup (pa_cons (pv 2) (pa_cons (pe_op op_add (pv 1) (pe_callB call_len (by rfl) T.f_len (by decide +kernel) (pa_cons (pv 2) pa_nil))) pa_nil))) pe_non)))), ?_⟩
  have hs := sizeLine_eq
  walk_at "rd"
  refine ⟨z, i, _, rfl, hi, hz, fun H1 s1 => ?_⟩
  rw [letr_fun]
  have hl : (St ((rem z i).takeWhile isLet)).length = ((rem z i).takeWhile isLet).length := st_len _
  have htl := tw_len isLet (rem z i)
  have hrl := rem_len z i
  refine ⟨_, ⟨by rw [hs]; omega, rfl⟩, ?_⟩
  rw [hl]
  have hsp : rem z (i + ((rem z i).takeWhile isLet).length) = (rem z i).dropWhile isLet := by rw [rem_drop, drop_takeW]
  by_cases hn : 0 < ((rem z i).takeWhile isLet).length ∧ ((rem z i).takeWhile isLet).length < 9
  · have hnm : isNameT ((rem z i).takeWhile isLet) = true := by
      unfold isNameT
      rw [Bool.and_eq_true, decide_eq_true_eq]
      exact ⟨⟨by omega, by omega⟩, List.all_takeWhile⟩
    rw [if_pos (by omega), if_pos (by omega)]
    refine ⟨_, ⟨by rw [hs]; omega, rfl⟩, by rw [hs]; decide, fun p np => ?_⟩
    rw [hl]
    refine q1 _ _ (by unfold nameR; rw [if_pos hnm]) p _ (i + ((rem z i).takeWhile isLet).length) _ (s1.trans (same_new np)) (none_of s1 np) (by rw [upd_same]; rfl) rfl hsp (by omega)
  · have hnm : ¬ isNameT ((rem z i).takeWhile isLet) = true := fun h => by
      unfold isNameT at h
      rw [Bool.and_eq_true, decide_eq_true_eq] at h
      exact hn ⟨by omega, by omega⟩
    have hq := q2 (by unfold nameR; rw [if_neg hnm]) H1 s1
    by_cases h0 : 0 < ((rem z i).takeWhile isLet).length
    · rw [if_pos (by omega), if_neg (by omega)]
      exact hq
    · rw [if_neg (by omega)]
      exact hq
/-! worths between quotes -/
def qB (pre : Tx) (l : Tx) : Option (Tx × Tx) := match qBody l with
  | some p => some (pre ++ p.1, p.2)
  | none => none
theorem qB_nil (l : Tx) : qB [] l = qBody l := by
  unfold qB
  cases qBody l <;> rfl
theorem qB_one {pre r : Tx} {c : Nat} (h : c ≠ 34) : qB pre (c :: r) = qB (pre ++ [c]) r := by
  unfold qB
  rw [qBody.eq_def]
  simp only [if_neg h]
  cases qBody r with
  | none => rfl
  | some p => simp
theorem qB_two {pre r : Tx} : qB pre (34 :: 34 :: r) = qB (pre ++ [34]) r := by
  unfold qB
  rw [qBody.eq_def]
  simp only [if_pos]
  cases qBody r with
  | none => rfl
  | some p => simp
theorem qB_end {pre r : Tx} (h : r.take 1 ≠ [34]) : qB pre (34 :: r) = some (pre, r) := by
  unfold qB
  have e : qBody (34 :: r) = some ([], r) := by
    rw [qBody.eq_def]
    simp only [if_pos]
    cases r with
    | nil => rfl
    | cons c r =>
      have hc : c ≠ 34 := fun e => h (by rw [e]; rfl)
      split
      · rename_i heq
        injection heq with heq _
        exact absurd heq hc
      · rfl
  rw [e]
  simp
theorem qB_no {pre : Tx} : qB pre [] = none := by
  unfold qB
  rw [qBody.eq_def]
def okT (z : Str) : Prop := ∀ c ∈ tl z, c < 1114112
theorem st_q : Str.ofString "\"" = St [34] := by decide +kernel
theorem st_qq : Str.ofString "\"\"" = St [34, 34] := by decide +kernel
def spQuL : Sp := fun vs H Q _ => ∃ (z : Str) (i : Nat), vs = [.str z, .int (i : Int)] ∧ i ≤ z.length ∧ z.length ≤ 5000000 ∧ okT z ∧ PL quotedR repS z i H Q
theorem sc__law_quoted : FnScope ["text", "at", "found", "signs", "lost", "sign"] ["text", "at"] (defScope s__law_quoted) := ⟨rfl, rfl, rfl, by decide +kernel, rfl, by decide +kernel, by decide +kernel⟩
theorem ok__law_quoted (T : Hd w K mg) (D__law_signs : Dn P w K mg base 1 "_law_signs" (fun vs H Q _ => vs = [] ∧ Q (.str (St signsL)) H)) : Dn P w K mg base 2 "_law_quoted" (spQuL) := by
  obtain ⟨fd, F⟩ := T.fn__law_quoted
  refine dn_mk F T.g__law_quoted (F.binds (ps := ["text", "at"]) fun _ _ _ _ _ _ us hl => match us, hl with | [_, _], _ => rfl) sc__law_quoted (fun vs H Q E h => ?_) (fun cdv A outer s H vs Q E hr tk h => ?_)
  · obtain ⟨z, i, rfl, hi, hz, hok, q1, q2⟩ := h
    rfl
  obtain ⟨z, i, rfl, hi, hz, hok, q1, q2⟩ := h
  refine ⟨_, (pss_cons (ps_if (pt_cmpR op_ne (pe_slice sl_str (pv 0) (po_some (pv 1)) (po_some (pe_op op_add (pv 1) pe_int))) pe_str (nomark _)) (pss_one (ps_ret pe_non)) pss_nil) (pss_cons (ps_set (i := 2) sc__law_quoted.nd rfl (by first | exact Or.inl rfl | exact Or.inr rfl) pe_str) (pss_cons (ps_set (i := 1) sc__law_quoted.nd rfl (by first | exact Or.inl rfl | exact Or.inr rfl) (pe_op op_add (pv 1) pe_int)) (pss_cons (ps_while (passes_of rfl) (PW.pt (pw_and (pt_cmpR op_lt (pv 1) (pe_callB call_len (by rfl) T.f_len (by decide +kernel) (pa_cons (pv 0) pa_nil)) (nomark _)) (pw_and1 (PW.pt (pw_or (pt_cmpR op_ne (pe_ix ix_str (pv 0) (pv 1) (fun _ _ => rfl)) pe_str (nomark _)) (pw_or1 (pt_cmpR op_eq (pe_slice sl_str (pv 0) (po_some (pv 1)) (po_some (pe_op op_add (pv 1) pe_int))) pe_str (nomark _)))))))) (pss_cons (ps_set (i := 2) sc__law_quoted.nd rfl (by first | exact Or.inl rfl | exact Or.inr rfl) (pe_op op_add_str (pv 2) (pe_ix ix_str (pv 0) (pv 1) (fun _ _ => rfl)))) (pss_one (ps_set (i := 1) sc__law_quoted.nd rfl (by first | exact Or.inl rfl | exact Or.inr rfl) (pe_op op_add (pe_op op_add (pv 1) pe_int) (pe_callTy call_int1 (by rfl) T.f_int (by decide +kernel) (pa_cons (pe_cmpR op_eq (pe_ix ix_str (pv 0) (pv 1) (fun _ _ => rfl)) pe_str (nomark _)) pa_nil))))))) (pss_cons (ps_set (i := 3) sc__law_quoted.nd rfl (by first | exact Or.inl rfl | exact Or.inr rfl) (pe_d0 D__law_signs hr (by first | decide | omega) (fun σ => L2N.passAt tk σ) (by rfl))) (pss_cons (ps_setLc (i := 4) (own := [("sign", 5)]) rfl sc__law_quoted.nd rfl rfl (sw_true rfl rfl rfl (by decide +kernel)) (pi_seq (pv 2)) (blkOk_by (own := [("sign", 5)]) (N := ["text", "at", "found", "signs", "lost", "sign"]) (sc := defScope s__law_quoted) (by decide +kernel)) (fun _ _ _ _ _ => (pg_name (i := 5) sc__law_quoted.nd rfl (Or.inl rfl))) (fun _ _ _ _ _ => (pts_one (pt_cmpR op_notIn_sign (pv 5) (pv 3) rfl))) (fun _ _ _ _ _ => (pv 5))) (pss_one (ps_ret (pe_ifExp (PW.pt (pw_and (pt_cmpR op_lt (pv 1) (pe_callB call_len (by rfl) T.f_len (by decide +kernel) (pa_cons (pv 0) pa_nil)) (nomark _)) (pw_and1 (pt_cmpR (op_eqD hr.units) (pv 4) (pe_lst pa_nil) (nomark _))))) (pe_tup (pa_cons (pv 2) (pa_cons (pe_op op_add (pv 1) pe_int) pa_nil))) pe_non))))))))), ?_⟩
  have hs := sizeLine_eq
  walk_at "rd"
  refine ⟨by rw [hs]; omega, ?_⟩
  rw [cutS_one hi, st_q]
  by_cases h1 : (rem z i).take 1 = [34]
  rotate_left
  · rw [if_pos (fun h => h1 (st_inj h))]
    refine q2 ?_ H (Same.refl _)
    unfold quotedR
    split
    · rfl
    · rename_i c r hr
      rw [hr] at h1
      rw [if_neg (fun e => h1 (by rw [e]; rfl))]
  rw [if_neg (fun h => h (by rw [h1]))]
  have hr1 := tkc h1
  rw [← rem_drop] at hr1
  have hi1 : i + 1 ≤ z.length := by
    have := congrArg List.length hr1
    rw [rem_len, List.length_cons, rem_len] at this
    omega
  have hqR : quotedR (rem z i) = match qB [] (rem z (i + 1)) with
      | some p => if isWorthT p.1 then some p else none
      | none => none := by
    rw [hr1, qB_nil]
    rfl
  generalize hD : (L2.Ends.mk _ _ _ _) = D
  have fin : ∀ (j : Nat) (found : Tx) (H1 : Hp), Same H H1 → j ≤ z.length → qB [] (rem z (i + 1)) = qB found (rem z j) → (∀ c ∈ found, c < 1114112) → found.length ≤ z.length → (rem z j = [] ∨ ∃ r, rem z j = 34 :: r ∧ r.take 1 ≠ [34]) →
      D.nx [some (.str z), some (.int (j : Int)), some (.str (St found)), none, none, none] H1 := by
    intro j found H1 s1 hj hq hch hfl hend
    rw [← hD]
    walk_at "rd"
    refine tLc_strF (St found) (fun c => !isSign c) (fun R h => ⟨_, rfl, h⟩) (by rw [st_len, hs]; omega) (fun c H' hc s => ⟨rfl, fun R h => ?_, fun R2 h => ⟨_, rfl, h⟩⟩) (fun Dl H2 nD s2 hl => ?_)
    · walk_at "rd"
      exact h
    · refine ⟨by rw [hs]; omega, ?_⟩
      have s12 := s1.trans s2
      rcases hend with e | ⟨r, e, hr⟩
      · have hjl : z.length ≤ j := by
          have := congrArg List.length e
          rw [rem_len, List.length_nil] at this
          omega
        rw [if_neg (by omega)]
        refine q2 ?_ H2 s12
        rw [hqR, hq, e, qB_no]
      · have hjl : j < z.length := by
          have := congrArg List.length e
          rw [rem_len, List.length_cons] at this
          omega
        rw [if_pos (by omega)]
        have er : rem z (j + 1) = r := by
          obtain ⟨c, hc⟩ := rem_cons hjl
          rw [e] at hc
          injection hc with _ hc
          exact hc.symm
        have hR : quotedR (rem z i) = if isWorthT found then some (found, r) else none := by rw [hqR, hq, e, qB_end hr]
        refine ⟨Nat.zero_le _, fun p np => ?_⟩
        have hlt : ∀ c ∈ found.filter fun c => !isSign c, c < 1114112 := fun c hc => hch c (List.mem_filter.mp hc).1
        refine ⟨.list ((found.filter fun c => !isSign c).map fun c => .str ⟨#[c]⟩), .list [], .lst (SqL.of ((same_new np) _ _ hl)) (signs_dp _), .lst (SqL.of upd_same) .nil, signs_shaped hlt, rfl, _, rfl, ?_⟩
        rw [signs_eqv]
        have s13 := s12.trans (same_new (u := .lst []) np)
        by_cases hf : (found.filter fun c => !isSign c) = []
        · have hw : isWorthT found = true := by
            unfold isWorthT
            rw [List.all_eq_true]
            intro c hc
            have := (List.filter_eq_nil_iff.mp hf) c hc
            simpa using this
          rw [if_pos (decide_eq_true hf)]
          rw [if_pos hw] at hR
          refine ⟨by rw [hs]; decide, fun p5 np5 => q1 _ _ hR p5 _ (j + 1) _ (s13.trans (same_new np5)) (none_of s13 np5) (by rw [upd_same]; rfl) rfl er (by omega)⟩
        · have hw : ¬ isWorthT found = true := fun hw => hf (by
            rw [List.filter_eq_nil_iff]
            intro c hc
            unfold isWorthT at hw
            have := List.all_eq_true.mp hw c hc
            simp [this])
          rw [if_neg (by rw [decide_eq_true_eq]; exact hf)]
          rw [if_neg hw] at hR
          exact q2 hR _ s13
  refine while_w (fun m σ H' => ∃ j found, j ≤ z.length ∧ σ = [some (.str z), some (.int (j : Int)), some (.str (St found)), none, none, none] ∧ Same H H' ∧ qB [] (rem z (i + 1)) = qB found (rem z j) ∧ (∀ c ∈ found, c < 1114112) ∧ found.length ≤ j ∧ m = z.length - j) _ ⟨i + 1, [], hi1, rfl, Same.refl _, rfl, by simp, by simp, rfl⟩ ?_
  rintro m σ H1 ⟨j, found, hj, rfl, s1, hq, hch, hfl, rfl⟩
  have fin := fin j found H1 s1 hj hq hch (by omega)
  walk_at "rd"
  refine ⟨by rw [hs]; omega, ?_⟩
  by_cases hjl : j < z.length
  rotate_left
  · rw [if_neg (by omega)]
    exact fin (.inl (rem_nil (by omega)))
  rw [if_pos (by omega)]
  obtain ⟨c, hc⟩ := rem_cons hjl
  have hcz : c < 1114112 := hok c (List.mem_of_getElem? (rem_at hc))
  have ec : St found ++ (⟨#[c]⟩ : Str) = St (found ++ [c]) := st_app found [c]
  refine ⟨by rw [hs]; omega, c, atI_nat (rem_at hc), ?_⟩
  by_cases h34 : c = 34
  rotate_left
  · rw [if_pos h34]
    refine ⟨fun σ' H' => σ' = [some (.str z), some (.int ((j : Int) + 1)), some (.str (St found ++ ⟨#[c]⟩)), none, none, none] ∧ Same H1 H', fun σ' H' h => ?_, by rw [hs]; omega, c, atI_nat (rem_at hc), by rw [hs, st_len]; show _ + 1 ≤ _; omega, by rw [hs]; omega, c, atI_nat (rem_at hc), by rw [if_neg h34, Int.add_zero], Same.refl _⟩
    obtain ⟨rfl, s2⟩ := h
    refine ⟨z.length - (j + 1), by omega, j + 1, by omega, found ++ [c], by rw [ec]; rfl, s1.trans s2, by rw [hq, hc, qB_one h34], fun d hd => ?_, by rw [List.length_append]; simp; omega, rfl⟩
    rcases List.mem_append.mp hd with hd | hd
    · exact hch d hd
    · rw [List.mem_singleton.mp hd]; exact hcz
  rw [if_neg (fun h => h h34)]
  refine ⟨by rw [hs]; omega, ?_⟩
  have e2 : cutS z (some (j : Int)) (some ((j : Int) + 2)) = St ((rem z j).take 2) := cut_take (k := 2) hj
  rw [e2, st_qq]
  by_cases hd : (rem z j).take 2 = [34, 34]
  · rw [if_pos (by rw [hd])]
    have hj2 : j + 2 ≤ z.length := by
      have := congrArg List.length hd
      rw [List.length_take, rem_len] at this
      simp at this
      omega
    refine ⟨fun σ' H' => σ' = [some (.str z), some (.int ((j : Int) + 1 + 1)), some (.str (St found ++ ⟨#[c]⟩)), none, none, none] ∧ Same H1 H', fun σ' H' h => ?_, by rw [hs]; omega, c, atI_nat (rem_at hc), by rw [hs, st_len]; show _ + 1 ≤ _; omega, by rw [hs]; omega, c, atI_nat (rem_at hc), by rw [if_pos h34], Same.refl _⟩
    obtain ⟨rfl, s2⟩ := h
    have e34 : rem z j = 34 :: 34 :: rem z (j + 2) := by
      have h2 : rem z j = (rem z j).take 2 ++ (rem z j).drop 2 := (List.take_append_drop _ _).symm
      rw [hd, ← rem_drop] at h2
      exact h2
    refine ⟨z.length - (j + 2), by omega, j + 2, by omega, found ++ [34], by rw [ec, h34, show ((j : Int) + 1 + 1) = ((j + 2 : Nat) : Int) by omega], s1.trans s2, by rw [hq, e34, qB_two], fun d hd => ?_, by rw [List.length_append]; simp; omega, rfl⟩
    rcases List.mem_append.mp hd with hd | hd
    · exact hch d hd
    · rw [List.mem_singleton.mp hd]; decide
  · rw [if_neg (fun h => hd (st_inj h))]
    refine fin (.inr ⟨rem z (j + 1), by rw [hc, h34], fun h => hd ?_⟩)
    rw [hc, h34, List.take_succ_cons, h]
def spWoL : Sp := fun vs H Q _ => ∃ (z : Str) (i : Nat), vs = [.str z, .int (i : Int)] ∧ i ≤ z.length ∧ z.length ≤ 5000000 ∧ okT z ∧ PL worthR repS z i H Q
theorem sc__law_worth_in : FnScope ["text", "at", "figures", "found"] ["text", "at"] (defScope s__law_worth_in) := ⟨rfl, rfl, rfl, by decide +kernel, rfl, by decide +kernel, by decide +kernel⟩
theorem ok__law_worth_in (T : Hd w K mg) (D__law_run : Dn P w K mg base 1 "_law_run" spRunL) (D__law_is_own : Dn P w K mg base 1 "_law_is_own" spOwn) (D__law_quoted : Dn P w K mg base 2 "_law_quoted" spQuL) : Dn P w K mg base 3 "_law_worth_in" (spWoL) := by
  obtain ⟨fd, F⟩ := T.fn__law_worth_in
  refine dn_mk F T.g__law_worth_in (F.binds (ps := ["text", "at"]) fun _ _ _ _ _ _ us hl => match us, hl with | [_, _], _ => rfl) sc__law_worth_in (fun vs H Q E h => ?_) (fun cdv A outer s H vs Q E hr tk h => ?_)
  · obtain ⟨z, i, rfl, hi, hz, hok, q1, q2⟩ := h
    rfl
  obtain ⟨z, i, rfl, hi, hz, hok, q1, q2⟩ := h
  refine ⟨_, (pss_cons (ps_set (i := 2) sc__law_worth_in.nd rfl (by first | exact Or.inl rfl | exact Or.inr rfl) (pe_d D__law_run hr (by first | decide | omega) (fun σ => L2N.passAt tk σ) (by rfl) (pa_cons (pv 0) (pa_cons (pv 1) (pa_cons pe_str pa_nil))))) (pss_cons (ps_if (pt_cmpR op_ne (pv 2) pe_str (nomark _)) (pss_one (ps_ret (pe_ifExp (pt_val (pe_d D__law_is_own hr (by first | decide | omega) (fun σ => L2N.passAt tk σ) (by rfl) (pa_cons (pv 2) pa_nil))) (pe_tup (pa_cons (pv 2) (pa_cons (pe_op op_add (pv 1) (pe_callB call_len (by rfl) T.f_len (by decide +kernel) (pa_cons (pv 2) pa_nil))) pa_nil))) pe_non))) pss_nil) (pss_cons (ps_set (i := 3) sc__law_worth_in.nd rfl (by first | exact Or.inl rfl | exact Or.inr rfl) (pe_d D__law_quoted hr (by first | decide | omega) (fun σ => L2N.passAt tk σ) (by rfl) (pa_cons (pv 0) (pa_cons (pv 1) pa_nil)))) (pss_one (ps_ret (pe_ifExp (PW.pt (pw_or (pt_cmpR op_isN1 (pv 3) pe_non (nomark _)) (pw_or1 (pt_val (pe_d D__law_is_own hr (by first | decide | omega) (fun σ => L2N.passAt tk σ) (by rfl) (pa_cons (pe_ix ix_tup (pv 3) pe_int (fun _ _ => rfl)) pa_nil)))))) pe_non (pv 3))))))), ?_⟩
  have hs := sizeLine_eq
  walk_at "rd"
  refine ⟨z, i, _, rfl, hi, hz, fun H1 s1 => ?_⟩
  rw [figr_fun]
  have hl : (St ((rem z i).takeWhile isFig)).length = ((rem z i).takeWhile isFig).length := st_len _
  have htl := tw_len isFig (rem z i)
  have hrl := rem_len z i
  have hsp : rem z (i + ((rem z i).takeWhile isFig).length) = (rem z i).dropWhile isFig := by rw [rem_drop, drop_takeW]
  refine ⟨rfl, ?_⟩
  by_cases h0 : (rem z i).takeWhile isFig = []
  rotate_left
  · have ha : ((rem z i).takeWhile isFig).all isFig = true := List.all_takeWhile
    have h34 : ¬ (rem z i).take 1 = [34] := fun h => h0 (by
      rw [tkc h, List.takeWhile_cons, if_neg (by decide +kernel)])
    have hio : isOwnT ((rem z i).takeWhile isFig) = isNumT ((rem z i).takeWhile isFig) := by
      unfold isOwnT
      rw [decide_eq_true, Bool.and_true]
      intro e
      cases hc : (rem z i).takeWhile isFig with
      | nil => exact h0 hc
      | cons c t =>
        rw [hc] at e ha
        rw [List.all_cons, Bool.and_eq_true] at ha
        have : c = 45 := by simpa using e
        exact fig_ne45 ha.1 this
    rw [if_pos (show ¬ V.str (St ((rem z i).takeWhile isFig)) = V.str (Str.ofString "") from fun h => h0 (by have := congrArg tl (V.str.inj h); exact this))]
    refine ⟨_, rfl, figs_worth ha, by rw [hl]; omega, fun H2 s2 => ⟨_, rfl, ?_⟩⟩
    rw [tl_st, hio]
    have hR : worthR (rem z i) = if isNumT ((rem z i).takeWhile isFig) then some ((rem z i).takeWhile isFig, (rem z i).dropWhile isFig) else none := by
      unfold worthR
      rw [if_neg h34]
    by_cases hn : isNumT ((rem z i).takeWhile isFig) = true
    · rw [if_pos hn]
      rw [if_pos hn] at hR
      refine ⟨_, ⟨by rw [hs]; omega, rfl⟩, by rw [hs]; decide, fun p np => ?_⟩
      rw [hl]
      exact q1 _ _ hR p _ (i + ((rem z i).takeWhile isFig).length) _ ((s1.trans s2).trans (same_new np)) (none_of (s1.trans s2) np) (by rw [upd_same]; rfl) rfl hsp (by omega)
    · rw [if_neg hn]
      rw [if_neg hn] at hR
      exact q2 hR H2 (s1.trans s2)
  rw [if_neg (fun h => h (by rw [h0]; rfl))]
  refine ⟨z, i, rfl, hi, hz, hok, fun w r hR p v j H2 s2 np hp hv hr hj => ?_, fun hR H2 s2 => ?_⟩
  · have hv : v = .str (St w) := hv
    subst hv
    have h34 : (rem z i).take 1 = [34] := by
      cases hc : rem z i with
      | nil => rw [hc] at hR; cases hR
      | cons c t =>
        rw [hc] at hR
        unfold quotedR at hR
        by_cases e : c = 34
        · rw [e]; rfl
        · simp only [if_neg e] at hR
          cases hR
    have hw : isWorthT w = true := (quotedR_cv hR).1
    have hwl : w.length ≤ 5000000 := by
      have h1 := congrArg List.length (quotedR_cv hR).2
      have h2 := dblQ_ge w
      unfold quotedW at h1
      rw [hrl, List.length_append, List.length_cons, List.length_append] at h1
      omega
    refine ⟨rfl, _, rfl, ?_⟩
    rw [if_neg (by simp)]
    refine ⟨p, rfl, _, SqT.of hp, _, atI_nat (j := 0) rfl, St w, rfl, hw, by rw [st_len]; exact hwl, fun H3 s3 => ⟨_, rfl, ?_⟩⟩
    rw [tl_st]
    have hWR : worthR (rem z i) = if shownW w = w then none else some (w, r) := by
      unfold worthR
      rw [if_pos h34, hR]
    have s13 := s1.trans (s2.trans s3)
    cases ho : isOwnT w with
    | true =>
      rw [if_pos rfl]
      rw [if_pos (shownW_own ho)] at hWR
      exact q2 hWR H3 s13
    | false =>
      rw [if_neg (by decide)]
      rw [if_neg (by rw [shownW_q ho]; exact quotedW_ne w)] at hWR
      exact q1 _ _ hWR p _ j H3 s13 (none_of s1 np) (s3 _ _ hp) rfl hr hj
  · refine ⟨rfl, _, rfl, ?_⟩
    rw [if_pos (by simp)]
    refine q2 ?_ H2 (s1.trans s2)
    unfold worthR
    split
    · rw [hR]
    · rw [h0]
      rfl
end
end Sk

/-! ## L53b -/
namespace Sk
open PySem PySem.Spec PyProof.Rows L2
set_option hygiene false in
local macro_rules | `(tactic| walk_at "rd") => `(tactic| simp only [tVar, tC, tB, tAnd, tOr, tNot, tAndV, tOrV, tNotV, tIf, tNext, tSeq, tBreak, tCont, tDrop, tRet, tRetN, tIfS, tAsg, tAug, tOp, tUn, tTest, tChain, tFld, sFldAug, sFld, rAdd, tNil, tCons, tTup, tLst, tCB, tNoPart, tPart, tSl, tBM0, tBM, tYes, tM0, tM1, CwR.tReplC, tCallS, tMethS, tMakeS, gName, wipe, tyV, gTup, gCons, gNil,
  rI, rI0, rEq, rNe, scal, rPlus, rPlusI, rPlusS, rCat, rCatA, rIx, rIxL, rIxT, rIxS, rSl, rSlS, rSlL, rSlA, iPlus, iPlusI, iPlusS, ipI, rAll, rAny, LenV, WE, E0, rAppend,
  L2.start, List.map_cons, List.map_nil, List.length_cons, List.length_nil, Nat.zero_add, Nat.add_zero, Nat.reduceAdd, Nat.reduceSub, Nat.sub_self, List.replicate_zero, List.replicate_succ, List.append_nil, List.nil_append, List.cons_append, List.getElem?_cons_zero, List.getElem?_cons_succ, List.set_cons_zero, List.set_cons_succ, Option.some.injEq,
  V.int.injEq, V.str.injEq, V.bl.injEq, V.ref.injEq, V.ty.injEq, HO.ins.injEq, HO.lst.injEq, HO.tup.injEq, List.cons.injEq, reduceCtorEq, false_and, and_false, true_and, and_true, and_assoc, exists_const, exists_false, false_or, or_false, exists_eq_left', exists_eq_left, exists_eq_right, exists_eq_right', exists_and_left, ↓reduceIte, decide_eq_true_eq, Bool.not_eq_true', decide_eq_false_iff_not, if_true, if_false, cxOf, and_self, Bool.not_true, Bool.not_false, Bool.false_eq_true,
  sf_signs, sf_spot, sf_put, T.cl_Source, T.na_Source_signs, T.na_Source_spot, sg_inj, upd_same, rIsS, tyN, kb1, kb2, kb3, kb4, kb5, kb6, kb7, kb8, kb9, kb10, kb11, kb12, kb13, kb14, kb15, kb16, kb17, kb18, kb19, kb20, kb21, tDNewK, rPowW, gStar, gUnl, tLenSetU, tDGet, tDIn, sDPut, tJs, tFmt])
/-! ### the law's own reader: expressions -/
theorem dif_ext {H H1 H2 : Hp} (s : Same H1 H2) : Same (dif H H1) (dif H H2) := fun c u h => by
  obtain ⟨h1, h2⟩ := dif_eq.mp h
  exact dif_eq.mpr ⟨h1, s c u h2⟩
theorem difO_ext {a : Addr} {H H1 H2 : Hp} (s : Same H1 H2) : Same (difO H a H1) (difO H a H2) := fun c u h => by
  obtain ⟨h0, h1, h2⟩ := difO_eq.mp h
  exact difO_eq.mpr ⟨h0, h1, s c u h2⟩
/-- made since H1, where a stood, so made since H and not a -/
theorem difO_in {a : Addr} {H H1 H2 : Hp} {o : HO} (s : Same H H1) (ha : H1 a = some o) : Same (dif H1 H2) (difO H a H2) := fun c u h => by
  obtain ⟨h1, h2⟩ := dif_eq.mp h
  refine difO_eq.mpr ⟨(fun e => by subst e; rw [ha] at h1; cases h1), none_of s h1, h2⟩
section
variable {P : Program} {w : World} {K : PySem.W.Frag} {mg : Str → Option Value} {base : Heap}
/-- a text, a place, what is left -/
def AtL (z : Str) (i n : Nat) (left : Int) : Prop := i ≤ z.length ∧ z.length ≤ 400 ∧ okT z ∧ z.length - i < n ∧ ((z.length - i : Nat) : Int) < left
def spExL (K : PySem.W.Frag) (m n : Nat) : Sp := fun vs H Q _ => ∃ z i left, vs = [.str z, .int (i : Nat), .int left] ∧ AtL z i n left ∧ PL (eU m) (repE K) z i H Q
def spSgL (K : PySem.W.Frag) (m n : Nat) : Sp := fun vs H Q _ => ∃ z i left, vs = [.str z, .int (i : Nat), .int left] ∧ AtL z i n left ∧ PL (sU m) (repE K) z i H Q
def spUnL (K : PySem.W.Frag) (m n : Nat) : Sp := fun vs H Q _ => ∃ z i left, vs = [.str z, .int (i : Nat), .int left] ∧ AtL z i n left ∧ PL (uU m) (repE K) z i H Q
def spPaL (K : PySem.W.Frag) (m n : Nat) : Sp := fun vs H Q _ => ∃ z i left, vs = [.str z, .int (i : Nat), .int left] ∧ AtL z i n (left + 1) ∧ PL (somePartsR (eU m)) (repL K) z i H Q
def spPlL (K : PySem.W.Frag) (m n : Nat) : Sp := fun vs H Q _ => ∃ z i left, vs = [.str z, .int (i : Nat), .int left] ∧ AtL z i n left ∧ PL (placeR (eU m)) (repE K) z i H Q
def spCaL (K : PySem.W.Frag) (m n : Nat) : Sp := fun vs H Q _ => ∃ z i left, vs = [.str z, .int (i : Nat), .int left] ∧ AtL z i n (left - 1) ∧ PL (callR (eU m) (eU m)) (repE K) z i H Q
theorem hz_of {z : Str} {i n : Nat} {left : Int} (h : AtL z i n left) : z.length ≤ sizeLine := by
  have := h.2.1
  rw [sizeLine_eq]
  omega
def PaL (K : PySem.W.Frag) (m : Nat) (z : Str) (i : Nat) (left : Int) (H : Hp) (a : Addr) (j f : Nat) (es : List Ex) (acc : List V) (σ' : SS) (H' : Hp) : Prop :=
  (∃ u, σ' = [some (.str z), some (.int (j : Int)), some (.int left), some (.ref a), u]) ∧ i ≤ j ∧ j ≤ z.length ∧ Same H H' ∧ H a = none ∧ H' a = some (.lst acc) ∧ DpAll K (difO H a H') acc (toDs es) ∧ acc.length ≤ j ∧ (∀ e ∈ es, e.wf = true) ∧
    ((es = [] ∧ acc = [] ∧ j = i) ∨ (es ≠ [] ∧ acc ≠ [] ∧ partsR (eU m) (rem z i) = ptR (eU m) (f + 1) (rem z j) es ∧ (rem z j).length ≤ f))
def PaLN (K : PySem.W.Frag) (m : Nat) (z : Str) (i : Nat) (left : Int) (H : Hp) (a : Addr) (k : Nat) (σ' : SS) (H' : Hp) : Prop := ∃ j f es acc, z.length - j < k ∧ PaL K m z i left H a j f es acc σ' H'
def PaLW (K : PySem.W.Frag) (m : Nat) (z : Str) (i : Nat) (left : Int) (H : Hp) (a : Addr) (k : Nat) (σ' : SS) (H' : Hp) : Prop := ∃ j f es acc, k = z.length - j ∧ PaL K m z i left H a j f es acc σ' H'
theorem toDs_nil_eqv (es : List Ex) : PyData.eqv (.list (toDs es)) (.list []) = decide (es = []) := by
  cases es with
  | nil => rfl
  | cons x r => rw [toDs]; rfl
set_option hygiene false in
local macro_rules | `(tactic| walk_at "om") => `(tactic| (
  refine ⟨PaLN K m z i left H a (z.length - j), fun σ' H' h => ?_, z, j + 1, left, rfl, ⟨hj1, by omega, hok, by omega, by omega⟩, fun e r he p v j2 H2 s2 np hp hv hr hj2 => ?_, fun he H2 s2 => ?_⟩
  · obtain ⟨j', f', es', acc', hm, h⟩ := h
    exact ⟨_, hm, j', f', es', acc', rfl, h⟩
  · have hsh := (lvU_sh m).2 _ _ _ he
    have hsz := sz_pos e
    subst hr
    rw [rem_len, rem_len] at hsh
    obtain ⟨f', e1, hf'⟩ := hS _ _ he
    have ha2 := s2 _ _ hax
    have hpa : a ≠ p := ne_of_none hax np
    refine ⟨rfl, _, rfl, ?_⟩
    rw [if_neg (by simp)]
    refine ⟨.inl ⟨acc, SqL.of ha2⟩, p, rfl, _, SqT.of hp, v, atI_nat (j := 0) rfl, acc, ha2, by rw [hs]; omega, p, rfl, _, SqT.of (by rw [upd_ne (fun e => hpa e.symm)]; exact hp), _, atI_nat (j := 1) rfl, j2, f', es ++ [e], acc ++ [v], by omega, ⟨_, rfl⟩, by omega, hj2, fun b o h => ?_, na, upd_same, ?_, by rw [List.length_append]; simp; omega, fun e' he' => ?_, .inr ⟨by simp, by simp, e1, hf'⟩⟩
    · rw [upd_ne (ne_of_none h na)]
      exact s2 _ _ (sx _ _ (s1 _ _ h))
    · rw [difO_upd, toDs_snoc]
      exact DpAll.snoc (DpAll.same (difO_ext s2) hAx) (Dp.same (difO_in (s1.trans sx) hax) hv)
    · rcases List.mem_append.mp he' with h | h
      · exact hwf _ h
      · rw [List.mem_singleton.mp h]
        exact ((lvU_cw m).2 _ _ _ he).1
  · refine ⟨rfl, _, rfl, ?_⟩
    rw [if_pos (by simp)]
    exact q2 (hN he) H2 ((s1.trans sx).trans s2)))
theorem sc__law_parts_in : FnScope ["text", "at", "left", "found", "one"] ["text", "at", "left"] (defScope s__law_parts_in) := ⟨rfl, rfl, rfl, by decide +kernel, rfl, by decide +kernel, by decide +kernel⟩
theorem ok__law_parts_in (T : Hd w K mg) {k m n : Nat} (D__law_expr_in : DnD P w K mg base k "_law_expr_in" (spExL K m (n - 1))) : DnD P w K mg base (k + 1) "_law_parts_in" (spPaL K m n) := by
  obtain ⟨fd, F⟩ := T.fn__law_parts_in
  refine dnD_mk F T.g__law_parts_in (F.binds (ps := ["text", "at", "left"]) fun _ _ _ _ _ _ us hl => match us, hl with | [_, _, _], _ => rfl) sc__law_parts_in (fun vs H Q E h => ?_) (fun cdv A outer s H vs Q E hr tk h => ?_)
  · obtain ⟨z, i, left, rfl, ⟨hi, hz, hok, hn, hl⟩, q1, q2⟩ := h
    rfl
  obtain ⟨z, i, left, rfl, ⟨hi, hz, hok, hn, hl⟩, q1, q2⟩ := h
  refine ⟨_, (pss_cons (ps_if (pt_cmpR op_ne (pe_slice sl_str (pv 0) (po_some (pv 1)) (po_some (pe_op op_add (pv 1) pe_int))) pe_str (nomark _)) (pss_one (ps_ret (pe_tup (pa_cons (pe_lst pa_nil) (pa_cons (pv 1) pa_nil))))) pss_nil) (pss_cons (ps_set (i := 3) sc__law_parts_in.nd rfl (by first | exact Or.inl rfl | exact Or.inr rfl) (pe_lst pa_nil)) (pss_cons (ps_while (passes_of rfl) (PW.pt (pw_or (pt_cmpR op_eq (pe_slice sl_str (pv 0) (po_some (pv 1)) (po_some (pe_op op_add (pv 1) pe_int))) pe_str (nomark _)) (pw_or1 (PW.pt (pw_and (pt_cmpR (op_eqM hr.units) (pv 3) (pe_lst pa_nil) (nomark _)) (pw_and1 (pt_cmpR op_eq (pe_slice sl_str (pv 0) (po_some (pv 1)) (po_some (pe_op op_add (pv 1) pe_int))) pe_str (nomark _)))))))) (pss_cons (ps_set (i := 4) sc__law_parts_in.nd rfl (by first | exact Or.inl rfl | exact Or.inr rfl) (pe_dD D__law_expr_in hr (by first | decide | omega) (fun σ => L2N.passAt tk σ) (by rfl) (pa_cons (pv 0) (pa_cons (pe_op op_add (pv 1) pe_int) (pa_cons (pv 2) pa_nil))))) (pss_cons (ps_if (pt_cmpR op_isN1 (pv 4) pe_non (nomark _)) (pss_one (ps_ret pe_non)) pss_nil) (pss_cons (ps_expr (pe_bm PySem.F.plainAttrs_list PySem.F.slot_list_append PySem.F.type_list_append mt_append (pv 3) (pa_cons (pe_ix ix_tup (pv 4) pe_int (fun _ _ => rfl)) pa_nil))) (pss_one (ps_set (i := 1) sc__law_parts_in.nd rfl (by first | exact Or.inl rfl | exact Or.inr rfl) (pe_ix ix_tup (pv 4) pe_int (fun _ _ => rfl)))))))) (pss_one (ps_ret (pe_ifExp (pt_cmpR op_eq (pe_slice sl_str (pv 0) (po_some (pv 1)) (po_some (pe_op op_add (pv 1) pe_int))) pe_str (nomark _)) (pe_tup (pa_cons (pv 3) (pa_cons (pe_op op_add (pv 1) pe_int) pa_nil))) pe_non)))))), ?_⟩
  have hs := sizeLine_eq
  walk_at "rd"
  refine ⟨by rw [hs]; omega, ?_⟩
  rw [cutS_one hi, sc_lp]
  unfold somePartsR at q1 q2
  by_cases c : (rem z i).take 1 = [40]
  rotate_left
  · rw [if_pos (fun h => c (st_inj h))]
    simp only [if_neg c] at q1 q2
    refine ⟨Nat.zero_le _, fun p np => ⟨by rw [hs]; decide, fun p1 np1 => ?_⟩⟩
    have s1 := same_new (u := .lst []) np
    refine q1 [] _ rfl p1 _ i _ (s1.trans (same_new np1)) (none_of s1 np1) upd_same ?_ rfl hi
    show Dp K _ _ (.list (toDs []))
    rw [toDs]
    exact .lst (SqL.of (dif_eq.mpr ⟨np, by rw [upd_ne (ne_of_none upd_same np1)]; exact upd_same⟩)) .nil
  rw [if_neg (fun h => h (by rw [c]))]
  simp only [if_pos c] at q1 q2
  refine ⟨Nat.zero_le _, fun a na => ?_⟩
  refine while_w (PaLW K m z i left H a) _ ⟨i, 0, [], [], rfl, ⟨_, rfl⟩, Nat.le_refl _, hi, same_new na, na, upd_same, .nil, Nat.zero_le _, by simp, .inl ⟨rfl, rfl, rfl⟩⟩ ?_
  rintro k0 σ H1 ⟨j, f, es, acc, rfl, ⟨u, rfl⟩, hij, hj, s1, _, ha, hA, hal, hwf, hst⟩
  have hrl := rem_len z j
  walk_at "rd"
  refine ⟨by rw [hs]; omega, ?_⟩
  rw [cutS_one hj, sc_co]
  by_cases c4 : (rem z j).take 1 = [44]
  · rw [if_pos (by rw [c4])]
    rcases hst with ⟨_, _, rfl⟩ | ⟨h1, h2, e4, hf⟩
    · rw [c] at c4
      cases c4
    have hlj := tk1 c4
    have hj1 : j + 1 ≤ z.length := by omega
    rw [ptR_more c4, d1] at e4
    rw [d1, rem_len] at hlj
    rw [rem_len] at hf
    have hS : ∀ e r, eU m (rem z (j + 1)) = some (e, r) → ∃ f', partsR (eU m) (rem z i) = ptR (eU m) (f' + 1) r (es ++ [e]) ∧ r.length ≤ f' := fun e r he => by
      have hsh := (lvU_sh m).2 _ _ _ he
      rw [rem_len] at hsh
      rw [he] at e4
      exact ⟨f - 1, by rw [e4, show f - 1 + 1 = f by omega], by omega⟩
    have hN : eU m (rem z (j + 1)) = none → partsR (eU m) (rem z i) = none := fun he => by
      rw [he] at e4
      exact e4
    have sx : Same H1 H1 := Same.refl _
    have hax := ha
    have hAx := hA
    walk_at "om"
  rw [if_neg (fun h => c4 (st_inj h))]
  refine ⟨Nat.zero_le _, fun p np => ?_⟩
  have sx := same_new (u := .lst []) np
  have hax := sx _ _ ha
  have hAx := DpAll.same (difO_ext (a := a) (H := H) sx) hA
  have hcl := (toDs_shape es (wfS_mem.mpr hwf)).1
  refine ⟨.list (toDs es), .list [], .lst (SqL.of hax) (DpAll.same dif_sub (DpAll.same difO_sub hAx)), .lst (SqL.of upd_same) .nil, by simpa [PyData.canLay0] using hcl, rfl, Nat.le_trans (Nat.min_le_right _ _) (by decide), _, rfl, ?_⟩
  rw [toDs_nil_eqv]
  by_cases h0 : es = []
  · rw [if_pos (decide_eq_true h0)]
    rcases hst with ⟨_, hac, hji⟩ | ⟨h1, _⟩
    rotate_left
    · exact absurd h0 h1
    refine ⟨by rw [hs]; omega, ?_⟩
    rw [if_pos (by rw [hji, c])]
    have hlj := tk1 c
    rw [d1, rem_len, rem_len] at hlj
    have hj1 : j + 1 ≤ z.length := by omega
    have e4 := partsR_eq (E := eU m) c
    rw [d1, show i + 1 = j + 1 by omega] at e4
    have hS : ∀ e r, eU m (rem z (j + 1)) = some (e, r) → ∃ f', partsR (eU m) (rem z i) = ptR (eU m) (f' + 1) r (es ++ [e]) ∧ r.length ≤ f' := fun e r he => by
      rw [he] at e4
      exact ⟨_, by rw [h0]; exact e4, Nat.le_refl _⟩
    have hN : eU m (rem z (j + 1)) = none → partsR (eU m) (rem z i) = none := fun he => by
      rw [he] at e4
      exact e4
    walk_at "om"
  · rw [if_neg (by simpa using h0)]
    rcases hst with ⟨h1, _⟩ | ⟨h1, h2, e4, hf⟩
    · exact absurd h1 h0
    rw [ptR_end c4] at e4
    refine ⟨by rw [hs]; omega, ?_⟩
    rw [sc_rp]
    by_cases c5 : (rem z j).take 1 = [41]
    · rw [if_pos (by rw [c5])]
      rw [if_pos c5, d1] at e4
      have hlj := tk1 c5
      refine ⟨by rw [hs]; decide, fun p1 np1 => ?_⟩
      have s2 := s1.trans sx
      refine q1 es _ e4 p1 _ (j + 1) _ (s2.trans (same_new np1)) (none_of s2 np1) upd_same ?_ rfl (by omega)
      exact .lst (SqL.of (dif_eq.mpr ⟨na, same_new np1 _ _ hax⟩)) (DpAll.same difO_sub (DpAll.same (difO_ext (same_new np1)) hAx))
    · rw [if_neg (fun h => c5 (st_inj h))]
      rw [if_neg c5] at e4
      exact q2 e4 _ (s1.trans sx)
end
end Sk

/-! ## L53c -/
namespace Sk
open PySem PySem.Spec PyProof.Rows L2
set_option hygiene false in
local macro_rules | `(tactic| walk_at "rd") => `(tactic| simp only [tVar, tC, tB, tAnd, tOr, tNot, tAndV, tOrV, tNotV, tIf, tNext, tSeq, tBreak, tCont, tDrop, tRet, tRetN, tIfS, tAsg, tAug, tOp, tUn, tTest, tChain, tFld, sFldAug, sFld, rAdd, tNil, tCons, tTup, tLst, tCB, tNoPart, tPart, tSl, tBM0, tBM, tYes, tM0, tM1, CwR.tReplC, tCallS, tMethS, tMakeS, gName, wipe, tyV, gTup, gCons, gNil,
  rI, rI0, rEq, rNe, scal, rPlus, rPlusI, rPlusS, rCat, rCatA, rIx, rIxL, rIxT, rIxS, rSl, rSlS, rSlL, rSlA, iPlus, iPlusI, iPlusS, ipI, rAll, rAny, LenV, WE, E0, rAppend,
  L2.start, List.map_cons, List.map_nil, List.length_cons, List.length_nil, Nat.zero_add, Nat.add_zero, Nat.reduceAdd, Nat.reduceSub, Nat.sub_self, List.replicate_zero, List.replicate_succ, List.append_nil, List.nil_append, List.cons_append, List.getElem?_cons_zero, List.getElem?_cons_succ, List.set_cons_zero, List.set_cons_succ, Option.some.injEq,
  V.int.injEq, V.str.injEq, V.bl.injEq, V.ref.injEq, V.ty.injEq, HO.ins.injEq, HO.lst.injEq, HO.tup.injEq, List.cons.injEq, reduceCtorEq, false_and, and_false, true_and, and_true, and_assoc, exists_const, exists_false, false_or, or_false, exists_eq_left', exists_eq_left, exists_eq_right, exists_eq_right', exists_and_left, ↓reduceIte, decide_eq_true_eq, Bool.not_eq_true', decide_eq_false_iff_not, if_true, if_false, cxOf, and_self, Bool.not_true, Bool.not_false, Bool.false_eq_true,
  sf_signs, sf_spot, sf_put, T.cl_Source, T.na_Source_signs, T.na_Source_spot, sg_inj, upd_same, rIsS, tyN, kb1, kb2, kb3, kb4, kb5, kb6, kb7, kb8, kb9, kb10, kb11, kb12, kb13, kb14, kb15, kb16, kb17, kb18, kb19, kb20, kb21, tDNewK, rPowW, gStar, gUnl, tLenSetU, tDGet, tDIn, sDPut, tJs, tFmt])
section
variable {P : Program} {w : World} {K : PySem.W.Frag} {mg : Str → Option Value} {base : Heap}
theorem name_len {w : Tx} (h : isNameT w = true) : 1 ≤ w.length := by
  unfold isNameT at h
  rw [Bool.and_eq_true, decide_eq_true_eq] at h
  exact h.1.1
theorem sc__law_place_in : FnScope ["text", "at", "left", "shared", "short", "name", "parts"] ["text", "at", "left"] (defScope s__law_place_in) := ⟨rfl, rfl, rfl, by decide +kernel, rfl, by decide +kernel, by decide +kernel⟩
theorem ok__law_place_in (T : Hd w K mg) {k m n : Nat} (hk : 2 ≤ k) (D__law_name_in : Dn P w K mg base 2 "_law_name_in" spNameL) (D__law_parts_in : DnD P w K mg base k "_law_parts_in" (spPaL K m (n - 1))) : DnD P w K mg base (k + 1) "_law_place_in" (spPlL K m n) := by
  obtain ⟨fd, F⟩ := T.fn__law_place_in
  refine dnD_mk F T.g__law_place_in (F.binds (ps := ["text", "at", "left"]) fun _ _ _ _ _ _ us hl => match us, hl with | [_, _, _], _ => rfl) sc__law_place_in (fun vs H Q E h => ?_) (fun cdv A outer s H vs Q E hr tk h => ?_)
  · obtain ⟨z, i, left, rfl, ⟨hi, hz, hok, hn, hl⟩, q1, q2⟩ := h
    rfl
  obtain ⟨z, i, left, rfl, ⟨hi, hz, hok, hn, hl⟩, q1, q2⟩ := h
  refine ⟨_, (pss_cons (ps_set (i := 3) sc__law_place_in.nd rfl (by first | exact Or.inl rfl | exact Or.inr rfl) (pe_callTy call_int1 (by rfl) T.f_int (by decide +kernel) (pa_cons (pe_cmpR op_eq (pe_slice sl_str (pv 0) (po_some (pv 1)) (po_some (pe_op op_add (pv 1) pe_int))) pe_str (nomark _)) pa_nil))) (pss_cons (ps_set (i := 4) sc__law_place_in.nd rfl (by first | exact Or.inl rfl | exact Or.inr rfl) (pe_and (pe_cmpR op_eq (pv 3) pe_int (nomark _)) (pe_one (pe_cmpR op_eq (pe_slice sl_str (pv 0) (po_some (pe_op op_add (pv 1) pe_int)) (po_some (pe_op op_add (pv 1) pe_int))) pe_str (nomark _))))) (pss_cons (ps_set (i := 5) sc__law_place_in.nd rfl (by first | exact Or.inl rfl | exact Or.inr rfl) (pe_ifExp (pt_val (pv 4)) (pe_tup (pa_cons pe_str (pa_cons (pe_op op_add (pv 1) pe_int) pa_nil))) (pe_dL D__law_name_in hr (by first | decide | omega) (fun σ => L2N.passAt tk σ) (by rfl) (pa_cons (pv 0) (pa_cons (pe_op op_add (pv 1) (pv 3)) pa_nil))))) (pss_cons (ps_set (i := 6) sc__law_place_in.nd rfl (by first | exact Or.inl rfl | exact Or.inr rfl) (pe_ifExp (pt_cmpR op_isN1 (pv 5) pe_non (nomark _)) pe_non (pe_dD D__law_parts_in hr (by first | decide | omega) (fun σ => L2N.passAt tk σ) (by rfl) (pa_cons (pv 0) (pa_cons (pe_ix ix_tup (pv 5) pe_int (fun _ _ => rfl)) (pa_cons (pe_op op_sub (pv 2) pe_int) pa_nil)))))) (pss_cons (ps_if (PW.pt (pw_or (pt_cmpR op_isN1 (pv 6) pe_non (nomark _)) (pw_or1 (pt_cmpR op_lt (pv 2) pe_int (nomark _))))) (pss_one (ps_ret pe_non)) pss_nil) (pss_one (ps_ret (pe_tup (pa_cons (pe_ifExp (pt_val (pv 4)) (pe_tup (pa_cons pe_str (pa_cons (pe_ix ix_tup (pv 6) pe_int (fun _ _ => rfl)) pa_nil))) (pe_tup (pa_cons (pe_ix ix_list (pe_lst (pa_cons pe_str (pa_cons pe_str pa_nil))) (pv 3) (fun _ _ => rfl)) (pa_cons (pe_ix ix_tup (pv 5) pe_int (fun _ _ => rfl)) (pa_cons (pe_ix ix_tup (pv 6) pe_int (fun _ _ => rfl)) pa_nil))))) (pa_cons (pe_ix ix_tup (pv 6) pe_int (fun _ _ => rfl)) pa_nil)))))))))), ?_⟩
  have hs := sizeLine_eq
  generalize hY : (tSeq (tAsg _ (gName 5)) _) = Y
  walk_at "rd"
  refine ⟨by rw [hs]; omega, ?_⟩
  rw [cutS_one hi, sc_up, sc_lp]
  have e0 := placeR.eq_def (eU m) (rem z i)
  by_cases c : (rem z i).take 1 = [94]
  · rw [show (if St ((rem z i).take 1) = St [94] then (1 : Int) else 0) = 1 by rw [c]; rfl, if_pos rfl]
    have hlj := tk1 c
    rw [d1, rem_len, rem_len] at hlj
    have hj1 : i + 1 ≤ z.length := by omega
    have e2 := cutS_one (z := z) (i := i + 1) hj1
    rw [show (((i + 1 : Nat)) : Int) = (i : Int) + 1 by omega, show ((i : Int) + 1 + 1) = (i : Int) + 2 by omega] at e2
    rw [e2]
    simp only [if_pos c, d1] at e0
    refine ⟨by rw [hs]; omega, ?_⟩
    by_cases c1 : (rem z (i + 1)).take 1 = [40]
    · rw [c1, decide_eq_true rfl]
      simp only [if_pos c1] at e0
      subst hY
      walk_at "rd"
      refine ⟨by rw [hs]; decide, fun p0 np0 => ⟨rfl, _, rfl, ?_⟩⟩
      rw [if_neg (by simp)]
      have s0 := same_new (u := .tup [V.str (Str.ofString ""), V.int ((i : Int) + 1)]) np0
      refine ⟨_, SqT.of upd_same, _, atI_nat (j := 1) rfl, z, i + 1, left - 1, rfl, ⟨hj1, hz, hok, by omega, by omega⟩, fun ps r he p v j H2 s2 np hp hv hr hj2 => ?_, fun he H2 s2 => ?_⟩
      · unfold somePartsR at he
        rw [if_pos c1] at he
        rw [he] at e0
        have s02 := s0.trans s2
        refine ⟨rfl, _, rfl, ?_⟩
        rw [if_neg (by simp), if_neg (by omega)]
        refine ⟨p, rfl, _, SqT.of hp, v, atI_nat (j := 0) rfl, by rw [hs]; decide, fun p1 np1 => ⟨p, rfl, _, SqT.of (same_new np1 _ _ hp), _, atI_nat (j := 1) rfl, by rw [hs]; decide, fun p2 np2 => ?_⟩⟩
        have t1 := same_new (u := .tup [V.str (Str.ofString "short"), v]) np1
        refine q1 _ _ e0 p2 _ j _ ((s02.trans t1).trans (same_new np2)) (none_of (s02.trans t1) np2) upd_same ?_ hr hj2
        show Dp K _ _ (Ex.toD _)
        rw [Ex.toD]
        exact .tup (SqT.of (dif_eq.mpr ⟨none_of s02 np1, same_new np2 _ _ upd_same⟩)) (.cons (.str _) (.cons (Dp.same (dif_ext (t1.trans (same_new np2))) (Dp.same (dif_same s0) hv)) .nil))
      · unfold somePartsR at he
        rw [if_pos c1] at he
        rw [he] at e0
        refine ⟨rfl, _, rfl, ?_⟩
        rw [if_pos (by simp)]
        exact q2 e0 H2 (s0.trans s2)
    · rw [decide_eq_false (fun h => c1 (st_inj h))]
      simp only [if_neg c1] at e0
      subst hY
      walk_at "rd"
      refine ⟨z, i + 1, rfl, hj1, by omega, fun nm r he p v j H2 s2 np hp hv hr hj => ?_, fun he H2 s2 => ?_⟩
      rotate_left
      · rw [he] at e0
        refine ⟨rfl, _, rfl, ?_⟩
        rw [if_pos (by simp)]
        refine ⟨rfl, _, rfl, ?_⟩
        rw [if_pos (by simp)]
        exact q2 e0 H2 s2
      subst hr
      obtain rfl : v = V.str (St nm) := hv
      obtain ⟨hn1, hn2⟩ := nameR_cv he
      have hn3 := name_len hn1
      have hn4 := congrArg List.length hn2
      rw [rem_len, List.length_append, rem_len] at hn4
      rw [he] at e0
      simp only at e0
      refine ⟨rfl, _, rfl, ?_⟩
      rw [if_neg (by simp)]
      refine ⟨p, rfl, _, SqT.of hp, _, atI_nat (j := 1) rfl, z, j, left - 1, rfl, ⟨hj, hz, hok, by omega, by omega⟩, fun ps r' he' p' v' j' H3 s3 np' hp' hv' hr' hj' => ?_, fun he' H3 s3 => ?_⟩
      rotate_left
      · rw [he'] at e0
        refine ⟨rfl, _, rfl, ?_⟩
        rw [if_pos (by simp)]
        exact q2 e0 H3 (s2.trans s3)
      rw [he'] at e0
      simp only at e0
      have s23 := s2.trans s3
      refine ⟨rfl, _, rfl, ?_⟩
      rw [if_neg (by simp), if_neg (by omega)]
      refine ⟨by rw [hs]; decide, fun p1 np1 => ⟨_, SqL.of upd_same, _, atI_nat (j := 1) rfl, p, rfl, _, SqT.of (same_new np1 _ _ (s3 _ _ hp)), _, atI_nat (j := 0) rfl, p', rfl, _, SqT.of (same_new np1 _ _ hp'), _, atI_nat (j := 0) rfl, by rw [hs]; decide, fun p2 np2 => ⟨p', rfl, _, SqT.of (same_new np2 _ _ (same_new np1 _ _ hp')), _, atI_nat (j := 1) rfl, by rw [hs]; decide, fun p3 np3 => ?_⟩⟩⟩
      have t1 := same_new (u := .lst [V.str (Str.ofString "var"), V.str (Str.ofString "at")]) np1
      have t2 := same_new (u := .tup [V.str (Str.ofString "at"), V.str (St nm), v']) np2
      refine q1 _ _ e0 p3 _ j' _ (((s23.trans t1).trans t2).trans (same_new np3)) (none_of ((s23.trans t1).trans t2) np3) upd_same ?_ hr' hj'
      show Dp K _ _ (Ex.toD _)
      rw [Ex.toD]
      exact .tup (SqT.of (dif_eq.mpr ⟨none_of (s23.trans t1) np2, same_new np3 _ _ upd_same⟩)) (.cons (.str _) (.cons (.str _) (.cons (Dp.same (dif_ext ((t1.trans t2).trans (same_new np3))) (Dp.same (dif_same s2) hv')) .nil)))
  · rw [show (if St ((rem z i).take 1) = St [94] then (1 : Int) else 0) = 0 by rw [if_neg (fun h => c (st_inj h))], if_neg (by decide)]
    simp only [if_neg c] at e0
    subst hY
    walk_at "rd"
    refine ⟨z, i, rfl, hi, by omega, fun nm r he p v j H2 s2 np hp hv hr hj => ?_, fun he H2 s2 => ?_⟩
    rotate_left
    · rw [he] at e0
      refine ⟨rfl, _, rfl, ?_⟩
      rw [if_pos (by simp)]
      refine ⟨rfl, _, rfl, ?_⟩
      rw [if_pos (by simp)]
      exact q2 e0 H2 s2
    subst hr
    obtain rfl : v = V.str (St nm) := hv
    obtain ⟨hn1, hn2⟩ := nameR_cv he
    have hn3 := name_len hn1
    have hn4 := congrArg List.length hn2
    rw [rem_len, List.length_append, rem_len] at hn4
    rw [he] at e0
    simp only at e0
    refine ⟨rfl, _, rfl, ?_⟩
    rw [if_neg (by simp)]
    refine ⟨p, rfl, _, SqT.of hp, _, atI_nat (j := 1) rfl, z, j, left - 1, rfl, ⟨hj, hz, hok, by omega, by omega⟩, fun ps r' he' p' v' j' H3 s3 np' hp' hv' hr' hj' => ?_, fun he' H3 s3 => ?_⟩
    rotate_left
    · rw [he'] at e0
      refine ⟨rfl, _, rfl, ?_⟩
      rw [if_pos (by simp)]
      exact q2 e0 H3 (s2.trans s3)
    rw [he'] at e0
    simp only at e0
    have s23 := s2.trans s3
    refine ⟨rfl, _, rfl, ?_⟩
    rw [if_neg (by simp), if_neg (by omega)]
    refine ⟨by rw [hs]; decide, fun p1 np1 => ⟨_, SqL.of upd_same, _, atI_nat (j := 0) rfl, p, rfl, _, SqT.of (same_new np1 _ _ (s3 _ _ hp)), _, atI_nat (j := 0) rfl, p', rfl, _, SqT.of (same_new np1 _ _ hp'), _, atI_nat (j := 0) rfl, by rw [hs]; decide, fun p2 np2 => ⟨p', rfl, _, SqT.of (same_new np2 _ _ (same_new np1 _ _ hp')), _, atI_nat (j := 1) rfl, by rw [hs]; decide, fun p3 np3 => ?_⟩⟩⟩
    have t1 := same_new (u := .lst [V.str (Str.ofString "var"), V.str (Str.ofString "at")]) np1
    have t2 := same_new (u := .tup [V.str (Str.ofString "var"), V.str (St nm), v']) np2
    refine q1 _ _ e0 p3 _ j' _ (((s23.trans t1).trans t2).trans (same_new np3)) (none_of ((s23.trans t1).trans t2) np3) upd_same ?_ hr' hj'
    show Dp K _ _ (Ex.toD _)
    rw [Ex.toD]
    exact .tup (SqT.of (dif_eq.mpr ⟨none_of (s23.trans t1) np2, same_new np3 _ _ upd_same⟩)) (.cons (.str _) (.cons (.str _) (.cons (Dp.same (dif_ext ((t1.trans t2).trans (same_new np3))) (Dp.same (dif_same s2) hv')) .nil)))
end
end Sk

/-! ## L53d -/
namespace Sk
open PySem PySem.Spec PyProof.Rows L2
set_option hygiene false in
local macro_rules | `(tactic| walk_at "rd") => `(tactic| simp only [tVar, tC, tB, tAnd, tOr, tNot, tAndV, tOrV, tNotV, tIf, tNext, tSeq, tBreak, tCont, tDrop, tRet, tRetN, tIfS, tAsg, tAug, tOp, tUn, tTest, tChain, tFld, sFldAug, sFld, rAdd, tNil, tCons, tTup, tLst, tCB, tNoPart, tPart, tSl, tBM0, tBM, tYes, tM0, tM1, CwR.tReplC, tCallS, tMethS, tMakeS, gName, wipe, tyV, gTup, gCons, gNil,
  rI, rI0, rEq, rNe, scal, rPlus, rPlusI, rPlusS, rCat, rCatA, rIx, rIxL, rIxT, rIxS, rSl, rSlS, rSlL, rSlA, iPlus, iPlusI, iPlusS, ipI, rAll, rAny, LenV, WE, E0, rAppend,
  L2.start, List.map_cons, List.map_nil, List.length_cons, List.length_nil, Nat.zero_add, Nat.add_zero, Nat.reduceAdd, Nat.reduceSub, Nat.sub_self, List.replicate_zero, List.replicate_succ, List.append_nil, List.nil_append, List.cons_append, List.getElem?_cons_zero, List.getElem?_cons_succ, List.set_cons_zero, List.set_cons_succ, Option.some.injEq,
  V.int.injEq, V.str.injEq, V.bl.injEq, V.ref.injEq, V.ty.injEq, HO.ins.injEq, HO.lst.injEq, HO.tup.injEq, List.cons.injEq, reduceCtorEq, false_and, and_false, true_and, and_true, and_assoc, exists_const, exists_false, false_or, or_false, exists_eq_left', exists_eq_left, exists_eq_right, exists_eq_right', exists_and_left, ↓reduceIte, decide_eq_true_eq, Bool.not_eq_true', decide_eq_false_iff_not, if_true, if_false, cxOf, and_self, Bool.not_true, Bool.not_false, Bool.false_eq_true,
  sf_signs, sf_spot, sf_put, T.cl_Source, T.na_Source_signs, T.na_Source_spot, sg_inj, upd_same, rIsS, tyN, kb1, kb2, kb3, kb4, kb5, kb6, kb7, kb8, kb9, kb10, kb11, kb12, kb13, kb14, kb15, kb16, kb17, kb18, kb19, kb20, kb21, tDNewK, rPowW, gStar, gUnl, tLenSetU, tDGet, tDIn, sDPut, tJs, tFmt])
section
variable {P : Program} {w : World} {K : PySem.W.Frag} {mg : Str → Option Value} {base : Heap}
theorem lvU_wo : ∀ n : Nat, Wo (sU n) ∧ Wo (eU n)
  | 0 => ⟨fun _ _ _ h => (by cases h), fun _ _ _ h => (by cases h)⟩
  | n + 1 => by
    refine ⟨?_, ?_⟩
    · rw [sU_succ]
      exact singleR_wo
    · rw [eU_succ]
      intro l e r h
      unfold exprU at h
      split at h
      · rename_i s r1 hs
        refine opsTail_wo _ _ _ _ _ ?_ h
        rw [sU_succ] at hs
        exact singleR_wo _ _ _ hs
      · cases h
theorem sc__law_under_in : FnScope ["text", "at", "left", "found"] ["text", "at", "left"] (defScope s__law_under_in) := ⟨rfl, rfl, rfl, by decide +kernel, rfl, by decide +kernel, by decide +kernel⟩
theorem ok__law_under_in (T : Hd w K mg) {k m n : Nat} (D__law_single_in : DnD P w K mg base k "_law_single_in" (spSgL K m n)) (D__law_expr_in : DnD P w K mg base k "_law_expr_in" (spExL K m (n - 1))) : DnD P w K mg base (k + 1) "_law_under_in" (spUnL K m n) := by
  obtain ⟨fd, F⟩ := T.fn__law_under_in
  refine dnD_mk F T.g__law_under_in (F.binds (ps := ["text", "at", "left"]) fun _ _ _ _ _ _ us hl => match us, hl with | [_, _, _], _ => rfl) sc__law_under_in (fun vs H Q E h => ?_) (fun cdv A outer s H vs Q E hr tk h => ?_)
  · obtain ⟨z, i, left, rfl, ⟨hi, hz, hok, hn, hl⟩, q1, q2⟩ := h
    rfl
  obtain ⟨z, i, left, rfl, ⟨hi, hz, hok, hn, hl⟩, q1, q2⟩ := h
  refine ⟨_, (pss_cons (ps_if (pt_cmpR op_ne (pe_slice sl_str (pv 0) (po_some (pv 1)) (po_some (pe_op op_add (pv 1) pe_int))) pe_str (nomark _)) (pss_one (ps_ret (pe_dD D__law_single_in hr (by first | decide | omega) (fun σ => L2N.passAt tk σ) (by rfl) (pa_cons (pv 0) (pa_cons (pv 1) (pa_cons (pv 2) pa_nil)))))) pss_nil) (pss_cons (ps_set (i := 3) sc__law_under_in.nd rfl (by first | exact Or.inl rfl | exact Or.inr rfl) (pe_dD D__law_expr_in hr (by first | decide | omega) (fun σ => L2N.passAt tk σ) (by rfl) (pa_cons (pv 0) (pa_cons (pe_op op_add (pv 1) pe_int) (pa_cons (pv 2) pa_nil))))) (pss_cons (ps_if (PW.pt (pw_or (pt_cmpR op_isN1 (pv 3) pe_non (nomark _)) (pw_or (pt_cmpR op_ne (pe_ix ix_tup (pe_ix ix_tup (pv 3) pe_int (fun _ _ => rfl)) pe_int (fun _ _ => rfl)) pe_str (nomark _)) (pw_or1 (pt_cmpR op_ne (pe_slice sl_str (pv 0) (po_some (pe_ix ix_tup (pv 3) pe_int (fun _ _ => rfl))) (po_some (pe_op op_add (pe_ix ix_tup (pv 3) pe_int (fun _ _ => rfl)) pe_int))) pe_str (nomark _)))))) (pss_one (ps_ret pe_non)) pss_nil) (pss_one (ps_ret (pe_tup (pa_cons (pe_ix ix_tup (pv 3) pe_int (fun _ _ => rfl)) (pa_cons (pe_op op_add (pe_ix ix_tup (pv 3) pe_int (fun _ _ => rfl)) pe_int) pa_nil)))))))), ?_⟩
  have hs := sizeLine_eq
  walk_at "rd"
  refine ⟨by rw [hs]; omega, ?_⟩
  rw [cutS_one hi, sc_lp]
  have e0 := underR.eq_def (sU m) (eU m) (rem z i)
  by_cases c : (rem z i).take 1 = [40]
  rotate_left
  · rw [if_pos (fun h => c (st_inj h))]
    simp only [if_neg c] at e0
    exact ⟨z, i, left, rfl, ⟨hi, hz, hok, hn, hl⟩, fun e r h => q1 e r (e0.trans h), fun h => q2 (e0.trans h)⟩
  rw [if_neg (fun h => h (by rw [c]))]
  simp only [if_pos c, d1] at e0
  have hlj := tk1 c
  rw [d1, rem_len, rem_len] at hlj
  refine ⟨z, i + 1, left, rfl, ⟨by omega, hz, hok, by omega, by omega⟩, fun e r he p v j H2 s2 np hp hv hr hj => ?_, fun he H2 s2 => ?_⟩
  rotate_left
  · rw [he] at e0
    refine ⟨rfl, _, rfl, ?_⟩
    rw [if_pos (by simp)]
    exact q2 e0 H2 s2
  subst hr
  rw [he] at e0
  simp only at e0
  have hv' : Dp K (dif H H2) v e.toD := hv
  have hv2 := hv'
  rw [toD_kids] at hv2
  obtain ⟨a, xs, rfl, hT, hA⟩ := dp_tup hv2
  obtain ⟨v0, rr, rfl, hv0, hA⟩ := dpa_cons hA
  obtain rfl := dp_str hv0
  have hwo := (lvU_wo m).2 _ _ _ he
  have hT2 : SqT K H2 a (V.str e.word :: rr) := Same.seqT dif_sub hT
  refine ⟨rfl, _, rfl, ?_⟩
  rw [if_neg (by simp)]
  refine ⟨p, rfl, _, SqT.of hp, _, atI_nat (j := 0) rfl, a, rfl, _, hT2, V.str e.word, atI_nat (j := 0) rfl, rfl, ?_⟩
  by_cases co : e.isOpX = true
  rotate_left
  · rw [if_pos (by rw [V.str.injEq]; exact fun h => co (hwo.mp h))]
    rw [if_neg co] at e0
    exact q2 e0 H2 s2
  rw [if_neg (by rw [hwo.mpr co]; exact fun h => h rfl)]
  rw [if_pos co] at e0
  refine ⟨p, rfl, _, SqT.of hp, _, atI_nat (j := 1) rfl, _, rfl, p, rfl, _, SqT.of hp, _, atI_nat (j := 1) rfl, _, rfl, by rw [hs]; omega, ?_⟩
  rw [cutS_one hj, sc_rp]
  by_cases c3 : (rem z j).take 1 = [41]
  rotate_left
  · rw [if_pos (fun h => c3 (st_inj h))]
    rw [if_neg c3] at e0
    exact q2 e0 H2 s2
  rw [if_neg (fun h => h (by rw [c3]))]
  rw [if_pos c3, d1] at e0
  have hl3 := tk1 c3
  rw [d1, rem_len, rem_len] at hl3
  refine ⟨p, rfl, _, SqT.of hp, _, atI_nat (j := 0) rfl, p, rfl, _, SqT.of hp, _, atI_nat (j := 1) rfl, _, rfl, by rw [hs]; decide, fun p1 np1 => ?_⟩
  refine q1 _ _ e0 p1 _ (j + 1) _ (s2.trans (same_new np1)) (none_of s2 np1) upd_same ?_ rfl (by omega)
  exact Dp.same (dif_ext (same_new np1)) hv'
theorem ite_or2 {A B X Y : Prop} [Decidable A] [Decidable B] (h : A ∨ B) (hx : X) : if A then X else if B then X else Y := by
  by_cases ha : A
  · rw [if_pos ha]; exact hx
  · rw [if_neg ha, if_pos (h.resolve_left ha)]; exact hx
theorem sc__law_single_in : FnScope ["text", "at", "left", "sign", "found", "word"] ["text", "at", "left"] (defScope s__law_single_in) := ⟨rfl, rfl, rfl, by decide +kernel, rfl, by decide +kernel, by decide +kernel⟩
theorem ok__law_single_in (T : Hd w K mg) {k m n : Nat} (hk : 3 ≤ k) (D__law_worth_in : Dn P w K mg base 3 "_law_worth_in" spWoL) (D__law_under_in : DnD P w K mg base k "_law_under_in" (spUnL K m n)) (D__law_call_in : DnD P w K mg base k "_law_call_in" (spCaL K m n)) (D__law_place_in : DnD P w K mg base k "_law_place_in" (spPlL K m (n + 1))) : DnD P w K mg base (k + 1) "_law_single_in" (spSgL K (m + 1) (n + 1)) := by
  obtain ⟨fd, F⟩ := T.fn__law_single_in
  refine dnD_mk F T.g__law_single_in (F.binds (ps := ["text", "at", "left"]) fun _ _ _ _ _ _ us hl => match us, hl with | [_, _, _], _ => rfl) sc__law_single_in (fun vs H Q E h => ?_) (fun cdv A outer s H vs Q E hr tk h => ?_)
  · obtain ⟨z, i, left, rfl, ⟨hi, hz, hok, hn, hl⟩, q1, q2⟩ := h
    rfl
  obtain ⟨z, i, left, rfl, ⟨hi, hz, hok, hn, hl⟩, q1, q2⟩ := h
  refine ⟨_, (pss_cons (ps_set (i := 3) sc__law_single_in.nd rfl (by first | exact Or.inl rfl | exact Or.inr rfl) (pe_slice sl_str (pv 0) (po_some (pv 1)) (po_some (pe_op op_add (pv 1) pe_int)))) (pss_cons (ps_if (PW.pt (pw_or (pt_cmpR op_lt (pv 2) pe_int (nomark _)) (pw_or1 (pt_cmpR op_eq (pv 3) pe_str (nomark _))))) (pss_one (ps_ret pe_non)) pss_nil) (pss_cons (ps_if (PW.pt (pw_or (pt_cmpR op_in_sign (pv 3) pe_str rfl) (pw_or1 (pt_cmpR op_eq (pv 3) pe_str (nomark _))))) (pss_cons (ps_set (i := 4) sc__law_single_in.nd rfl (by first | exact Or.inl rfl | exact Or.inr rfl) (pe_dL D__law_worth_in hr (by first | decide | omega) (fun σ => L2N.passAt tk σ) (by rfl) (pa_cons (pv 0) (pa_cons (pv 1) pa_nil)))) (pss_one (ps_ret (pe_ifExp (pt_cmpR op_isN1 (pv 4) pe_non (nomark _)) pe_non (pe_tup (pa_cons (pe_tup (pa_cons pe_str (pa_cons (pe_ix ix_tup (pv 4) pe_int (fun _ _ => rfl)) pa_nil))) (pa_cons (pe_ix ix_tup (pv 4) pe_int (fun _ _ => rfl)) pa_nil))))))) pss_nil) (pss_cons (ps_if (pt_cmpR op_in_sign (pv 3) pe_str rfl) (pss_cons (ps_set (i := 4) sc__law_single_in.nd rfl (by first | exact Or.inl rfl | exact Or.inr rfl) (pe_dD D__law_under_in hr (by first | decide | omega) (fun σ => L2N.passAt tk σ) (by rfl) (pa_cons (pv 0) (pa_cons (pe_op op_add (pv 1) pe_int) (pa_cons (pe_op op_sub (pv 2) pe_int) pa_nil))))) (pss_cons (ps_set (i := 5) sc__law_single_in.nd rfl (by first | exact Or.inl rfl | exact Or.inr rfl) (pe_ix ix_list (pe_lst (pa_cons pe_str (pa_cons pe_str pa_nil))) (pe_bm PySem.F.plainAttrs_str PySem.F.slot_str_find PySem.F.type_str_find mt_find pe_str (pa_cons (pv 3) pa_nil)) (fun _ _ => rfl))) (pss_one (ps_ret (pe_ifExp (pt_cmpR op_isN1 (pv 4) pe_non (nomark _)) pe_non (pe_tup (pa_cons (pe_tup (pa_cons (pv 5) (pa_cons (pe_ix ix_tup (pv 4) pe_int (fun _ _ => rfl)) pa_nil))) (pa_cons (pe_ix ix_tup (pv 4) pe_int (fun _ _ => rfl)) pa_nil)))))))) pss_nil) (pss_cons (ps_if (pt_cmpR op_eq (pv 3) pe_str (nomark _)) (pss_one (ps_ret (pe_dD D__law_call_in hr (by first | decide | omega) (fun σ => L2N.passAt tk σ) (by rfl) (pa_cons (pv 0) (pa_cons (pe_op op_add (pv 1) pe_int) (pa_cons (pv 2) pa_nil)))))) pss_nil) (pss_one (ps_ret (pe_dD D__law_place_in hr (by first | decide | omega) (fun σ => L2N.passAt tk σ) (by rfl) (pa_cons (pv 0) (pa_cons (pv 1) (pa_cons (pv 2) pa_nil))))))))))), ?_⟩
  have hs := sizeLine_eq
  generalize hY : (tSeq (tIfS (tOr (tTest (tOp _ (tVar 3) (tC (V.str (Str.ofString "0123456789"))))) _) _ _) _) = Y
  walk_at "rd"
  refine ⟨by rw [hs]; omega, ?_⟩
  rw [cutS_one hi, if_neg (by omega)]
  have e0 : sU (m + 1) (rem z i) = _ := singleR.eq_def (sU m) (eU m) (eU m) (rem z i)
  cases ht : rem z i with
  | nil =>
    rw [if_pos (by rfl)]
    refine q2 ?_ H (Same.refl _)
    rw [ht]
    rfl
  | cons c r =>
  have ht1 : (rem z i).take 1 = [c] := by rw [ht]; rfl
  have hlj := tk1 ht1
  rw [d1, rem_len, rem_len] at hlj
  have hj1 : i + 1 ≤ z.length := by omega
  rw [if_neg (show ¬ St ((c :: r).take 1) = Str.ofString "" from fun h => by have := congrArg tl h; cases this)]
  simp only [ht1, d1] at e0
  rw [show (c :: r).take 1 = [c] from rfl]
  subst hY
  walk_at "rd"
  by_cases hw : isFig c = true ∨ c = 34
  · rw [if_pos (by simpa using hw.symm)] at e0
    refine ite_or2 (hw.imp (fun h => of_decide_eq_true h) (fun h => by rw [h]; rfl)) ⟨z, i, rfl, hi, by omega, hok, fun wt r he p v j H2 s2 np hp hv hr hj => ?_, fun he H2 s2 => ?_⟩
    · obtain rfl : v = V.str (St wt) := hv
      rw [he] at e0
      refine ⟨rfl, _, rfl, ?_⟩
      rw [if_neg (by simp)]
      refine ⟨p, rfl, _, SqT.of hp, _, atI_nat (j := 0) rfl, by rw [hs]; decide, fun p1 np1 => ⟨p, rfl, _, SqT.of (same_new np1 _ _ hp), _, atI_nat (j := 1) rfl, by rw [hs]; decide, fun p2 np2 => ?_⟩⟩
      have t1 := same_new (u := .tup [V.str (Str.ofString "is"), V.str (St wt)]) np1
      refine q1 _ _ e0 p2 _ j _ ((s2.trans t1).trans (same_new np2)) (none_of (s2.trans t1) np2) upd_same ?_ hr hj
      show Dp K _ _ (Ex.toD _)
      rw [Ex.toD]
      exact .tup (SqT.of (dif_eq.mpr ⟨none_of s2 np1, same_new np2 _ _ upd_same⟩)) (.cons (.str _) (.cons (.str _) .nil))
    · rw [he] at e0
      refine ⟨rfl, _, rfl, ?_⟩
      rw [if_pos (by simp)]
      exact q2 e0 H2 s2
  rw [if_neg (fun h => hw (h.symm.imp (fun h => by simpa using h) (fun h => by simpa using h)))] at e0
  rw [if_neg (show ¬ c ∈ (Str.ofString "0123456789").cps.toList from fun h => hw (.inl (decide_eq_true h))), if_neg (fun h => hw (.inr (by have := congrArg tl h; rw [tl_st] at this; injection this)))]
  by_cases h39 : c = 39
  · subst h39
    rw [if_pos rfl] at e0
    rw [if_pos (by decide +kernel)]
    refine ⟨z, i + 1, left - 1, rfl, ⟨hj1, hz, hok, by omega, by omega⟩, fun e r he p v j H2 s2 np hp hv hr hj => ?_, fun he H2 s2 => ?_⟩
    · have he : underR (sU m) (eU m) (rem z (i + 1)) = some (e, r) := he
      rw [he] at e0
      refine ⟨by rw [hs]; decide, fun p1 np1 => ⟨_, SqL.of upd_same, _, by rw [show Txt.find (Str.ofString "'-") (St [39]) = (0 : Int) by decide +kernel]; exact atI_nat (j := 0) rfl, rfl, _, rfl, ?_⟩⟩
      rw [if_neg (by simp)]
      refine ⟨p, rfl, _, SqT.of (same_new np1 _ _ hp), _, atI_nat (j := 0) rfl, by rw [hs]; decide, fun p2 np2 => ⟨p, rfl, _, SqT.of (same_new np2 _ _ (same_new np1 _ _ hp)), _, atI_nat (j := 1) rfl, by rw [hs]; decide, fun p3 np3 => ?_⟩⟩
      have t1 := same_new (u := .lst [V.str (Str.ofString "not"), V.str (Str.ofString "minus")]) np1
      have t2 := same_new (u := .tup [V.str (Str.ofString "not"), v]) np2
      refine q1 _ _ e0 p3 _ j _ (((s2.trans t1).trans t2).trans (same_new np3)) (none_of ((s2.trans t1).trans t2) np3) upd_same ?_ hr hj
      show Dp K _ _ (Ex.toD _)
      rw [Ex.toD]
      exact .tup (SqT.of (dif_eq.mpr ⟨none_of (s2.trans t1) np2, same_new np3 _ _ upd_same⟩)) (.cons (.str _) (.cons (Dp.same (dif_ext ((t1.trans t2).trans (same_new np3))) hv) .nil))
    · have he : underR (sU m) (eU m) (rem z (i + 1)) = none := he
      rw [he] at e0
      refine ⟨by rw [hs]; decide, fun p1 np1 => ⟨_, SqL.of upd_same, _, by rw [show Txt.find (Str.ofString "'-") (St [39]) = (0 : Int) by decide +kernel]; exact atI_nat (j := 0) rfl, rfl, _, rfl, ?_⟩⟩
      rw [if_pos (by simp)]
      exact q2 e0 _ (s2.trans (same_new np1))
  rw [if_neg (by simpa using h39)] at e0
  by_cases h45 : c = 45
  · subst h45
    rw [if_pos rfl] at e0
    rw [if_pos (by decide +kernel)]
    refine ⟨z, i + 1, left - 1, rfl, ⟨hj1, hz, hok, by omega, by omega⟩, fun e r he p v j H2 s2 np hp hv hr hj => ?_, fun he H2 s2 => ?_⟩
    · have he : underR (sU m) (eU m) (rem z (i + 1)) = some (e, r) := he
      rw [he] at e0
      refine ⟨by rw [hs]; decide, fun p1 np1 => ⟨_, SqL.of upd_same, _, by rw [show Txt.find (Str.ofString "'-") (St [45]) = (1 : Int) by decide +kernel]; exact atI_nat (j := 1) rfl, rfl, _, rfl, ?_⟩⟩
      rw [if_neg (by simp)]
      refine ⟨p, rfl, _, SqT.of (same_new np1 _ _ hp), _, atI_nat (j := 0) rfl, by rw [hs]; decide, fun p2 np2 => ⟨p, rfl, _, SqT.of (same_new np2 _ _ (same_new np1 _ _ hp)), _, atI_nat (j := 1) rfl, by rw [hs]; decide, fun p3 np3 => ?_⟩⟩
      have t1 := same_new (u := .lst [V.str (Str.ofString "not"), V.str (Str.ofString "minus")]) np1
      have t2 := same_new (u := .tup [V.str (Str.ofString "minus"), v]) np2
      refine q1 _ _ e0 p3 _ j _ (((s2.trans t1).trans t2).trans (same_new np3)) (none_of ((s2.trans t1).trans t2) np3) upd_same ?_ hr hj
      show Dp K _ _ (Ex.toD _)
      rw [Ex.toD]
      exact .tup (SqT.of (dif_eq.mpr ⟨none_of (s2.trans t1) np2, same_new np3 _ _ upd_same⟩)) (.cons (.str _) (.cons (Dp.same (dif_ext ((t1.trans t2).trans (same_new np3))) hv) .nil))
    · have he : underR (sU m) (eU m) (rem z (i + 1)) = none := he
      rw [he] at e0
      refine ⟨by rw [hs]; decide, fun p1 np1 => ⟨_, SqL.of upd_same, _, by rw [show Txt.find (Str.ofString "'-") (St [45]) = (1 : Int) by decide +kernel]; exact atI_nat (j := 1) rfl, rfl, _, rfl, ?_⟩⟩
      rw [if_pos (by simp)]
      exact q2 e0 _ (s2.trans (same_new np1))
  rw [if_neg (by simpa using h45)] at e0
  rw [if_neg (fun h => by
    have h : c ∈ [39, 45] := h
    simp only [List.mem_cons, List.not_mem_nil, or_false] at h
    exact h.elim h39 h45)]
  by_cases h36 : c = 36
  · subst h36
    rw [if_pos rfl] at e0
    rw [if_pos (by rfl)]
    exact ⟨z, i + 1, left, rfl, ⟨hj1, hz, hok, by omega, by omega⟩, fun e r h => q1 e r (e0.trans h), fun h => q2 (e0.trans h)⟩
  rw [if_neg (by simpa using h36)] at e0
  rw [if_neg (fun h => h36 (by have := congrArg tl h; rw [tl_st] at this; injection this))]
  exact ⟨z, i, left, rfl, ⟨hi, hz, hok, hn, hl⟩, fun e r h => q1 e r (e0.trans h), fun h => q2 (e0.trans h)⟩
end
end Sk

/-! ## L53e -/
namespace Sk
open PySem PySem.Spec PyProof.Rows L2
set_option hygiene false in
local macro_rules | `(tactic| walk_at "rd") => `(tactic| simp only [tVar, tC, tB, tAnd, tOr, tNot, tAndV, tOrV, tNotV, tIf, tNext, tSeq, tBreak, tCont, tDrop, tRet, tRetN, tIfS, tAsg, tAug, tOp, tUn, tTest, tChain, tFld, sFldAug, sFld, rAdd, tNil, tCons, tTup, tLst, tCB, tNoPart, tPart, tSl, tBM0, tBM, tYes, tM0, tM1, CwR.tReplC, tCallS, tMethS, tMakeS, gName, wipe, tyV, gTup, gCons, gNil,
  rI, rI0, rEq, rNe, scal, rPlus, rPlusI, rPlusS, rCat, rCatA, rIx, rIxL, rIxT, rIxS, rSl, rSlS, rSlL, rSlA, iPlus, iPlusI, iPlusS, ipI, rAll, rAny, LenV, WE, E0, rAppend,
  L2.start, List.map_cons, List.map_nil, List.length_cons, List.length_nil, Nat.zero_add, Nat.add_zero, Nat.reduceAdd, Nat.reduceSub, Nat.sub_self, List.replicate_zero, List.replicate_succ, List.append_nil, List.nil_append, List.cons_append, List.getElem?_cons_zero, List.getElem?_cons_succ, List.set_cons_zero, List.set_cons_succ, Option.some.injEq,
  V.int.injEq, V.str.injEq, V.bl.injEq, V.ref.injEq, V.ty.injEq, HO.ins.injEq, HO.lst.injEq, HO.tup.injEq, List.cons.injEq, reduceCtorEq, false_and, and_false, true_and, and_true, and_assoc, exists_const, exists_false, false_or, or_false, exists_eq_left', exists_eq_left, exists_eq_right, exists_eq_right', exists_and_left, ↓reduceIte, decide_eq_true_eq, Bool.not_eq_true', decide_eq_false_iff_not, if_true, if_false, cxOf, and_self, Bool.not_true, Bool.not_false, Bool.false_eq_true,
  sf_signs, sf_spot, sf_put, T.cl_Source, T.na_Source_signs, T.na_Source_spot, sg_inj, upd_same, rIsS, tyN, kb1, kb2, kb3, kb4, kb5, kb6, kb7, kb8, kb9, kb10, kb11, kb12, kb13, kb14, kb15, kb16, kb17, kb18, kb19, kb20, kb21, tDNewK, rPowW, gStar, gUnl, tLenSetU, tDGet, tDIn, sDPut, tJs, tFmt])
section
variable {P : Program} {w : World} {K : PySem.W.Frag} {mg : Str → Option Value} {base : Heap}
theorem calls_at {t : Tx} {k : Nat} (h : callsN t = some k) : atI [V.int 3, V.int 1] (if St t = Str.ofString "length" then 1 else 0) = some (V.int (k : Nat)) := by
  unfold callsN at h
  split at h
  · rename_i e
    cases h
    rw [if_pos (by rw [st_w]; exact e)]
    exact atI_nat (j := 1) rfl
  · rename_i e
    rw [if_neg (by rw [st_w]; exact e)]
    split at h
    · cases h
      exact atI_nat (j := 0) rfl
    · split at h
      · cases h
        exact atI_nat (j := 0) rfl
      · cases h
theorem inW4 {t : Tx} : inV (V.str (St t)) [V.str (Str.ofString "order"), V.str (Str.ofString "back"), V.str (Str.ofString "data"), V.str (Str.ofString "other")] = (isPlaceW t || decide (t = tl (Str.ofString "other"))) := by
  rw [show inV (V.str (St t)) [V.str (Str.ofString "order"), V.str (Str.ofString "back"), V.str (Str.ofString "data"), V.str (Str.ofString "other")] = decide (St t ∈ [Str.ofString "order", Str.ofString "back", Str.ofString "data", Str.ofString "other"]) from inV_strs (St t) [Str.ofString "order", Str.ofString "back", Str.ofString "data", Str.ofString "other"]]
  unfold isPlaceW
  rw [Bool.eq_iff_iff]
  simp only [List.mem_cons, st_w, List.not_mem_nil, or_false, decide_eq_true_eq, Bool.or_eq_true]
  constructor
  · rintro (h | h | h | h)
    · exact .inl (.inl (.inl h))
    · exact .inl (.inl (.inr h))
    · exact .inl (.inr h)
    · exact .inr h
  · rintro (((h | h) | h) | h)
    · exact .inl h
    · exact .inr (.inl h)
    · exact .inr (.inr (.inl h))
    · exact .inr (.inr (.inr h))
theorem sc__law_call_in : FnScope ["text", "at", "left", "word", "found", "many", "parts", "second"] ["text", "at", "left"] (defScope s__law_call_in) := ⟨rfl, rfl, rfl, by decide +kernel, rfl, by decide +kernel, by decide +kernel⟩
theorem ok__law_call_in (T : Hd w K mg) {k m n : Nat} (hk : 1 ≤ k) (D__law_run : Dn P w K mg base 1 "_law_run" spRunL) (D__law_parts_in : DnD P w K mg base k "_law_parts_in" (spPaL K m n)) (D__law_place_in : DnD P w K mg base k "_law_place_in" (spPlL K m n)) (D__law_expr_in : DnD P w K mg base k "_law_expr_in" (spExL K m (n - 1))) : DnD P w K mg base (k + 1) "_law_call_in" (spCaL K m n) := by
  obtain ⟨fd, F⟩ := T.fn__law_call_in
  refine dnD_mk F T.g__law_call_in (F.binds (ps := ["text", "at", "left"]) fun _ _ _ _ _ _ us hl => match us, hl with | [_, _, _], _ => rfl) sc__law_call_in (fun vs H Q E h => ?_) (fun cdv A outer s H vs Q E hr tk h => ?_)
  · obtain ⟨z, i, left, rfl, ⟨hi, hz, hok, hn, hl⟩, q1, q2⟩ := h
    rfl
  obtain ⟨z, i, left, rfl, ⟨hi, hz, hok, hn, hl⟩, q1, q2⟩ := h
  refine ⟨_, (pss_cons (ps_set (i := 3) sc__law_call_in.nd rfl (by first | exact Or.inl rfl | exact Or.inr rfl) (pe_dL D__law_run hr (by first | decide | omega) (fun σ => L2N.passAt tk σ) (by rfl) (pa_cons (pv 0) (pa_cons (pv 1) (pa_cons pe_str pa_nil))))) (pss_cons (ps_set (i := 1) sc__law_call_in.nd rfl (by first | exact Or.inl rfl | exact Or.inr rfl) (pe_op op_add (pv 1) (pe_callB call_len (by rfl) T.f_len (by decide +kernel) (pa_cons (pv 3) pa_nil)))) (pss_cons (ps_if (pt_cmpR op_in_seq (pv 3) (pe_tup (pa_cons pe_str (pa_cons pe_str (pa_cons pe_str pa_nil)))) rfl) (pss_cons (ps_set (i := 6) sc__law_call_in.nd rfl (by first | exact Or.inl rfl | exact Or.inr rfl) (pe_dD D__law_parts_in hr (by first | decide | omega) (fun σ => L2N.passAt tk σ) (by rfl) (pa_cons (pv 0) (pa_cons (pv 1) (pa_cons (pe_op op_sub (pv 2) pe_int) pa_nil))))) (pss_cons (ps_if (PW.pt (pw_or (pt_cmpR op_isN1 (pv 6) pe_non (nomark _)) (pw_or1 (pt_cmpR op_ne (pe_callB call_len (by rfl) T.f_len (by decide +kernel) (pa_cons (pe_ix ix_tup (pv 6) pe_int (fun _ _ => rfl)) pa_nil)) (pe_ix ix_list (pe_lst (pa_cons pe_int (pa_cons pe_int pa_nil))) (pe_callTy call_int1 (by rfl) T.f_int (by decide +kernel) (pa_cons (pe_cmpR op_eq (pv 3) pe_str (nomark _)) pa_nil)) (fun _ _ => rfl)) (nomark _))))) (pss_one (ps_ret pe_non)) pss_nil) (pss_one (ps_ret (pe_tup (pa_cons (pe_op op_catA (pe_tup (pa_cons (pv 3) pa_nil)) (pe_callTy call_tuple_of (by rfl) T.f_tuple (by decide +kernel) (pa_cons (pe_ix ix_tup (pv 6) pe_int (fun _ _ => rfl)) pa_nil))) (pa_cons (pe_ix ix_tup (pv 6) pe_int (fun _ _ => rfl)) pa_nil))))))) pss_nil) (pss_cons (ps_if (PW.pt (pw_or (pt_cmpR op_notIn_seq (pv 3) (pe_tup (pa_cons pe_str (pa_cons pe_str (pa_cons pe_str (pa_cons pe_str pa_nil))))) rfl) (pw_or1 (pt_cmpR op_ne (pe_slice sl_str (pv 0) (po_some (pv 1)) (po_some (pe_op op_add (pv 1) pe_int))) pe_str (nomark _))))) (pss_one (ps_ret pe_non)) pss_nil) (pss_cons (ps_set (i := 4) sc__law_call_in.nd rfl (by first | exact Or.inl rfl | exact Or.inr rfl) (pe_dD D__law_place_in hr (by first | decide | omega) (fun σ => L2N.passAt tk σ) (by rfl) (pa_cons (pv 0) (pa_cons (pe_op op_add (pv 1) pe_int) (pa_cons (pe_op op_sub (pv 2) pe_int) pa_nil))))) (pss_cons (ps_if (PW.pt (pw_and (pt_cmpR op_notN1 (pv 4) pe_non (nomark _)) (pw_and (pt_cmpR op_eq (pv 3) pe_str (nomark _)) (pw_and1 (pt_cmpR op_eq (pe_slice sl_str (pv 0) (po_some (pe_ix ix_tup (pv 4) pe_int (fun _ _ => rfl))) (po_some (pe_op op_add (pe_ix ix_tup (pv 4) pe_int (fun _ _ => rfl)) pe_int))) pe_str (nomark _)))))) (pss_cons (ps_set (i := 7) sc__law_call_in.nd rfl (by first | exact Or.inl rfl | exact Or.inr rfl) (pe_dD D__law_expr_in hr (by first | decide | omega) (fun σ => L2N.passAt tk σ) (by rfl) (pa_cons (pv 0) (pa_cons (pe_op op_add (pe_ix ix_tup (pv 4) pe_int (fun _ _ => rfl)) pe_int) (pa_cons (pe_op op_sub (pv 2) pe_int) pa_nil))))) (pss_one (ps_set (i := 4) sc__law_call_in.nd rfl (by first | exact Or.inl rfl | exact Or.inr rfl) (pe_ifExp (pt_cmpR op_isN1 (pv 7) pe_non (nomark _)) pe_non (pe_tup (pa_cons (pe_ix ix_tup (pv 4) pe_int (fun _ _ => rfl)) (pa_cons (pe_ix ix_tup (pv 7) pe_int (fun _ _ => rfl)) (pa_cons (pe_ix ix_tup (pv 7) pe_int (fun _ _ => rfl)) pa_nil)))))))) pss_nil) (pss_cons (ps_set (i := 5) sc__law_call_in.nd rfl (by first | exact Or.inl rfl | exact Or.inr rfl) (pe_op op_add pe_int (pe_callTy call_int1 (by rfl) T.f_int (by decide +kernel) (pa_cons (pe_cmpR op_eq (pv 3) pe_str (nomark _)) pa_nil)))) (pss_cons (ps_if (PW.pt (pw_or (pt_cmpR op_isN1 (pv 4) pe_non (nomark _)) (pw_or (pt_cmpR op_ne (pe_callB call_len (by rfl) T.f_len (by decide +kernel) (pa_cons (pv 4) pa_nil)) (pv 5) (nomark _)) (pw_or1 (pt_cmpR op_ne (pe_slice sl_str (pv 0) (po_some (pe_ix ix_tup (pv 4) (pe_un un_neg pe_int) (fun _ _ => rfl))) (po_some (pe_op op_add (pe_ix ix_tup (pv 4) (pe_un un_neg pe_int) (fun _ _ => rfl)) pe_int))) pe_str (nomark _)))))) (pss_one (ps_ret pe_non)) pss_nil) (pss_one (ps_ret (pe_tup (pa_cons (pe_op op_catA (pe_tup (pa_cons (pv 3) pa_nil)) (pe_slice sl_tupA (pv 4) po_none (po_some (pe_un un_neg pe_int)))) (pa_cons (pe_op op_add (pe_ix ix_tup (pv 4) (pe_un un_neg pe_int) (fun _ _ => rfl)) pe_int) pa_nil))))))))))))), ?_⟩
  have hs := sizeLine_eq
  generalize hY : (tSeq (tIfS (tOr (tTest (tOp (rIn _ true) _ _)) _) _ _) _) = Y
  walk_at "rd"
  refine ⟨z, i, _, rfl, hi, by omega, fun H1 s1 => ?_⟩
  have e1 : (fun c => decide (c ∈ tl (Str.ofString "abcdefghijklmnopqrstuvwxyz"))) = isLet := rfl
  rw [e1]
  have hwl := tw_len isLet (rem z i)
  rw [rem_len] at hwl
  have hwr : rem z (i + ((rem z i).takeWhile isLet).length) = (rem z i).dropWhile isLet := by rw [rem_drop, drop_takeW]
  have e0 := callR.eq_def (eU m) (eU m) (rem z i)
  rw [← hwr] at e0
  generalize hw : (rem z i).takeWhile isLet = t at *
  generalize hj1 : i + t.length = j1 at *
  have hij1 : i ≤ j1 := by omega
  have hj1z : j1 ≤ z.length := by omega
  refine ⟨t.length, ⟨by rw [st_len]; omega, (st_len _).symm⟩, by rw [hs]; decide, fun p np => ?_⟩
  have s2 := s1.trans (same_new (u := .tup [V.str (Str.ofString "length"), V.str (Str.ofString "piece"), V.str (Str.ofString "part")]) np)
  refine ⟨p, _, rfl, .inr (SqT.of upd_same), rfl, rfl, _, rfl, ?_⟩
  have ej : (i : Int) + (t.length : Int) = (j1 : Int) := by omega
  rw [ej]
  have eP : inV (V.str (St t)) [V.str (Str.ofString "length"), V.str (Str.ofString "piece"), V.str (Str.ofString "part")] = decide (St t ∈ [Str.ofString "length", Str.ofString "piece", Str.ofString "part"]) := inV_strs (St t) [Str.ofString "length", Str.ofString "piece", Str.ofString "part"]
  walk_at "rd"
  rw [eP]
  cases hc : callsN t with
  | some k0 =>
    rw [hc] at e0
    simp only at e0
    have hm := callsN_some hc
    rw [if_pos (decide_eq_true (by have := List.mem_map_of_mem (f := Prod.fst) hm; exact this))]
    refine ⟨z, j1, left - 1, rfl, ⟨by omega, hz, hok, by omega, by omega⟩, fun ps r he p3 v j3 H3 s3 np3 hp3 hv hr hj3 => ?_, fun he H3 s3 => ?_⟩
    · subst hr
      have hv' : Dp K (dif _ H3) v (.list (toDs ps)) := hv
      obtain ⟨a, xs, rfl, hL, hA⟩ := dp_list hv'
      have hL3 : SqL K H3 a xs := Same.seq dif_sub hL
      have hlen : xs.length = ps.length := by rw [DpAll.len hA, toDs_len]
      have s3' := s2.trans s3
      refine ⟨rfl, _, rfl, ?_⟩
      rw [if_neg (by simp)]
      refine ⟨p3, rfl, _, SqT.of hp3, _, atI_nat (j := 0) rfl, xs.length, .inl ⟨xs, hL3, rfl⟩, by rw [hs]; decide, fun p4 np4 => ⟨_, SqL.of upd_same, _, calls_at hc, rfl, ?_⟩⟩
      have t4 := same_new (u := .lst [V.int 3, V.int 1]) np4
      by_cases cl : ps.length = k0
      rotate_left
      · rw [if_pos (by show ¬ V.int (xs.length : Nat) = V.int (k0 : Nat); rw [hlen]; intro h; injection h with h; exact cl (by omega))]
        refine q2 ?_ _ (s3'.trans t4)
        rw [e0]
        unfold somePartsR at he
        split at he
        · rw [he]
          simp only
          rw [if_neg cl]
        · rename_i c
          unfold partsR
          rw [if_neg c]
      have hk0 := callsN_pos hc
      have c40 : (rem z j1).take 1 = [40] := by
        unfold somePartsR at he
        split at he
        · assumption
        · injection he with he
          injection he with h1 h2
          subst h1
          simp at cl
          omega
      unfold somePartsR at he
      rw [if_pos c40] at he
      rw [he] at e0
      simp only at e0
      rw [if_pos cl] at e0
      rw [if_neg (by show ¬ ¬ V.int (xs.length : Nat) = V.int (k0 : Nat); rw [hlen, cl]; exact fun h => h rfl)]
      have hxs : xs ≠ [] := fun h => by rw [h] at hlen; simp at hlen; omega
      have hle : ps.length ≤ z.length := by
        have h1 := partsR_sh (lvU_sh m).2 he
        have h2 := szS_len ps
        simp only [rem_len] at h1
        omega
      refine ⟨by rw [hs]; decide, fun p5 np5 => ⟨p3, rfl, _, SqT.of (same_new np5 _ _ (t4 _ _ hp3)), _, atI_nat (j := 0) rfl, a, rfl, xs, .inl ⟨Same.seq (t4.trans (same_new np5)) hL3, fun p6 np6 => ?_⟩⟩⟩
      have t5 := same_new (u := .tup [V.str (St t)]) np5
      have t6 := same_new (u := .tup xs) np6
      refine ⟨_, SqT.of (t6 _ _ upd_same), xs, SqT.of upd_same, by rw [hlen, hs]; simp; omega, fun h => (by cases h), fun _ h => absurd h hxs, fun _ _ p7 np7 => ⟨p3, rfl, _, SqT.of (same_new np7 _ _ (t6 _ _ (t5 _ _ (t4 _ _ hp3)))), _, atI_nat (j := 1) rfl, by rw [hs]; decide, fun p8 np8 => ?_⟩⟩
      have t7 := same_new (u := .tup ([V.str (St t)] ++ xs)) np7
      have S := ((s3'.trans t4).trans t5).trans t6
      refine q1 _ _ e0 p8 _ j3 _ ((S.trans t7).trans (same_new np8)) (none_of (S.trans t7) np8) upd_same ?_ rfl hj3
      show Dp K _ _ (Ex.toD _)
      rw [Ex.toD]
      exact .tup (SqT.of (dif_eq.mpr ⟨none_of S np7, same_new np8 _ _ upd_same⟩)) (.cons (.str _) (DpAll.same (dif_ext ((((t4.trans t5).trans t6).trans t7).trans (same_new np8))) (DpAll.same (dif_same s2) hA)))
    · refine ⟨rfl, _, rfl, ?_⟩
      rw [if_pos (by simp)]
      refine q2 ?_ _ (s2.trans s3)
      unfold somePartsR at he
      split at he
      · rw [e0, he]
      · cases he
  | none =>
    rw [hc] at e0
    simp only at e0
    rw [if_neg (by rw [decide_eq_true_eq]; exact callsN_none hc)]
    subst hY
    generalize hY4 : (tSeq (tAsg _ (gName 5)) _) = Y4
    generalize hY3 : (tSeq (tAsg _ (gName 4)) _) = Y3
    walk_at "rd"
    refine ⟨by rw [hs]; decide, fun p1 np1 => ⟨p1, _, rfl, .inr (SqT.of upd_same), rfl, rfl, _, rfl, ?_⟩⟩
    have t1 := same_new (u := .tup [V.str (Str.ofString "order"), V.str (Str.ofString "back"), V.str (Str.ofString "data"), V.str (Str.ofString "other")]) np1
    have s3 := s2.trans t1
    walk_at "rd"
    rw [inW4]
    by_cases hk : (isPlaceW t || decide (t = tl (Str.ofString "other"))) = true
    rotate_left
    · rw [if_pos (by simpa using hk)]
      refine q2 ?_ _ s3
      rw [e0]
      exact if_neg hk
    rw [if_neg (by rw [hk]; decide)]
    rw [if_pos hk] at e0
    refine ⟨by rw [hs]; omega, ?_⟩
    rw [cutS_one hj1z, sc_lp]
    by_cases c40 : (rem z j1).take 1 = [40]
    rotate_left
    · rw [if_pos (fun h => c40 (st_inj h))]
      refine q2 ?_ _ s3
      rw [e0]
      exact if_neg c40
    rw [if_neg (fun h => h (by rw [c40]))]
    rw [if_pos c40, d1] at e0
    have hlj := tk1 c40
    rw [d1, rem_len, rem_len] at hlj
    have finN : ∀ (H' : Hp) (u : Option V), Q V.non H' → Y4 { nx := fun x H' => Q V.non H', rt := Q } [some (V.str z), some (V.int ↑j1), some (V.int left), some (V.str (St t)), some V.non, none, none, u] H' := by
      intro H' u q
      rw [← hY4]
      walk_at "rd"
      refine ⟨rfl, _, rfl, ?_⟩
      rw [if_pos (by simp)]
      exact q
    have finO : t = tl (Str.ofString "other") → ∀ (H' : Hp) (u : Option V) (q : Addr) (v : V) (j4 : Nat), H' q = some (.tup [v, .int (j4 : Int)]) → Q V.non H' → Y4 { nx := fun x H' => Q V.non H', rt := Q } [some (V.str z), some (V.int ↑j1), some (V.int left), some (V.str (St t)), some (V.ref q), none, none, u] H' := by
      intro ho H' u q v j4 hq hno
      rw [← hY4]
      walk_at "rd"
      refine ⟨rfl, _, rfl, ?_⟩
      rw [if_neg (by simp)]
      refine ⟨2, .inr ⟨_, SqT.of hq, rfl⟩, ?_⟩
      rw [if_pos (show St t = Str.ofString "other" by rw [st_w]; exact ho), if_pos (by decide)]
      exact hno
    have finT : t ≠ tl (Str.ofString "other") → ∀ (H' : Hp) (u : Option V) (q : Addr) (v : V) (j4 : Nat), H' q = some (.tup [v, .int (j4 : Int)]) → j4 ≤ z.length → (¬ (rem z j4).take 1 = [41] → Q V.non H') →
        ((rem z j4).take 1 = [41] → ∀ (a p5 : Addr) (H5 : Hp), Same H' H5 → H5 a = some (.tup [V.str (St t), v]) → H' a = none → H' p5 = none → H5 p5 = some (.tup [.ref a, .int ((j4 + 1 : Nat) : Int)]) → Q (.ref p5) H5) →
        Y4 { nx := fun x H' => Q V.non H', rt := Q } [some (V.str z), some (V.int ↑j1), some (V.int left), some (V.str (St t)), some (V.ref q), none, none, u] H' := by
      intro ho H' u q v j4 hq hj4 hno hyes
      rw [← hY4]
      walk_at "rd"
      refine ⟨rfl, _, rfl, ?_⟩
      rw [if_neg (by simp)]
      refine ⟨2, .inr ⟨_, SqT.of hq, rfl⟩, ?_⟩
      rw [if_neg (show ¬ St t = Str.ofString "other" from fun h => ho (by rw [st_w] at h; exact h)), if_neg (by decide)]
      refine ⟨1, rfl, _, -1, rfl, SqT.of hq, V.int (j4 : Int), by rfl, _, rfl, 1, rfl, _, -1, rfl, SqT.of hq, V.int (j4 : Int), by rfl, _, rfl, by rw [hs]; omega, ?_⟩
      rw [cutS_one hj4, sc_rp]
      by_cases c41 : (rem z j4).take 1 = [41]
      rotate_left
      · rw [if_pos (fun h => c41 (st_inj h))]
        exact hno c41
      rw [if_neg (fun h => h (by rw [c41]))]
      refine ⟨by rw [hs]; decide, fun p6 np6 => ⟨1, rfl, -1, rfl, ?_⟩⟩
      have u6 := same_new (u := .tup [V.str (St t)]) np6
      refine ⟨_, SqT.of (u6 _ _ hq), fun h => absurd h.2 (by show ¬ HT.sIx 2 2 (some (-1)) = 2; decide), fun _ p7 np7 => ?_⟩
      have u7 := same_new (u := .tup [v]) np7
      refine ⟨_, SqT.of (u7 _ _ upd_same), [v], SqT.of upd_same, by rw [hs]; show 1 + 1 ≤ 16777216; decide, fun h => (by cases h), fun _ h => (by cases h), fun _ _ p8 np8 => ⟨1, rfl, _, -1, rfl, SqT.of (same_new np8 _ _ (u7 _ _ (u6 _ _ hq))), V.int (j4 : Int), by rfl, _, rfl, by rw [hs]; decide, fun p9 np9 => ?_⟩⟩
      have u8 := same_new (u := .tup ([V.str (St t)] ++ [v])) np8
      exact hyes c41 p8 p9 _ (((u6.trans u7).trans u8).trans (same_new np9)) (same_new np9 _ _ upd_same) (none_of (u6.trans u7) np8) (none_of ((u6.trans u7).trans u8) np9) upd_same
    have finX : t = tl (Str.ofString "other") → ∀ (H' : Hp) (u : Option V) (q : Addr) (v v2 : V) (j4 : Nat), H' q = some (.tup [v, v2, .int (j4 : Int)]) → j4 ≤ z.length → (¬ (rem z j4).take 1 = [41] → Q V.non H') →
        ((rem z j4).take 1 = [41] → ∀ (a p5 : Addr) (H5 : Hp), Same H' H5 → H5 a = some (.tup [V.str (St t), v, v2]) → H' a = none → H' p5 = none → H5 p5 = some (.tup [.ref a, .int ((j4 + 1 : Nat) : Int)]) → Q (.ref p5) H5) →
        Y4 { nx := fun x H' => Q V.non H', rt := Q } [some (V.str z), some (V.int ↑j1), some (V.int left), some (V.str (St t)), some (V.ref q), none, none, u] H' := by
      intro ho H' u q v v2 j4 hq hj4 hno hyes
      rw [← hY4]
      walk_at "rd"
      refine ⟨rfl, _, rfl, ?_⟩
      rw [if_neg (by simp)]
      refine ⟨3, .inr ⟨_, SqT.of hq, rfl⟩, ?_⟩
      rw [if_pos (show St t = Str.ofString "other" from by rw [st_w]; exact ho), if_neg (by decide)]
      refine ⟨1, rfl, _, -1, rfl, SqT.of hq, V.int (j4 : Int), by rfl, _, rfl, 1, rfl, _, -1, rfl, SqT.of hq, V.int (j4 : Int), by rfl, _, rfl, by rw [hs]; omega, ?_⟩
      rw [cutS_one hj4, sc_rp]
      by_cases c41 : (rem z j4).take 1 = [41]
      rotate_left
      · rw [if_pos (fun h => c41 (st_inj h))]
        exact hno c41
      rw [if_neg (fun h => h (by rw [c41]))]
      refine ⟨by rw [hs]; decide, fun p6 np6 => ⟨1, rfl, -1, rfl, ?_⟩⟩
      have u6 := same_new (u := .tup [V.str (St t)]) np6
      refine ⟨_, SqT.of (u6 _ _ hq), fun h => absurd h.2 (by show ¬ HT.sIx 3 3 (some (-1)) = 3; decide), fun _ p7 np7 => ?_⟩
      have u7 := same_new (u := .tup [v, v2]) np7
      refine ⟨_, SqT.of (u7 _ _ upd_same), [v, v2], SqT.of upd_same, by rw [hs]; show 1 + 2 ≤ 16777216; decide, fun h => (by cases h), fun _ h => (by cases h), fun _ _ p8 np8 => ⟨1, rfl, _, -1, rfl, SqT.of (same_new np8 _ _ (u7 _ _ (u6 _ _ hq))), V.int (j4 : Int), by rfl, _, rfl, by rw [hs]; decide, fun p9 np9 => ?_⟩⟩
      have u8 := same_new (u := .tup ([V.str (St t)] ++ [v, v2])) np8
      exact hyes c41 p8 p9 _ (((u6.trans u7).trans u8).trans (same_new np9)) (same_new np9 _ _ upd_same) (none_of (u6.trans u7) np8) (none_of ((u6.trans u7).trans u8) np9) upd_same
    subst hY3
    walk_at "rd"
    refine ⟨z, j1 + 1, left - 1, rfl, ⟨by omega, hz, hok, by omega, by omega⟩, fun e r he q v j2 H4 s4 npq hq hv hr hj2 => ?_, fun he H4 s4 => ?_⟩
    rotate_left
    · rw [he] at e0
      refine ⟨rfl, _, rfl, ?_⟩
      rw [if_neg (by simp)]
      exact finN _ _ (q2 e0 _ (s3.trans s4))
    subst hr
    have hsh := placeR_sh (lvU_sh m).2 _ _ _ he
    rw [rem_len, rem_len] at hsh
    rw [he] at e0
    simp only at e0
    have s34 := s3.trans s4
    refine ⟨rfl, _, rfl, ?_⟩
    rw [if_pos (by simp)]
    by_cases ho : t = tl (Str.ofString "other")
    rotate_left
    · rw [if_neg (show ¬ St t = Str.ofString "other" from fun h => ho (by rw [st_w] at h; exact h))]
      rw [if_neg ho] at e0
      refine finT ho _ _ q v j2 hq hj2 (fun c => q2 (by rw [e0]; exact if_neg c) _ s34) (fun c a p5 H5 s5 ha na np5 hp5 => ?_)
      rw [if_pos c, d1] at e0
      have hlc := tk1 c
      rw [d1, rem_len, rem_len] at hlc
      refine q1 _ _ e0 p5 _ (j2 + 1) H5 (s34.trans s5) (none_of s34 np5) hp5 ?_ rfl (by omega)
      show Dp K _ _ (Ex.toD _)
      rw [Ex.toD, toDs, toDs]
      exact .tup (SqT.of (dif_eq.mpr ⟨none_of s34 na, ha⟩)) (.cons (.str _) (.cons (Dp.same (dif_ext s5) (Dp.same (dif_same s3) hv)) .nil))
    rw [if_pos (show St t = Str.ofString "other" by rw [st_w]; exact ho)]
    rw [if_pos ho] at e0
    refine ⟨q, rfl, _, SqT.of hq, _, atI_nat (j := 1) rfl, _, rfl, q, rfl, _, SqT.of hq, _, atI_nat (j := 1) rfl, _, rfl, by rw [hs]; omega, ?_⟩
    rw [cutS_one hj2, sc_co]
    by_cases c44 : (rem z j2).take 1 = [44]
    rotate_left
    · rw [if_neg (fun h => c44 (st_inj h))]
      exact finO ho _ _ q v j2 hq (q2 (by rw [e0]; exact if_neg c44) _ s34)
    rw [if_pos (by rw [c44])]
    rw [if_pos c44, d1] at e0
    have hlc := tk1 c44
    rw [d1, rem_len, rem_len] at hlc
    refine ⟨q, rfl, _, SqT.of hq, _, atI_nat (j := 1) rfl, _, rfl, z, j2 + 1, left - 1, rfl, ⟨by omega, hz, hok, by omega, by omega⟩, fun e2 r2 he2 q5 v2 j3 H5 s5 npq5 hq5 hv2 hr2 hj3 => ?_, fun he2 H5 s5 => ?_⟩
    rotate_left
    · rw [he2] at e0
      refine ⟨rfl, _, rfl, ?_⟩
      rw [if_pos (by simp)]
      exact finN _ _ (q2 e0 _ (s34.trans s5))
    subst hr2
    rw [he2] at e0
    simp only at e0
    refine ⟨rfl, _, rfl, ?_⟩
    rw [if_neg (by simp)]
    refine ⟨q, rfl, _, SqT.of (s5 _ _ hq), _, atI_nat (j := 0) rfl, q5, rfl, _, SqT.of hq5, _, atI_nat (j := 0) rfl, q5, rfl, _, SqT.of hq5, _, atI_nat (j := 1) rfl, by rw [hs]; decide, fun p6 np6 => ?_⟩
    have u6 := same_new (u := .tup [v, v2, V.int (j3 : Int)]) np6
    have s36 := (s34.trans s5).trans u6
    refine finX ho _ _ p6 v v2 j3 upd_same hj3 (fun c => q2 (by rw [e0]; exact if_neg c) _ s36) (fun c a p7 H7 s7 ha na np7 hp7 => ?_)
    rw [if_pos c, d1] at e0
    have hlc := tk1 c
    rw [d1, rem_len, rem_len] at hlc
    refine q1 _ _ e0 p7 _ (j3 + 1) H7 (s36.trans s7) (none_of s36 np7) hp7 ?_ rfl (by omega)
    show Dp K _ _ (Ex.toD _)
    rw [Ex.toD, toDs, toDs, toDs]
    exact .tup (SqT.of (dif_eq.mpr ⟨none_of s36 na, ha⟩)) (.cons (.str _) (.cons (Dp.same (dif_ext ((s5.trans u6).trans s7)) (Dp.same (dif_same s3) hv)) (.cons (Dp.same (dif_ext (u6.trans s7)) (Dp.same (dif_same s34) hv2)) .nil)))
end
end Sk

/-! ## L53f -/
namespace Sk
open PySem PySem.Spec PyProof.Rows L2
set_option hygiene false in
local macro_rules | `(tactic| walk_at "rd") => `(tactic| simp only [tVar, tC, tB, tAnd, tOr, tNot, tAndV, tOrV, tNotV, tIf, tNext, tSeq, tBreak, tCont, tDrop, tRet, tRetN, tIfS, tAsg, tAug, tOp, tUn, tTest, tChain, tFld, sFldAug, sFld, rAdd, tNil, tCons, tTup, tLst, tCB, tNoPart, tPart, tSl, tBM0, tBM, tYes, tM0, tM1, CwR.tReplC, tCallS, tMethS, tMakeS, gName, wipe, tyV, gTup, gCons, gNil,
  rI, rI0, rEq, rNe, scal, rPlus, rPlusI, rPlusS, rCat, rCatA, rIx, rIxL, rIxT, rIxS, rSl, rSlS, rSlL, rSlA, iPlus, iPlusI, iPlusS, ipI, rAll, rAny, LenV, WE, E0, rAppend,
  L2.start, List.map_cons, List.map_nil, List.length_cons, List.length_nil, Nat.zero_add, Nat.add_zero, Nat.reduceAdd, Nat.reduceSub, Nat.sub_self, List.replicate_zero, List.replicate_succ, List.append_nil, List.nil_append, List.cons_append, List.getElem?_cons_zero, List.getElem?_cons_succ, List.set_cons_zero, List.set_cons_succ, Option.some.injEq,
  V.int.injEq, V.str.injEq, V.bl.injEq, V.ref.injEq, V.ty.injEq, HO.ins.injEq, HO.lst.injEq, HO.tup.injEq, List.cons.injEq, reduceCtorEq, false_and, and_false, true_and, and_true, and_assoc, exists_const, exists_false, false_or, or_false, exists_eq_left', exists_eq_left, exists_eq_right, exists_eq_right', exists_and_left, ↓reduceIte, decide_eq_true_eq, Bool.not_eq_true', decide_eq_false_iff_not, if_true, if_false, cxOf, and_self, Bool.not_true, Bool.not_false, Bool.false_eq_true,
  sf_signs, sf_spot, sf_put, T.cl_Source, T.na_Source_signs, T.na_Source_spot, sg_inj, upd_same, rIsS, tyN, kb1, kb2, kb3, kb4, kb5, kb6, kb7, kb8, kb9, kb10, kb11, kb12, kb13, kb14, kb15, kb16, kb17, kb18, kb19, kb20, kb21, tDNewK, rPowW, gStar, gUnl, tLenSetU, tDGet, tDIn, sDPut, tJs, tFmt])
section
variable {P : Program} {w : World} {K : PySem.W.Frag} {mg : Str → Option Value} {base : Heap}
theorem opsT_end {U : Rd1 Ex} {k : Nat} {f : Ex} {l : Tx} (h : ¬ (l.take 1).any isOp = true) : opsTail U k f l = some (f, l) := by
  cases k with
  | zero => rw [opsTail, if_neg h]
  | succ k => rw [opsTail, if_neg h]
theorem opsT_more {U : Rd1 Ex} {k : Nat} {f : Ex} {c : Nat} {l : Tx} (h : isOp c = true) : opsTail U (k + 1) f (c :: l) = match U l with
    | some (e, r) => opsTail U k (.op c f e) r
    | none => none := by
  rw [opsTail, if_pos (by simpa using h)]
  rfl
def ExL (K : PySem.W.Frag) (m : Nat) (z : Str) (i : Nat) (H : Hp) (left : Int) (fv : V) (g : Nat) (H' : Hp) : Prop :=
  (fv = .non ∧ g = 0 ∧ eU (m + 1) (rem z i) = none) ∨ (∃ (q : Addr) (v : V) (j k : Nat) (f : Ex), fv = .ref q ∧ H' q = some (.tup [v, .int (j : Int)]) ∧ H q = none ∧ Dp K (dif H H') v f.toD ∧ i ≤ j ∧ j ≤ z.length ∧ ((z.length - j : Nat) : Int) < left ∧ g = z.length - j + 1 ∧ (rem z j).length ≤ k ∧ eU (m + 1) (rem z i) = opsTail (uU m) k f (rem z j))
def ExLW (K : PySem.W.Frag) (m : Nat) (z : Str) (i : Nat) (H : Hp) (g : Nat) (σ' : SS) (H' : Hp) : Prop := ∃ (left : Int) (fv : V) (u1 u2 : Option V), σ' = [some (.str z), some (.int (i : Int)), some (.int left), some fv, u1, u2] ∧ Same H H' ∧ ExL K m z i H left fv g H'
def ExLN (K : PySem.W.Frag) (m : Nat) (z : Str) (i : Nat) (H : Hp) (g : Nat) (σ' : SS) (H' : Hp) : Prop := ∃ g', g' < g ∧ ExLW K m z i H g' σ' H'
theorem sc__law_expr_in : FnScope ["text", "at", "left", "found", "second", "op"] ["text", "at", "left"] (defScope s__law_expr_in) := ⟨rfl, rfl, rfl, by decide +kernel, rfl, by decide +kernel, by decide +kernel⟩
theorem ok__law_expr_in (T : Hd w K mg) {k m n : Nat} (D__law_single_in : DnD P w K mg base k "_law_single_in" (spSgL K (m + 1) (n + 1))) (D__law_under_in : DnD P w K mg base k "_law_under_in" (spUnL K m n)) : DnD P w K mg base (k + 1) "_law_expr_in" (spExL K (m + 1) (n + 1)) := by
  obtain ⟨fd, F⟩ := T.fn__law_expr_in
  refine dnD_mk F T.g__law_expr_in (F.binds (ps := ["text", "at", "left"]) fun _ _ _ _ _ _ us hl => match us, hl with | [_, _, _], _ => rfl) sc__law_expr_in (fun vs H Q E h => ?_) (fun cdv A outer s H vs Q E hr tk h => ?_)
  · obtain ⟨z, i, left, rfl, ⟨hi, hz, hok, hn, hl⟩, q1, q2⟩ := h
    rfl
  obtain ⟨z, i, left, rfl, ⟨hi, hz, hok, hn, hl⟩, q1, q2⟩ := h
  refine ⟨_, (pss_cons (ps_set (i := 3) sc__law_expr_in.nd rfl (by first | exact Or.inl rfl | exact Or.inr rfl) (pe_dD D__law_single_in hr (by first | decide | omega) (fun σ => L2N.passAt tk σ) (by rfl) (pa_cons (pv 0) (pa_cons (pv 1) (pa_cons (pv 2) pa_nil))))) (pss_cons (ps_while (passes_of rfl) (PW.pt (pw_and (pt_cmpR op_notN1 (pv 3) pe_non (nomark _)) (pw_and (pt_cmpR op_lt (pe_ix ix_tup (pv 3) pe_int (fun _ _ => rfl)) (pe_callB call_len (by rfl) T.f_len (by decide +kernel) (pa_cons (pv 0) pa_nil)) (nomark _)) (pw_and1 (pt_cmpR op_in_sign (pe_ix ix_str (pv 0) (pe_ix ix_tup (pv 3) pe_int (fun _ _ => rfl)) (fun _ _ => rfl)) pe_str rfl))))) (pss_cons (ps_set (i := 2) sc__law_expr_in.nd rfl (by first | exact Or.inl rfl | exact Or.inr rfl) (pe_op op_sub (pv 2) pe_int)) (pss_cons (ps_set (i := 4) sc__law_expr_in.nd rfl (by first | exact Or.inl rfl | exact Or.inr rfl) (pe_ifExp (pt_cmpR op_gt (pv 2) pe_int (nomark _)) (pe_dD D__law_under_in hr (by first | decide | omega) (fun σ => L2N.passAt tk σ) (by rfl) (pa_cons (pv 0) (pa_cons (pe_op op_add (pe_ix ix_tup (pv 3) pe_int (fun _ _ => rfl)) pe_int) (pa_cons (pv 2) pa_nil)))) pe_non)) (pss_cons (ps_set (i := 5) sc__law_expr_in.nd rfl (by first | exact Or.inl rfl | exact Or.inr rfl) (pe_tup (pa_cons pe_str (pa_cons (pe_ix ix_str (pv 0) (pe_ix ix_tup (pv 3) pe_int (fun _ _ => rfl)) (fun _ _ => rfl)) (pa_cons (pe_ix ix_tup (pv 3) pe_int (fun _ _ => rfl)) pa_nil))))) (pss_one (ps_set (i := 3) sc__law_expr_in.nd rfl (by first | exact Or.inl rfl | exact Or.inr rfl) (pe_ifExp (pt_cmpR op_isN1 (pv 4) pe_non (nomark _)) pe_non (pe_tup (pa_cons (pe_op op_catA (pv 5) (pe_tup (pa_cons (pe_ix ix_tup (pv 4) pe_int (fun _ _ => rfl)) pa_nil))) (pa_cons (pe_ix ix_tup (pv 4) pe_int (fun _ _ => rfl)) pa_nil)))))))))) (pss_one (ps_ret (pv 3))))), ?_⟩
  have hs := sizeLine_eq
  walk_at "rd"
  have e0 : eU (m + 1) (rem z i) = _ := exprU.eq_def (sU (m + 1)) (uU m) (rem z i)
  generalize hD : (L2.Ends.mk _ _ _ _) = D
  generalize hW : tWhile _ _ = W
  have key : ∀ (g : Nat) (fv : V) (H1 : Hp), Same H H1 → ExL K m z i H left fv g H1 → W D [some (V.str z), some (V.int (i : Int)), some (V.int left), some fv, none, none] H1 := by
    intro g fv H1 s1 hx
    rw [← hW]
    refine while_w (ExLW K m z i H) g ⟨left, fv, none, none, rfl, s1, hx⟩ ?_
    clear hx s1 fv H1 g
    rintro g σ H1 ⟨left, fv, u1, u2, rfl, s1, hx⟩
    rcases hx with ⟨rfl, rfl, hx⟩ | ⟨q, v, j, k, f, rfl, hq, nq, hv, hij, hj, hlf, rfl, hk, e4⟩
    · subst hD
      walk_at "rd"
      refine ⟨rfl, _, rfl, ?_⟩
      rw [if_neg (by simp)]
      exact q2 hx _ s1
    · subst hD
      walk_at "rd"
      refine ⟨rfl, _, rfl, ?_⟩
      rw [if_pos (by simp)]
      refine ⟨_, SqT.of hq, _, atI_nat (j := 1) rfl, by rw [hs]; omega, _, rfl, ?_⟩
      by_cases hjl : j < z.length
      rotate_left
      · rw [if_neg (by omega)]
        rw [opsT_end (by rw [rem_nil (by omega)]; simp)] at e4
        exact q1 _ _ e4 q v j H1 s1 nq hq hv rfl hj
      rw [if_pos (by omega)]
      obtain ⟨c, hc⟩ := rem_cons hjl
      refine ⟨_, SqT.of hq, _, atI_nat (j := 1) rfl, _, rfl, by rw [hs]; omega, c, atI_nat (rem_at hc), ?_⟩
      have e9 : (c ∈ (Str.ofString "+-*/#<>=_[]&!").cps.toList) = (isOp c = true) := by unfold isOp opsL; rw [decide_eq_true_eq]; rfl
      simp only [e9]
      by_cases hop : isOp c = true
      rotate_left
      · rw [if_neg hop]
        rw [opsT_end (by rw [hc]; simpa using hop)] at e4
        exact q1 _ _ e4 q v j H1 s1 nq hq hv rfl hj
      rw [if_pos hop]
      rw [rem_len] at hk
      obtain ⟨k, rfl⟩ : ∃ k', k = k' + 1 := ⟨k - 1, by omega⟩
      rw [hc, opsT_more hop] at e4
      refine ⟨ExLN K m z i H (z.length - j + 1), fun σ' H' h => h, ?_⟩
      rw [if_pos (by omega)]
      refine ⟨_, SqT.of hq, _, atI_nat (j := 1) rfl, _, rfl, z, j + 1, left - 1, rfl, ⟨hjl, hz, hok, by omega, by omega⟩, fun e2 r2 he2 q5 v2 j2 H2 s2 np2 hq2 hv2 hr2 hj2 => ?_, fun he2 H2 s2 => ?_⟩
      · subst hr2
        rw [he2] at e4
        simp only at e4
        have he2' : underR (sU m) (eU m) (rem z (j + 1)) = some (e2, rem z j2) := he2
        have hsh := underR_sh (lvU_sh m).1 (lvU_sh m).2 _ _ _ he2'
        rw [rem_len, rem_len] at hsh
        have hsz := sz_pos e2
        refine ⟨_, SqT.of (s2 _ _ hq), _, atI_nat (j := 1) rfl, _, rfl, by rw [hs]; omega, c, atI_nat (rem_at hc), _, SqT.of (s2 _ _ hq), _, atI_nat (j := 0) rfl, by rw [hs]; decide, fun p6 np6 => ⟨rfl, _, rfl, ?_⟩⟩
        rw [if_neg (by simp)]
        have u6 := same_new (u := .tup [V.str (Str.ofString "op"), V.str ⟨#[c]⟩, v]) np6
        refine ⟨q5, rfl, _, SqT.of (u6 _ _ hq2), _, atI_nat (j := 0) rfl, by rw [hs]; decide, fun p7 np7 => ?_⟩
        have u7 := same_new (u := .tup [v2]) np7
        refine ⟨_, SqT.of (u7 _ _ upd_same), _, SqT.of upd_same, by rw [hs]; show 3 + 1 ≤ 16777216; decide, fun h => (by cases h), fun _ h => (by cases h), fun _ _ p8 np8 => ?_⟩
        have u8 := same_new (u := .tup ([V.str (Str.ofString "op"), V.str ⟨#[c]⟩, v] ++ [v2])) np8
        have S := (((s1.trans s2).trans u6).trans u7)
        refine ⟨q5, rfl, _, SqT.of (u8 _ _ (u7 _ _ (u6 _ _ hq2))), _, atI_nat (j := 1) rfl, by rw [hs]; decide, fun p9 np9 => ?_⟩
        refine ⟨z.length - j2 + 1, by omega, left - 1, .ref p9, _, _, rfl, (S.trans u8).trans (same_new np9), .inr ⟨p9, .ref p8, j2, k, .op c f e2, rfl, upd_same, none_of (S.trans u8) np9, ?_, by omega, hj2, by omega, rfl, by rw [rem_len]; omega, e4⟩⟩
        rw [Ex.toD]
        exact .tup (SqT.of (dif_eq.mpr ⟨none_of S np8, same_new np9 _ _ upd_same⟩)) (.cons (.str _) (.cons (.str _) (.cons (Dp.same (dif_ext ((((s2.trans u6).trans u7).trans u8).trans (same_new np9))) hv) (.cons (Dp.same (dif_ext (((u6.trans u7).trans u8).trans (same_new np9))) (Dp.same (dif_same s1) hv2)) .nil))))
      · rw [he2] at e4
        refine ⟨_, SqT.of (s2 _ _ hq), _, atI_nat (j := 1) rfl, _, rfl, by rw [hs]; omega, c, atI_nat (rem_at hc), _, SqT.of (s2 _ _ hq), _, atI_nat (j := 0) rfl, by rw [hs]; decide, fun p6 np6 => ⟨rfl, _, rfl, ?_⟩⟩
        rw [if_pos (by simp)]
        exact ⟨0, by omega, left - 1, .non, _, _, rfl, (s1.trans s2).trans (same_new np6), .inl ⟨rfl, rfl, e4⟩⟩
  refine ⟨z, i, left, rfl, ⟨hi, hz, hok, hn, hl⟩, fun e r he p v j H1 s1 np hp hv hr hj => ?_, fun he H1 s1 => ?_⟩
  · subst hr
    have hsh := (lvU_sh (m + 1)).1 _ _ _ he
    rw [rem_len, rem_len] at hsh
    have hsz := sz_pos e
    rw [he] at e0
    exact key _ _ H1 s1 (.inr ⟨p, v, j, _, e, rfl, hp, np, hv, by omega, hj, by omega, rfl, Nat.le_refl _, e0⟩)
  · rw [he] at e0
    exact key _ _ H1 s1 (.inl ⟨rfl, rfl, e0⟩)
theorem DnD.f_single (T : Hd w K mg) (k : Nat) : DnD P w K mg base k "_law_single_in" (fun _ _ _ _ => False) := by
  obtain ⟨fd, F⟩ := T.fn__law_single_in
  exact ⟨_, fd, ["text", "at", "left"], ⟨fun _ _ _ _ h => h.elim, fun _ _ _ _ _ _ _ _ _ _ _ _ _ h => h.elim⟩, T.g__law_single_in, F.kp, F.binds (ps := ["text", "at", "left"]) fun _ _ _ _ _ _ us hl => match us, hl with | [_, _, _], _ => rfl⟩
theorem DnD.f_expr (T : Hd w K mg) (k : Nat) : DnD P w K mg base k "_law_expr_in" (fun _ _ _ _ => False) := by
  obtain ⟨fd, F⟩ := T.fn__law_expr_in
  exact ⟨_, fd, ["text", "at", "left"], ⟨fun _ _ _ _ h => h.elim, fun _ _ _ _ _ _ _ _ _ _ _ _ _ h => h.elim⟩, T.g__law_expr_in, F.kp, F.binds (ps := ["text", "at", "left"]) fun _ _ _ _ _ _ us hl => match us, hl with | [_, _, _], _ => rfl⟩
theorem DnD.f_place (T : Hd w K mg) (k : Nat) : DnD P w K mg base k "_law_place_in" (fun _ _ _ _ => False) := by
  obtain ⟨fd, F⟩ := T.fn__law_place_in
  exact ⟨_, fd, ["text", "at", "left"], ⟨fun _ _ _ _ h => h.elim, fun _ _ _ _ _ _ _ _ _ _ _ _ _ h => h.elim⟩, T.g__law_place_in, F.kp, F.binds (ps := ["text", "at", "left"]) fun _ _ _ _ _ _ us hl => match us, hl with | [_, _, _], _ => rfl⟩
def RdP (P : Program) (w : World) (K : PySem.W.Frag) (mg : Str → Option Value) (base : Heap) (n : Nat) : Prop := ∀ m, n ≤ m → DnD P w K mg base (2 * n + 6) "_law_single_in" (spSgL K m n) ∧ DnD P w K mg base (2 * n + 7) "_law_expr_in" (spExL K m n) ∧ DnD P w K mg base (2 * n + 5) "_law_place_in" (spPlL K m n)
theorem rd_chain (T : Hd w K mg) : ∀ n : Nat, RdP P w K mg base n ∧ RdP P w K mg base (n - 1)
  | 0 => by
    have h : RdP P w K mg base 0 := fun m _ => by
      refine ⟨(DnD.f_single T _).imp fun vs H Q E h => ?_, (DnD.f_expr T _).imp fun vs H Q E h => ?_, (DnD.f_place T _).imp fun vs H Q E h => ?_⟩ <;>
      · obtain ⟨z, i, left, _, ha, _⟩ := h
        have := ha.2.2.2.1
        omega
    exact ⟨h, h⟩
  | n + 1 => by
    obtain ⟨hn, hp⟩ := rd_chain T n
    refine ⟨fun m1 hm1 => ?_, hn⟩
    have he : ∀ m, n - 1 ≤ m → DnD P w K mg base (2 * n + 5) "_law_expr_in" (spExL K m (n - 1)) := fun m hm => by
      cases n with
      | zero =>
        refine (DnD.f_expr T _).imp fun vs H Q E h => ?_
        obtain ⟨z, i, left, _, ha, _⟩ := h
        have := ha.2.2.2.1
        omega
      | succ n => exact (hp m hm).2.1
    have hrun := ok__law_run (P := P) (base := base) T
    have hname := ok__law_name_in (P := P) (base := base) T hrun
    have hpa : ∀ m, n - 1 ≤ m → DnD P w K mg base (2 * n + 6) "_law_parts_in" (spPaL K m n) := fun m hm => ok__law_parts_in T (he m hm)
    have hpl : ∀ m, n - 1 ≤ m → DnD P w K mg base (2 * n + 7) "_law_place_in" (spPlL K m (n + 1)) := fun m hm => ok__law_place_in T (by omega) hname (hpa m hm)
    obtain ⟨m, rfl⟩ : ∃ m, m1 = m + 1 := ⟨m1 - 1, by omega⟩
    obtain ⟨hs, _, hplc⟩ := hn m (by omega)
    have hun : DnD P w K mg base (2 * n + 7) "_law_under_in" (spUnL K m n) := ok__law_under_in T hs ((he m (by omega)).mono (by omega))
    have hca : DnD P w K mg base (2 * n + 7) "_law_call_in" (spCaL K m n) := ok__law_call_in T (by omega) hrun (hpa m (by omega)) (hplc.mono (by omega)) ((he m (by omega)).mono (by omega))
    have hsi : DnD P w K mg base (2 * n + 8) "_law_single_in" (spSgL K (m + 1) (n + 1)) := ok__law_single_in T (by omega) (ok__law_worth_in T hrun (ok__law_is_own T) (ok__law_quoted T (ok__law_signs T))) hun hca (hpl m (by omega))
    exact ⟨hsi, ok__law_expr_in T hsi (hun.mono (by omega)), hpl (m + 1) (by omega)⟩
end
end Sk

/-! ## L53g -/
namespace Sk
open PySem PySem.Spec PyProof.Rows L2
set_option hygiene false in
local macro_rules | `(tactic| walk_at "rd") => `(tactic| simp only [tVar, tC, tB, tAnd, tOr, tNot, tAndV, tOrV, tNotV, tIf, tNext, tSeq, tBreak, tCont, tDrop, tRet, tRetN, tIfS, tAsg, tAug, tOp, tUn, tTest, tChain, tFld, sFldAug, sFld, rAdd, tNil, tCons, tTup, tLst, tCB, tNoPart, tPart, tSl, tBM0, tBM, tYes, tM0, tM1, CwR.tReplC, tCallS, tMethS, tMakeS, gName, wipe, tyV, gTup, gCons, gNil,
  rI, rI0, rEq, rNe, scal, rPlus, rPlusI, rPlusS, rCat, rCatA, rIx, rIxL, rIxT, rIxS, rSl, rSlS, rSlL, rSlA, iPlus, iPlusI, iPlusS, ipI, rAll, rAny, LenV, WE, E0, rAppend,
  L2.start, List.map_cons, List.map_nil, List.length_cons, List.length_nil, Nat.zero_add, Nat.add_zero, Nat.reduceAdd, Nat.reduceSub, Nat.sub_self, List.replicate_zero, List.replicate_succ, List.append_nil, List.nil_append, List.cons_append, List.getElem?_cons_zero, List.getElem?_cons_succ, List.set_cons_zero, List.set_cons_succ, Option.some.injEq,
  V.int.injEq, V.str.injEq, V.bl.injEq, V.ref.injEq, V.ty.injEq, HO.ins.injEq, HO.lst.injEq, HO.tup.injEq, List.cons.injEq, reduceCtorEq, false_and, and_false, true_and, and_true, and_assoc, exists_const, exists_false, false_or, or_false, exists_eq_left', exists_eq_left, exists_eq_right, exists_eq_right', exists_and_left, ↓reduceIte, decide_eq_true_eq, Bool.not_eq_true', decide_eq_false_iff_not, if_true, if_false, cxOf, and_self, Bool.not_true, Bool.not_false, Bool.false_eq_true,
  sf_signs, sf_spot, sf_put, T.cl_Source, T.na_Source_signs, T.na_Source_spot, sg_inj, upd_same, rIsS, tyN, kb1, kb2, kb3, kb4, kb5, kb6, kb7, kb8, kb9, kb10, kb11, kb12, kb13, kb14, kb15, kb16, kb17, kb18, kb19, kb20, kb21, tDNewK, rPowW, gStar, gUnl, tLenSetU, tDGet, tDIn, sDPut, tJs, tFmt])
/-! ### how many within one another, counted to seven -/
mutual
def dpt : Nat → PyData → Nat
  | n, .list xs => if n = 0 then 0 else dpts n xs
  | n, .tuple xs => if n = 0 then 0 else dpts (n - 1) xs + 1
  | _, _ => 0
def dpts : Nat → List PyData → Nat
  | _, [] => 0
  | n, x :: r => max (dpt n x) (dpts n r)
end
theorem dpt_str (n : Nat) (z : Str) : dpt n (.str z) = 0 := by rw [dpt] <;> simp
theorem dpts0 : ∀ xs : List PyData, dpts 0 xs = 0
  | [] => by rw [dpts]
  | x :: r => by
    have hx : dpt 0 x = 0 := by cases x <;> rw [dpt] <;> first | simp | rfl
    rw [dpts, hx, dpts0 r]
    rfl
theorem dpt0 (x : PyData) : dpt 0 x = 0 := by cases x <;> rw [dpt] <;> first | simp | rfl
mutual
theorem dpt_ex : ∀ (e : Ex) (n : Nat), dpt n e.toD = min n e.dep
  | .is w, n => by
    rw [Ex.toD, Ex.dep, dpt, dpts, dpts, dpts, dpt_str, dpt_str]
    split <;> omega
  | .var m ps, n => by
    have h := dpts_ex ps (n - 1)
    have h0 := dpt0 (.list (toDs ps))
    rw [Ex.toD, Ex.dep, dpt, dpts, dpts, dpts, dpts, dpt_str, dpt_str, dpt]
    split
    · omega
    · split
      · have : n = 1 := by omega
        omega
      · omega
  | .at_ m ps, n => by
    have h := dpts_ex ps (n - 1)
    rw [Ex.toD, Ex.dep, dpt, dpts, dpts, dpts, dpts, dpt_str, dpt_str, dpt]
    split
    · omega
    · split <;> omega
  | .short ps, n => by
    have h := dpts_ex ps (n - 1)
    rw [Ex.toD, Ex.dep, dpt, dpts, dpts, dpts, dpt_str, dpt]
    split
    · omega
    · split <;> omega
  | .op s a b, n => by
    have h := dpt_ex a (n - 1)
    have h2 := dpt_ex b (n - 1)
    rw [Ex.toD, Ex.dep, dpt, dpts, dpts, dpts, dpts, dpts, dpt_str, dpt_str]
    split <;> omega
  | .not a, n => by
    have h := dpt_ex a (n - 1)
    rw [Ex.toD, Ex.dep, dpt, dpts, dpts, dpts, dpt_str]
    split <;> omega
  | .minus a, n => by
    have h := dpt_ex a (n - 1)
    rw [Ex.toD, Ex.dep, dpt, dpts, dpts, dpts, dpt_str]
    split <;> omega
  | .call m ps, n => by
    have h := dpts_ex ps (n - 1)
    rw [Ex.toD, Ex.dep, dpt, dpts, dpt_str]
    split <;> omega
theorem dpts_ex : ∀ (es : List Ex) (n : Nat), dpts n (toDs es) = min n (depS es)
  | [], n => by rw [toDs, depS, dpts]; omega
  | e :: r, n => by
    have h1 := dpt_ex e n
    have h2 := dpts_ex r n
    rw [toDs, depS, dpts]
    omega
end
/-! ### frames that the count wants -/
mutual
def frm : Nat → PyData → Nat
  | n, .list xs => if n = 0 then 1 else frms n xs + 1
  | n, .tuple xs => if n = 0 then 1 else frms (n - 1) xs + 1
  | _, _ => 1
def frms : Nat → List PyData → Nat
  | _, [] => 0
  | n, x :: r => max (frm n x) (frms n r)
end
theorem frm_pos (n : Nat) (d : PyData) : 1 ≤ frm n d := by
  cases d <;> rw [frm] <;> first | simp | (split <;> omega) | omega
theorem frm_str (n : Nat) (z : Str) : frm n (.str z) = 1 := by rw [frm] <;> simp
theorem frms_mem {n : Nat} {x : PyData} : ∀ {xs : List PyData}, x ∈ xs → frm n x ≤ frms n xs
  | [], h => by cases h
  | y :: r, h => by
    rw [frms]
    rcases List.mem_cons.mp h with rfl | h
    · omega
    · have := frms_mem (n := n) h
      omega
theorem frm0 (d : PyData) : frm 0 d = 1 := by cases d <;> rw [frm] <;> first | simp | rfl
mutual
theorem frm_ex : ∀ (e : Ex) (n : Nat), frm n e.toD ≤ 2 * n + 1
  | .is w, n => by
    rw [Ex.toD, frm, frms, frms, frms, frm_str, frm_str]
    split <;> omega
  | .var m ps, n => by
    have h := frms_ex ps (n - 1)
    rw [Ex.toD, frm, frms, frms, frms, frms, frm_str, frm_str, frm]
    split
    · omega
    · split <;> omega
  | .at_ m ps, n => by
    have h := frms_ex ps (n - 1)
    rw [Ex.toD, frm, frms, frms, frms, frms, frm_str, frm_str, frm]
    split
    · omega
    · split <;> omega
  | .short ps, n => by
    have h := frms_ex ps (n - 1)
    rw [Ex.toD, frm, frms, frms, frms, frm_str, frm]
    split
    · omega
    · split <;> omega
  | .op s a b, n => by
    have h := frm_ex a (n - 1)
    have h2 := frm_ex b (n - 1)
    rw [Ex.toD, frm, frms, frms, frms, frms, frms, frm_str, frm_str]
    split <;> omega
  | .not a, n => by
    have h := frm_ex a (n - 1)
    rw [Ex.toD, frm, frms, frms, frms, frm_str]
    split <;> omega
  | .minus a, n => by
    have h := frm_ex a (n - 1)
    rw [Ex.toD, frm, frms, frms, frms, frm_str]
    split <;> omega
  | .call m ps, n => by
    have h := frms_ex ps (n - 1)
    rw [Ex.toD, frm, frms, frm_str]
    split <;> omega
theorem frms_ex : ∀ (es : List Ex) (n : Nat), frms n (toDs es) ≤ 2 * n + 1
  | [], n => by rw [toDs, frms]; omega
  | e :: r, n => by
    have h1 := frm_ex e n
    have h2 := frms_ex r n
    rw [toDs, frms]
    omega
end
theorem dpts_snoc (n : Nat) (x : PyData) : ∀ xs : List PyData, dpts n (xs ++ [x]) = max (dpts n xs) (dpt n x)
  | [] => by
    simp only [List.nil_append, dpts]
    omega
  | y :: r => by
    rw [List.cons_append, dpts, dpts_snoc n x r, dpts]
    omega
theorem max_if (a b : Nat) : (if (b : Int) > (a : Int) then (b : Int) else (a : Int)) = ((max a b : Nat) : Int) := by
  split <;> omega
theorem tx_mem {x : PyData} : ∀ {xs : List PyData}, x ∈ xs → txDs xs = true → txD x = true
  | [], h, _ => by cases h
  | y :: r, h, ht => by
    rw [txDs, Bool.and_eq_true] at ht
    rcases List.mem_cons.mp h with rfl | h
    · exact ht.1
    · exact tx_mem h ht.2
section
variable {P : Program} {w : World} {K : PySem.W.Frag} {mg : Str → Option Value} {base : Heap}
def spDep (K : PySem.W.Frag) (m : Nat) : Sp := fun vs H Q _ => ∃ v d, ∃ n : Nat, vs = [v, .int (n : Int)] ∧ Dp K H v d ∧ txD d = true ∧ frm n d ≤ m ∧ ∀ H', Same H H' → Q (.int (dpt n d : Int)) H'
theorem sc__law_depth : FnScope ["one", "left", "found", "some"] ["one", "left"] (defScope s__law_depth) := ⟨rfl, rfl, rfl, by decide +kernel, rfl, by decide +kernel, by decide +kernel⟩
theorem dep_fn (T : Hd w K mg) {k m : Nat} (D__law_depth : Dn P w K mg base k "_law_depth" (spDep K m)) : ∃ fd, FunD K "_law_depth" "_law_depth" (defArgs s__law_depth) (defBody s__law_depth) (defScope s__law_depth) [V.int 7] [] (He.ga K "_law_depth") fd ∧ FnOk P w K mg base (L2N.CX P w) (k + 1) (He.ga K "_law_depth") fd ["one", "left"] (spDep K (m + 1)) := by
  obtain ⟨fd, F⟩ := T.fn__law_depth
  refine ⟨fd, F, okND F sc__law_depth (fun vs H Q E h => ?_) (fun cdv A outer s H vs Q E hr tk h => ?_)⟩
  · obtain ⟨v, d, n, rfl, _⟩ := h
    rfl
  obtain ⟨v, d, n, rfl, hD, htx, hdp, q⟩ := h
  refine ⟨_, (pss_cons (ps_if (PW.pt (pw_or (pt_val (pe_callB call_isS (by rfl) T.f_isinstance (by decide +kernel) (pa_cons (pv 0) (pa_cons (pe_bltn (v := .ty "str") (u := .type "str") (by rfl) T.f_str (by decide +kernel) rfl) pa_nil)))) (pw_or1 (pt_cmpR op_eq (pv 1) pe_int (nomark _))))) (pss_one (ps_ret pe_int)) pss_nil) (pss_cons (ps_set (i := 2) sc__law_depth.nd rfl (by first | exact Or.inl rfl | exact Or.inr rfl) pe_int) (pss_cons (ps_for (passes_of rfl) rfl (pi_seq (pv 0)) (pg_name (i := 3) sc__law_depth.nd rfl (by first | exact Or.inl rfl | exact Or.inr rfl)) (pss_one (ps_set (i := 2) sc__law_depth.nd rfl (by first | exact Or.inl rfl | exact Or.inr rfl) (pe_callB (call_max2 rfl) (by rfl) T.f_max (by decide +kernel) (pa_cons (pv 2) (pa_cons (pe_d D__law_depth hr (by first | decide | omega) (fun σ => L2N.passAt tk σ) (by rfl) (pa_cons (pv 3) (pa_cons (pe_op op_sub (pv 1) (pe_callTy call_int1 (by rfl) T.f_int (by decide +kernel) (pa_cons (pe_callB call_isS (by rfl) T.f_isinstance (by decide +kernel) (pa_cons (pv 0) (pa_cons (pe_bltn (v := .ty "tuple") (u := .type "tuple") (by rfl) T.f_tuple (by decide +kernel) rfl) pa_nil))) pa_nil))) pa_nil))) pa_nil)))))) (pss_one (ps_ret (pe_op op_add (pv 2) (pe_callTy call_int1 (by rfl) T.f_int (by decide +kernel) (pa_cons (pe_callB call_isS (by rfl) T.f_isinstance (by decide +kernel) (pa_cons (pv 0) (pa_cons (pe_bltn (v := .ty "tuple") (u := .type "tuple") (by rfl) T.f_tuple (by decide +kernel) rfl) pa_nil))) pa_nil)))))))), ?_⟩
  walk_at "rd"
  cases d with
  | str z =>
    obtain rfl := dp_str hD
    refine .inl ⟨_, rfl, _, kb1, ?_⟩
    rw [if_pos rfl]
    have := q H (Same.refl _)
    rw [dpt_str] at this
    exact this
  | list ds =>
    obtain ⟨a, xs, rfl, hL, hA⟩ := dp_list hD
    have hlen := DpAll.len hA
    refine .inr ⟨a, rfl, "list", tyx_list hL, _, kb5, ?_⟩
    rw [if_neg (by decide)]
    rw [txD] at htx
    by_cases hn : n = 0
    · rw [if_pos (by omega)]
      have := q H (Same.refl _)
      rw [hn, dpt0] at this
      exact this
    rw [if_neg (by omega)]
    rw [dpt, if_neg hn] at q
    rw [frm, if_neg hn] at hdp
    refine .inl ⟨_, rfl, a, rfl, ⟨_, hL⟩, ?_⟩
    refine for_list (xs := xs) (fun i σ H' => (∃ c, σ = [some (V.ref a), some (V.int n), some (V.int (dpts n (ds.take i) : Nat)), c]) ∧ Same H H') ⟨⟨_, by rw [List.take_zero, dpts]; rfl⟩, Same.refl _⟩ (fun i σ H' hi ⟨_, s⟩ => s.seq hL) ?_ ?_
    · rintro i x σ H' hx ⟨⟨c, rfl⟩, s⟩
      obtain ⟨d, hd⟩ : ∃ d, ds[i]? = some d := ⟨_, List.getElem?_eq_getElem (by have := (List.getElem?_eq_some_iff.mp hx).1; omega)⟩
      have hdm := List.mem_of_getElem? hd
      have hdd := frms_mem (n := n) hdm
      walk_at "rd"
      refine ⟨"list", tyx_list (s.seq hL), _, kb9, ?_⟩
      refine ⟨x, d, n, by simp, Dp.same s (DpAll.at_ hA hx hd), tx_mem hdm htx, by omega, fun H2 s2 => ⟨_, rfl, ?_, s.trans s2⟩⟩
      rw [max_if, List.take_add_one, hd, show (some d).toList = [d] from rfl, dpts_snoc]
    · rintro σ H' ⟨⟨c, rfl⟩, s⟩
      walk_at "rd"
      rw [hlen, List.take_length]
      refine ⟨"list", tyx_list (s.seq hL), _, kb9, ?_⟩
      have := q H' s
      simpa using this
  | tuple ds =>
    obtain ⟨a, xs, rfl, hL, hA⟩ := dp_tup hD
    have hlen := DpAll.len hA
    refine .inr ⟨a, rfl, "tuple", tyx_tup hL, _, kb8, ?_⟩
    rw [if_neg (by decide)]
    rw [txD] at htx
    by_cases hn : n = 0
    · rw [if_pos (by omega)]
      have := q H (Same.refl _)
      rw [hn, dpt0] at this
      exact this
    rw [if_neg (by omega)]
    rw [dpt, if_neg hn] at q
    rw [frm, if_neg hn] at hdp
    refine .inr (.inl ⟨_, rfl, a, rfl, ⟨_, hL⟩, ?_⟩)
    refine for_tup (xs := xs) (fun i σ H' => (∃ c, σ = [some (V.ref a), some (V.int n), some (V.int (dpts (n - 1) (ds.take i) : Nat)), c]) ∧ Same H H') ⟨⟨_, by rw [List.take_zero, dpts]; rfl⟩, Same.refl _⟩ (fun i σ H' hi ⟨_, s⟩ => Same.seqT s hL) ?_ ?_
    · rintro i x σ H' hx ⟨⟨c, rfl⟩, s⟩
      obtain ⟨d, hd⟩ : ∃ d, ds[i]? = some d := ⟨_, List.getElem?_eq_getElem (by have := (List.getElem?_eq_some_iff.mp hx).1; omega)⟩
      have hdm := List.mem_of_getElem? hd
      have hdd := frms_mem (n := n - 1) hdm
      walk_at "rd"
      refine ⟨"tuple", tyx_tup (Same.seqT s hL), _, kb7, ?_⟩
      refine ⟨x, d, n - 1, by simp; omega, Dp.same s (DpAll.at_ hA hx hd), tx_mem hdm htx, by omega, fun H2 s2 => ⟨_, rfl, ?_, s.trans s2⟩⟩
      rw [max_if, List.take_add_one, hd, show (some d).toList = [d] from rfl, dpts_snoc]
    · rintro σ H' ⟨⟨c, rfl⟩, s⟩
      walk_at "rd"
      rw [hlen, List.take_length]
      refine ⟨"tuple", tyx_tup (Same.seqT s hL), _, kb7, ?_⟩
      have := q H' s
      simpa using this
  | none => cases htx
  | bool b => cases htx
  | int i => cases htx
  | dict kvs => cases htx
theorem Dn.false__law_depth (T : Hd w K mg) (k : Nat) : Dn P w K mg base k "_law_depth" (fun _ _ _ _ => False) := by
  obtain ⟨fd, F⟩ := T.fn__law_depth
  obtain ⟨ds, v, b⟩ := F.binds1 (ps := ["one", "left"]) 2 1 (by simp) rfl fun T kV doc pm an cdv ct us its h1 h2 => match us, h1, its, h2 with | [_, _], _, [_], _ => ⟨_, rfl, rfl⟩
  cases v
  exact ⟨_, fd, ["one", "left"], ⟨fun _ _ _ _ h => h.elim, fun _ _ _ _ _ _ _ _ _ _ _ _ _ h => h.elim⟩, T.g__law_depth, F.kp, b⟩
theorem dep_chain (T : Hd w K mg) : ∀ m : Nat, Dn P w K mg base m "_law_depth" (spDep K m)
  | 0 => (Dn.false__law_depth T _).imp fun vs H Q E h => by
    obtain ⟨v, d, n, _, _, _, hd, _⟩ := h
    have := frm_pos n d
    omega
  | m + 1 => by
    obtain ⟨fd, F, ok⟩ := dep_fn T (dep_chain T m)
    obtain ⟨ds, v, b⟩ := F.binds1 (ps := ["one", "left"]) 2 1 (by simp) rfl fun T kV doc pm an cdv ct us its h1 h2 => match us, h1, its, h2 with | [_, _], _, [_], _ => ⟨_, rfl, rfl⟩
    cases v
    exact ⟨_, fd, ["one", "left"], ok, T.g__law_depth, F.kp, b⟩
theorem dep_one (T : Hd w K mg) (m : Nat) : DnF P w K mg base (m + 1) "_law_depth" [.int 7] (spDep K (m + 1)) := by
  obtain ⟨fd, F, ok⟩ := dep_fn (P := P) (base := base) T (dep_chain T m)
  obtain ⟨ds, v, b⟩ := F.binds1 (ps := ["one", "left"]) 1 0 (by simp) rfl fun T kV doc pm an cdv ct us its h1 h2 => match us, h1, its, h2 with | [_], _, [_], _ => ⟨_, rfl, rfl⟩
  exact ⟨_, fd, ["one", "left"], ds, ok, T.g__law_depth, F.kp, b, v⟩
end
end Sk

/-! ## ZNT -/
namespace Sk
open PySem PySem.Spec PyProof.Rows L2
set_option hygiene false in
local macro_rules | `(tactic| walk_at "rd") => `(tactic| simp only [tVar, tC, tB, tAnd, tOr, tNot, tAndV, tOrV, tNotV, tIf, tNext, tSeq, tBreak, tCont, tDrop, tRet, tRetN, tIfS, tAsg, tAug, tOp, tUn, tTest, tChain, tFld, sFldAug, sFld, rAdd, tNil, tCons, tTup, tLst, tCB, tNoPart, tPart, tSl, tBM0, tBM, tYes, tM0, tM1, CwR.tReplC, tCallS, tMethS, tMakeS, gName, wipe, tyV, gTup, gCons, gNil,
  rI, rI0, rEq, rNe, scal, rPlus, rPlusI, rPlusS, rCat, rCatA, rIx, rIxL, rIxT, rIxS, rSl, rSlS, rSlL, rSlA, iPlus, iPlusI, iPlusS, ipI, rAll, rAny, LenV, WE, E0, rAppend,
  L2.start, List.map_cons, List.map_nil, List.length_cons, List.length_nil, Nat.zero_add, Nat.add_zero, Nat.reduceAdd, Nat.reduceSub, Nat.sub_self, List.replicate_zero, List.replicate_succ, List.append_nil, List.nil_append, List.cons_append, List.getElem?_cons_zero, List.getElem?_cons_succ, List.set_cons_zero, List.set_cons_succ, Option.some.injEq,
  V.int.injEq, V.str.injEq, V.bl.injEq, V.ref.injEq, V.ty.injEq, HO.ins.injEq, HO.lst.injEq, HO.tup.injEq, List.cons.injEq, reduceCtorEq, false_and, and_false, true_and, and_true, and_assoc, exists_const, exists_false, false_or, or_false, exists_eq_left', exists_eq_left, exists_eq_right, exists_eq_right', exists_and_left, ↓reduceIte, decide_eq_true_eq, Bool.not_eq_true', decide_eq_false_iff_not, if_true, if_false, cxOf, and_self, Bool.not_true, Bool.not_false, Bool.false_eq_true,
  sf_signs, sf_spot, sf_put, T.cl_Source, T.na_Source_signs, T.na_Source_spot, sg_inj, upd_same, rIsS, tyN, kb1, kb2, kb3, kb4, kb5, kb6, kb7, kb8, kb9, kb10, kb11, kb12, kb13, kb14, kb15, kb16, kb17, kb18, kb19, kb20, kb21, tDNewK, rPowW, gStar, gUnl, tLenSetU, tDGet, tDIn, sDPut, tJs, tFmt])
section
variable {X : Cx} {x n : Str} {c : Value} {i : Nat} {body suite : List Stmt} {b₀ : Stmt} {np pos pos' : Pos} {tb : WX → TS} {C : Value → Option Addr → Prop} {ts : Addr → TS} {Wout : WX}
theorem try_when (hs : X.stack = X.env :: X.outer) (hf : X.env.frame = some X.env.locals) (hN : X.N.Nodup) (hi : X.N[i]? = some n) (hln : X.env.kindOf n = some .local) (hc : Names X x c) (tk : L2N.Takes X Wout)
    (hb : ∀ (W : WX) (pn : List (Addr × Obj)) (xe : Value → Shared → Prop), L2N.Takes (X.tr pn xe) W → PassesOwn (model X.prog X.w) X.A X.env xe → PSs (X.tr pn xe) body (tb W))
    (hsu : ∀ (a : Addr) (oe : Obj) (cls : Value) (d : Option Addr) (pn : List (Addr × Obj)), L2N.Zn cls d oe → (∃ vs, oe.data = .fields vs) → C cls d → PSs (X.suite a ((a, oe) :: pn)) (b₀ :: suite) (ts a)) :
    PS X (.Try body [.ExceptHandler (some (.Name x np)) (some n) (b₀ :: suite) pos'] [] [] pos) (fun D σ H => tb (wAs X.K c i (fun a cls d D σ H => C cls d ∧ ts a D σ H) Wout D) D σ H) :=
  L2N.ps_try_as hs hf hN hi hln hc tk hb fun a oe cls d pn hz hf => PSs.when fun hC => hsu a oe cls d pn hz hf hC
end
section
variable {X : Cx} {k : Nat} {f : Addr} {fd : FuncData} {ps : List Str} {sp : Addr → Sp} {E : SS → XK} {x : Str} {q pos : Pos} {e : Expr} {es : List Expr} {t : TA} {Z : Obj → Prop}
theorem pe_callZ2 {p : Addr × Obj} {spp : Sp} (F : ∃ (Z : Obj → Prop) (sp : Addr → Sp), FnZ X.prog X.w X.K X.mg X.base Z k f fd ps sp ∧ Z p.2 ∧ sp p.1 = spp) (room : L2H.RoomH k X.A) (hot : L2H.Hot1 X.A p) (hp : p ∈ X.pn) (hg : Gl X x) (hm : X.mg x = some (.ref f)) (hk : PySem.W.keepIn X.K (.ref f) = true) (hb : Binds X.K fd ps [])
    (hx : ∀ σ, PassesAt (L2N.CX X.prog X.w) X σ (E σ)) (ha : PA X (e :: es) t) (hdb : (x == ("__debug__" : Str)) = false := by decide) (he : starEach (e :: es) X.env = (false, eval e X.env) :: starEach es X.env := by rfl)
    (hpl : (backTo pos (starEach es X.env)).any (·.1) = false := by rfl) : PE X (.Call (.Name x q) (e :: es) [] pos) (tCallS spp E t) := by
  obtain ⟨Z, sp, F, hz, rfl⟩ := F
  exact pe_callZ F room hot hz hp hg hm hk hb hx ha hdb he hpl
end
section
variable {P : Program} {w : World} {K : PySem.W.Frag} {mg : Str → Option Value} {base : Heap}
def spOnly : Addr → Sp := fun a vs H Q _ => vs = [.ref a] ∧ ∀ H', Same H H' → Q (.bl true) H'
abbrev ZNT (K : PySem.W.Frag) : Obj → Prop := Zc (.ref (He.ga K "NoText")) none
theorem hot_of {cls : Value} {d : Option Addr} {oe : Obj} (hz : L2N.Zn cls d oe) (hf : ∃ vs, oe.data = .fields vs) : ∃ vs : Array Value, oe.data = .fields vs ∧ vs[2]? = some .none := by
  obtain ⟨vs, hv⟩ := hf
  exact ⟨vs, hv, hz.2.2 vs hv⟩
theorem z_of {cls : Value} {d : Option Addr} {oe : Obj} (hz : L2N.Zn cls d oe) (hC : cls = .ref (He.ga K "NoText") ∧ d = none) : ZNT K oe := by
  obtain ⟨rfl, rfl⟩ := hC
  exact hz.zc
theorem sc__law_only_no_text : FnScope ["e"] ["e"] (defScope s__law_only_no_text) := ⟨rfl, rfl, rfl, by decide +kernel, rfl, by decide +kernel, by decide +kernel⟩
theorem only_ok (T : Hd w K mg) : ∃ fd, FnZ P w K mg base (ZNT K) 1 (He.ga K "_law_only_no_text") fd ["e"] spOnly ∧ PySem.W.keepIn K (.ref (He.ga K "_law_only_no_text")) = true ∧ Binds K fd ["e"] [] := by
  obtain ⟨fd, F⟩ := T.fn__law_only_no_text
  refine ⟨fd, fnZ_mk F sc__law_only_no_text (fun a vs H Q E h => by obtain ⟨rfl, _⟩ := h; rfl) (fun cdv A outer s H vs Q E p hot hz hr h => ?_), F.kp, F.binds (ps := ["e"]) fun _ _ _ _ _ _ us hl => match us, hl with | [_], _ => rfl⟩
  obtain ⟨rfl, q⟩ := h
  have hf : ∃ vs, p.2.data = .fields vs := by
    obtain ⟨_, vs, hv, _⟩ := hot
    exact ⟨vs, hv⟩
  refine ⟨_, (pss_cons (ps_if (pt_val (pe_callB (call_isZ (p := p) T.nt.xc (List.mem_singleton.mpr rfl) hz hf) (by rfl) T.f_isinstance (by decide +kernel) (pa_cons (pv 0) (pa_cons (pe_tup (pa_cons (C8.pe_gc (v := .ref (He.ga K "Erring")) (by rfl) ⟨_, T.g_Erring, rfl⟩) (pa_cons (C8.pe_gc (v := .ref (He.ga K "Held")) (by rfl) ⟨_, T.g_Held, rfl⟩) (pa_cons (C8.pe_gc (v := .ref (He.ga K "NoDealing")) (by rfl) ⟨_, T.g_NoDealing, rfl⟩) (pa_cons (C8.pe_gc (v := .ref (He.ga K "NoHead")) (by rfl) ⟨_, T.g_NoHead, rfl⟩) (pa_cons (C8.pe_gc (v := .ref (He.ga K "NoJob")) (by rfl) ⟨_, T.g_NoJob, rfl⟩) (pa_cons (C8.pe_gc (v := .ref (He.ga K "NoLabel")) (by rfl) ⟨_, T.g_NoLabel, rfl⟩) (pa_cons (C8.pe_gc (v := .ref (He.ga K "NoLock")) (by rfl) ⟨_, T.g_NoLock, rfl⟩) pa_nil)))))))) pa_nil)))) (pss_one (ps_ret pe_bl)) pss_nil) (pss_cons (ps_if (pt_val (pe_callB (call_isZ (p := p) T.nt.xc (List.mem_singleton.mpr rfl) hz hf) (by rfl) T.f_isinstance (by decide +kernel) (pa_cons (pv 0) (pa_cons (pe_tup (pa_cons (C8.pe_gc (v := .ref (He.ga K "NoProgram")) (by rfl) ⟨_, T.g_NoProgram, rfl⟩) (pa_cons (C8.pe_gc (v := .ref (He.ga K "NoRef")) (by rfl) ⟨_, T.g_NoRef, rfl⟩) (pa_cons (C8.pe_gc (v := .ref (He.ga K "NoWorth")) (by rfl) ⟨_, T.g_NoWorth, rfl⟩) (pa_cons (C8.pe_gc (v := .ref (He.ga K "TooDeep")) (by rfl) ⟨_, T.g_TooDeep, rfl⟩) (pa_cons (C8.pe_gc (v := .ref (He.ga K "TooLong")) (by rfl) ⟨_, T.g_TooLong, rfl⟩) (pa_cons (C8.pe_gc (v := .ref (He.ga K "Waiting")) (by rfl) ⟨_, T.g_Waiting, rfl⟩) (pa_cons (C8.pe_gc (v := .ref (He.ga K "Within")) (by rfl) ⟨_, T.g_Within, rfl⟩) pa_nil)))))))) pa_nil)))) (pss_one (ps_ret pe_bl)) pss_nil) (pss_one (ps_ret (pe_and (pe_callB (call_isZ (p := p) T.nt.xc (List.mem_singleton.mpr rfl) hz hf) (by rfl) T.f_isinstance (by decide +kernel) (pa_cons (pv 0) (pa_cons (C8.pe_gc (v := .ref (He.ga K "NoText")) (by rfl) ⟨_, T.g_NoText, rfl⟩) pa_nil))) (pe_one (pe_callB (call_isZ (p := p) T.nt.xc (List.mem_singleton.mpr rfl) hz hf) (by rfl) T.f_isinstance (by decide +kernel) (pa_cons (pv 0) (pa_cons (pe_bltn (v := .ty "ValueError") (u := .type "ValueError") (by rfl) T.f_ValueError (by decide +kernel) rfl) pa_nil))))))))), ?_⟩
  walk_at "rd"
  have nt := T.nt
  refine ⟨by rw [sizeLine_eq]; omega, fun a1 n1 => .inr ⟨a1, _, _, false, rfl, upd_same, .cons (.own _) (.cons (.own _) (.cons (.own _) (.cons (.own _) (.cons (.own _) (.cons (.own _) (.cons (.own _) .nil)))))), ?_, false, rfl, ?_⟩⟩
  · exact kitAny_cons nt.no_Erring (fun _ => kitAny_cons nt.no_Held (fun _ => kitAny_cons nt.no_NoDealing (fun _ => kitAny_cons nt.no_NoHead (fun _ => kitAny_cons nt.no_NoJob (fun _ => kitAny_cons nt.no_NoLabel (fun _ => kitAny_cons nt.no_NoLock (fun _ => kitAny_nil) nofun) nofun) nofun) nofun) nofun) nofun) nofun
  rw [if_neg (by decide)]
  refine ⟨by rw [sizeLine_eq]; omega, fun a2 n2 => .inr ⟨a2, _, _, false, rfl, upd_same, .cons (.own _) (.cons (.own _) (.cons (.own _) (.cons (.own _) (.cons (.own _) (.cons (.own _) (.cons (.own _) .nil)))))), ?_, false, rfl, ?_⟩⟩
  · exact kitAny_cons nt.no_NoProgram (fun _ => kitAny_cons nt.no_NoRef (fun _ => kitAny_cons nt.no_NoWorth (fun _ => kitAny_cons nt.no_TooDeep (fun _ => kitAny_cons nt.no_TooLong (fun _ => kitAny_cons nt.no_Waiting (fun _ => kitAny_cons nt.no_Within (fun _ => kitAny_nil) nofun) nofun) nofun) nofun) nofun) nofun) nofun
  rw [if_neg (by decide)]
  refine .inl ⟨_, _, true, rfl, .own _, nt.yes, true, rfl, ?_⟩
  rw [if_pos rfl]
  exact .inl ⟨_, _, true, rfl, .ty _, nt.ve, q _ ((same_new n1).trans (same_new n2))⟩
end
end Sk

/-! ## L53h -/
namespace Sk
open PySem PySem.Spec PyProof.Rows L2
set_option hygiene false in
local macro_rules | `(tactic| walk_at "rd") => `(tactic| simp only [tVar, tC, tB, tAnd, tOr, tNot, tAndV, tOrV, tNotV, tIf, tNext, tSeq, tBreak, tCont, tDrop, tRet, tRetN, tIfS, tAsg, tAug, tOp, tUn, tTest, tChain, tFld, sFldAug, sFld, rAdd, tNil, tCons, tTup, tLst, tCB, tNoPart, tPart, tSl, tBM0, tBM, tYes, tM0, tM1, CwR.tReplC, tCallS, tMethS, tMakeS, gName, wipe, tyV, gTup, gCons, gNil,
  rI, rI0, rEq, rNe, scal, rPlus, rPlusI, rPlusS, rCat, rCatA, rIx, rIxL, rIxT, rIxS, rSl, rSlS, rSlL, rSlA, iPlus, iPlusI, iPlusS, ipI, rAll, rAny, LenV, WE, E0, rAppend,
  L2.start, List.map_cons, List.map_nil, List.length_cons, List.length_nil, Nat.zero_add, Nat.add_zero, Nat.reduceAdd, Nat.reduceSub, Nat.sub_self, List.replicate_zero, List.replicate_succ, List.append_nil, List.nil_append, List.cons_append, List.getElem?_cons_zero, List.getElem?_cons_succ, List.set_cons_zero, List.set_cons_succ, Option.some.injEq,
  V.int.injEq, V.str.injEq, V.bl.injEq, V.ref.injEq, V.ty.injEq, HO.ins.injEq, HO.lst.injEq, HO.tup.injEq, List.cons.injEq, reduceCtorEq, false_and, and_false, true_and, and_true, and_assoc, exists_const, exists_false, false_or, or_false, exists_eq_left', exists_eq_left, exists_eq_right, exists_eq_right', exists_and_left, ↓reduceIte, decide_eq_true_eq, Bool.not_eq_true', decide_eq_false_iff_not, if_true, if_false, cxOf, and_self, Bool.not_true, Bool.not_false, Bool.false_eq_true,
  sf_signs, sf_spot, sf_put, T.cl_Source, T.na_Source_signs, T.na_Source_spot, sg_inj, upd_same, rIsS, tyN, kb1, kb2, kb3, kb4, kb5, kb6, kb7, kb8, kb9, kb10, kb11, kb12, kb13, kb14, kb15, kb16, kb17, kb18, kb19, kb20, kb21, tDNewK, rPowW, gStar, gUnl, tLenSetU, tDGet, tDIn, sDPut, tJs, tFmt])
theorem app_len (a b : Str) : (a ++ b).length = a.length + b.length := by rw [← tl_len, tl_app, List.length_append, tl_len, tl_len]
namespace Q
/-! ### text[::-1], of two signs at most, and of which signs -/
def tRevS (te : TE) : TE := fun σ H Q => te σ H fun x H1 => ∃ z : Str, x = .str z ∧ z.length ≤ 2 ∧ ∀ z' : Str, z'.length ≤ 2 → (∀ c ∈ tl z', c ∈ tl z) → Q (.str z') H1
section
variable {X : Cx}
theorem pe_revS {e : Expr} {te : TE} {k : Nat} {p1 p2 p3 pos : Pos} (he : PE X e te) : PE X (.Subscript e (.Slice none none (some (.UnaryOp .USub (.Constant (.int 1) k p1) p2)) p3) pos) (tRevS te) := by
  refine ⟨fun pins s σ H Q I h => ?_⟩
  refine Subscript_ (thn (he.run pins s σ H _ I h) fun v s1 ⟨x, H1, I1, r1, q1⟩ => ?_)
  obtain ⟨z, ex, hx, q⟩ := q1
  subst ex
  obtain ⟨t, rfl⟩ := r1
  have hst : PO X (some (.UnaryOp .USub (.Constant (.int 1) k p1) p2)) (tPart (tUn (rU fun i => .int (-i)) (tC (.int 1)))) := po_some (pe_un un_neg pe_int)
  refine wpAny_Slice (thn (po_none.run pins s1 σ H1 (fun o H2 => o = none ∧ H2 = H1) I1 ⟨rfl, rfl⟩) fun vl s2 ⟨l, H2, I2, pl, el, e2⟩ => ?_)
  subst el e2
  refine thn (po_none.run pins s2 σ H2 (fun o H3 => o = none ∧ H3 = H2) I2 ⟨rfl, rfl⟩) fun vu s3 ⟨u, H3, I3, pu, eu, e3⟩ => ?_
  subst eu e3
  refine thn (hst.run pins s3 σ H3 (fun o H4 => o = some (-1) ∧ H4 = H3) I3 ⟨1, rfl, -1, rfl, rfl, rfl⟩) fun vs s4 ⟨o, H4, I4, ps, eo, e4⟩ => ?_
  subst eo e4
  have I5 : Inv X pins σ H4 { s4 with heap := s4.heap.push { cls := .type "slice", data := .fields #[vl, vu, vs] } } := I4.kept (t' := s4.toks) fun b ob q => Heap.get?_push_of_some _ q
  obtain ⟨l, rfl, hl1⟩ := IsPart.raw pl
  obtain ⟨u, rfl, hu1⟩ := IsPart.raw pu
  obtain ⟨w, rfl, hw1⟩ := IsPart.raw ps
  show wpAny (model X.prog X.w) X.A (subscriptTail e (.Slice none none (some (.UnaryOp .USub (.Constant (.int 1) k p1) p2)) p3) (.str z t) (.ref s4.heap.objs.size)) (EP X pins σ Q) X.xe _
  refine tail_any (ops := [.str z t, .ref s4.heap.objs.size]) (typeIs_str _ z t) (F.slot_str_getitem.lookup) ?_ (by with_unfolding_all rfl)
  refine wpAny_getItem_str_slice (l := l) (u := u) (st := w) ⟨_, Heap.get?_push_size _ rfl, rfl, rfl⟩ (by rw [hw1]; rfl) ?_
  unfold sliceMade
  rw [hw1, if_neg (by simp)]
  have hlen : (slicePicked z l u w).length ≤ 2 := by
    unfold slicePicked
    rw [hl1, hu1, hw1]
    exact revLen _ hx
  have hz : (⟨((slicePicked z l u w).filterMap (z.cps[·]?)).toArray⟩ : Str).length ≤ 2 := by
    have := List.length_filterMap_le (z.cps[·]?) (slicePicked z l u w)
    show (List.toArray _).size ≤ 2
    rw [List.size_toArray]
    omega
  have hm : ∀ c ∈ tl (⟨((slicePicked z l u w).filterMap (z.cps[·]?)).toArray⟩ : Str), c ∈ tl z := fun c hc => by
    have hc : c ∈ (slicePicked z l u w).filterMap (z.cps[·]?) := hc
    obtain ⟨i, _, hi⟩ := List.mem_filterMap.mp hc
    have hi : z.cps[i]? = some c := hi
    exact List.mem_of_getElem? (show z.cps.toList[i]? = some c by rw [← hi]; exact Array.getElem?_toList)
  refine ⟨by rw [sizeLine_eq]; exact Nat.le_trans hz (by decide), .str _, H4, I5.tok _, ⟨_, rfl⟩, q _ hz hm⟩
end
theorem okT_app {a b : Str} (ha : okT a) (hb : okT b) : okT (a ++ b) := fun c hc => by
  rw [tl_app] at hc
  exact (List.mem_append.mp hc).elim (ha c) (hb c)
theorem okT_cut {z : Str} (h : okT z) (lo hi : Option Int) : okT (cutS z lo hi) := fun c hc => by
  have hc : c ∈ ((tl z).drop _).take _ := hc
  exact h c (List.mem_of_mem_drop (List.mem_of_mem_take hc))
theorem okT_nil : okT (Str.ofString "") := fun c hc => by cases hc
section
variable {P : Program} {w : World} {K : PySem.W.Frag} {mg : Str → Option Value} {base : Heap}
def spChg : Sp := fun vs H Q _ => ∃ (b : Addr) (z : Str) (N : Nat), vs = [.ref b, .str z] ∧ BagAt H b N ∧ N + 10 < big ∧ z.length ≤ 5000000 ∧ okT z ∧ ∀ (z' : Str) H', okT z' → z'.length ≤ 2 * z.length + 10 → BagAt H' b (N + 10) → But b H H' → Q (.str z') H'
theorem sc__law_changed : FnScope ["bag", "text", "lot", "at", "every", "sign", "many"] ["bag", "text"] (defScope s__law_changed) := ⟨rfl, rfl, rfl, by decide +kernel, rfl, by decide +kernel, by decide +kernel⟩
theorem ok__law_changed (T : Hd w K mg) (D__law_draw : Dn P w K mg base 1 "_law_draw" spDraw) (D__law_signs : Dn P w K mg base 1 "_law_signs" (fun vs H Q _ => vs = [] ∧ Q (.str (St signsL)) H)) : Dn P w K mg base 2 "_law_changed" (spChg) := by
  obtain ⟨fd, F⟩ := T.fn__law_changed
  refine dn_mk F T.g__law_changed (F.binds (ps := ["bag", "text"]) fun _ _ _ _ _ _ us hl => match us, hl with | [_, _], _ => rfl) sc__law_changed (fun vs H Q E h => ?_) (fun cdv A outer s H vs Q E hr tk h => ?_)
  · obtain ⟨b, z, N, rfl, hb, hN, hz, hok, q⟩ := h
    rfl
  obtain ⟨b, z, N, rfl, hb, hN, hz, hok, q⟩ := h
  refine ⟨_, (pss_cons (ps_set (i := 2) sc__law_changed.nd rfl (by first | exact Or.inl rfl | exact Or.inr rfl) (pe_d D__law_draw hr (by first | decide | omega) (fun σ => L2N.passAt tk σ) (by rfl) (pa_cons (pv 0) (pa_cons pe_int pa_nil)))) (pss_cons (ps_set (i := 3) sc__law_changed.nd rfl (by first | exact Or.inl rfl | exact Or.inr rfl) (pe_d D__law_draw hr (by first | decide | omega) (fun σ => L2N.passAt tk σ) (by rfl) (pa_cons (pv 0) (pa_cons (pe_op op_plus (pe_callB call_len (by rfl) T.f_len (by decide +kernel) (pa_cons (pv 1) pa_nil)) pe_int) pa_nil)))) (pss_cons (ps_set (i := 4) sc__law_changed.nd rfl (by first | exact Or.inl rfl | exact Or.inr rfl) (pe_ix ix_list (pe_lst (pa_cons (pe_op op_plus (pe_d0 D__law_signs hr (by first | decide | omega) (fun σ => L2N.passAt tk σ) (by rfl)) pe_str) (pa_cons pe_str pa_nil))) (pe_d D__law_draw hr (by first | decide | omega) (fun σ => L2N.passAt tk σ) (by rfl) (pa_cons (pv 0) (pa_cons pe_int pa_nil))) (fun _ _ => rfl))) (pss_cons (ps_set (i := 5) sc__law_changed.nd rfl (by first | exact Or.inl rfl | exact Or.inr rfl) (pe_ix ix_str (pv 4) (pe_d D__law_draw hr (by first | decide | omega) (fun σ => L2N.passAt tk σ) (by rfl) (pa_cons (pv 0) (pa_cons (pe_callB call_len (by rfl) T.f_len (by decide +kernel) (pa_cons (pv 4) pa_nil)) pa_nil))) (fun _ _ => rfl))) (pss_cons (ps_if (pt_cmpR op_lt (pv 2) pe_int (nomark _)) (pss_one (ps_ret (pe_op op_add_str (pe_op op_add_str (pe_slice sl_str (pv 1) po_none (po_some (pv 3))) (pe_ix ix_list (pe_lst (pa_cons (pv 5) (pa_cons pe_str (pa_cons (pv 5) pa_nil)))) (pv 2) (fun _ _ => rfl))) (pe_slice sl_str (pv 1) (po_some (pe_op op_add (pv 3) (pe_callTy call_int1 (by rfl) T.f_int (by decide +kernel) (pa_cons (pe_cmpR op_gt (pv 2) pe_int (nomark _)) pa_nil)))) po_none)))) pss_nil) (pss_cons (ps_if (pt_cmpR op_eq (pv 2) pe_int (nomark _)) (pss_one (ps_ret (pe_op op_add_str (pe_op op_add_str (pe_slice sl_str (pv 1) po_none (po_some (pv 3))) (pe_revS (pe_slice sl_str (pv 1) (po_some (pv 3)) (po_some (pe_op op_add (pv 3) pe_int))))) (pe_slice sl_str (pv 1) (po_some (pe_op op_add (pv 3) pe_int)) po_none)))) pss_nil) (pss_cons (ps_set (i := 6) sc__law_changed.nd rfl (by first | exact Or.inl rfl | exact Or.inr rfl) (pe_op op_add pe_int (pe_d D__law_draw hr (by first | decide | omega) (fun σ => L2N.passAt tk σ) (by rfl) (pa_cons (pv 0) (pa_cons pe_int pa_nil))))) (pss_one (ps_ret (pe_ix ix_list (pe_lst (pa_cons (pe_op op_add_str (pe_slice sl_str (pv 1) po_none (po_some (pv 3))) (pe_slice sl_str (pv 1) (po_some (pe_op op_add (pv 3) (pv 6))) po_none)) (pa_cons (pe_op op_add_str (pe_slice sl_str (pv 1) po_none (po_some (pe_op op_add (pv 3) (pv 6)))) (pe_slice sl_str (pv 1) (po_some (pv 3)) po_none)) pa_nil))) (pe_op op_sub (pv 2) pe_int) (fun _ _ => rfl))))))))))), ?_⟩
  have hs := sizeLine_eq
  walk_at "rd"
  have hbig := big_eq
  refine drawQ hb (by decide) (by omega) fun lot H1 l0 l1 b1 u1 => ⟨by omega, ?_⟩
  refine drawQ b1 (by omega) (by omega) (fun at_ H2 a0 a1 b2 u2 => ?_) (Nat.lt_of_le_of_lt (show ((z.length : Int) + 1).natAbs ≤ 5000001 by omega) (by decide))
  refine ⟨by rw [hs]; decide +kernel, by rw [hs]; decide, fun p np => ?_⟩
  have u2' := but_new (o := .lst [V.str (St signsL ++ Str.ofString "\n"), V.str (Str.ofString "\"^$'-()=,:;| 01aifdo")]) (u1.trans u2) np
  refine drawQ (b2.new np) (by decide) (by omega) fun r3 H3 m0 m1 b3 u3 => ?_
  have u3' := u2'.trans u3
  have hp3 := u3 p _ upd_same (bag_ne b2 np)
  obtain ⟨ev, hev, eev⟩ := ix_strs (S := [St signsL ++ Str.ofString "\n", "\"^$'-()=,:;| 01aifdo"]) (r := r3) m0 m1
  have hel : 1 ≤ ev.length ∧ ev.length ≤ 100 := by
    have : ∀ s ∈ ([St signsL ++ Str.ofString "\n", "\"^$'-()=,:;| 01aifdo"] : List Str), 1 ≤ s.length ∧ s.length ≤ 100 := by decide +kernel
    exact this ev hev
  refine ⟨_, _, rfl, SqL.of hp3, _, eev, _, ⟨by rw [hs]; omega, rfl⟩, ?_⟩
  refine drawQ b3 (by omega) (by omega) (fun r4 H4 n0 n1 b4 u4 => ?_) (Nat.lt_of_le_of_lt (show ((ev.length : Int)).natAbs ≤ 100 by omega) (by decide))
  have u4' := u3'.trans u4
  have hcs : ∀ lo hi, (cutS z lo hi).length ≤ z.length := cutS_length z
  have hevl : ev.length = ev.cps.toList.length := by simp [Str.length]
  obtain ⟨c, hc⟩ : ∃ c, ev.cps.toList[r4.toNat]? = some c := ⟨_, List.getElem?_eq_getElem (by omega)⟩
  have hc2 := atI_nat hc
  have hcz : c < 1114112 := by
    have : ∀ s ∈ ([St signsL ++ Str.ofString "\n", "\"^$'-()=,:;| 01aifdo"] : List Str), ∀ c ∈ s.cps.toList, c < 1114112 := by decide +kernel
    exact this ev hev c (List.mem_of_getElem? hc)
  have hcT : okT ⟨#[c]⟩ := fun d hd => by
    have : d = c := by simpa [tl] using hd
    rw [this]
    exact hcz
  have hk := okT_cut hok
  rw [show ((r4.toNat : Nat) : Int) = r4 by omega] at hc2
  refine ⟨_, rfl, _, rfl, by rw [hs]; omega, _, hc2, _, rfl, ?_⟩
  have h1 := hcs none (some at_)
  by_cases c3 : lot < 3
  · rw [if_pos c3]
    refine ⟨_, rfl, by omega, by rw [hs]; decide, fun p5 np5 => ?_⟩
    obtain ⟨sk, hsk, esk⟩ := ix_strs (S := [⟨#[c]⟩, "", ⟨#[c]⟩]) (r := lot) l0 c3
    have hsl : sk.length ≤ 1 := by
      simp only [List.mem_cons, List.not_mem_nil, or_false] at hsk
      rcases hsk with rfl | rfl | rfl
      · exact Nat.le_refl 1
      · exact Nat.zero_le 1
      · exact Nat.le_refl 1
    have h2 := hcs (some (at_ + if 0 < lot then 1 else 0)) none
    refine ⟨_, _, rfl, SqL.of upd_same, _, esk, _, rfl, by omega, _, rfl, _, rfl, by omega, by rw [app_len]; omega, ?_⟩
    have hsT : okT sk := by
      simp only [List.mem_cons, List.not_mem_nil, or_false] at hsk
      rcases hsk with rfl | rfl | rfl
      · exact hcT
      · exact okT_nil
      · exact hcT
    exact q _ _ (okT_app (okT_app (hk _ _) hsT) (hk _ _)) (by rw [app_len, app_len]; omega) ((b4.new np5).mono (by omega)) (but_new u4' np5)
  rw [if_neg c3]
  refine ⟨rfl, ?_⟩
  by_cases e3 : lot = 3
  · rw [if_pos (by rw [e3])]
    refine ⟨_, rfl, by omega, ?_⟩
    unfold tRevS
    walk_at "rd"
    have h4 : (cutS z (some at_) (some (at_ + 2))).length ≤ 2 := by
      obtain ⟨i, rfl⟩ : ∃ i : Nat, at_ = (i : Int) := ⟨at_.toNat, by omega⟩
      have g1 : HT.sIx z.length 0 (some (i : Int)) = min i z.length := HT.sIx_nat _ _ i
      have g2 : HT.sIx z.length z.length (some ((i : Int) + 2)) = min (i + 2) z.length := by
        have := HT.sIx_nat z.length z.length (i + 2)
        rw [show (((i + 2 : Nat)) : Int) = (i : Int) + 2 by omega] at this
        exact this
      show (((z.cps.toList.drop (HT.sIx z.length 0 (some (i : Int)))).take (HT.sIx z.length z.length (some ((i : Int) + 2)) - HT.sIx z.length 0 (some (i : Int)))).toArray).size ≤ 2
      rw [List.size_toArray, List.length_take, g1, g2]
      omega
    refine ⟨by omega, h4, fun z' hz' hm' => ?_⟩
    have h2 := hcs (some (at_ + 2)) none
    refine ⟨by omega, by omega, by rw [app_len]; omega, q _ _ (okT_app (okT_app (hk _ _) (fun c hc => hk _ _ c (hm' c hc))) (hk _ _)) (by rw [app_len, app_len]; omega) (b4.mono (by omega)) u4'⟩
  rw [if_neg (fun h => e3 (V.int.inj h))]
  refine drawQ b4 (by decide) (by omega) fun r5 H5 o0 o1 b5 u5 => ?_
  have u5' := u4'.trans u5
  have h2 := hcs (some (at_ + (1 + r5))) none
  have h3 := hcs none (some (at_ + (1 + r5)))
  have h4 := hcs (some at_) none
  refine ⟨_, rfl, _, rfl, by omega, _, rfl, by omega, by omega, _, rfl, by omega, _, rfl, by omega, by omega, by rw [hs]; decide, fun p6 np6 => ⟨_, rfl, ?_⟩⟩
  obtain ⟨sk, hsk, esk⟩ := ix_strs (S := [cutS z none (some at_) ++ cutS z (some (at_ + (1 + r5))) none, cutS z none (some (at_ + (1 + r5))) ++ cutS z (some at_) none]) (r := lot - 4) (by omega) (by show lot - 4 < 2; omega)
  refine ⟨_, SqL.of upd_same, _, esk, q _ _ ?_ ?_ ((b5.new np6).mono (by omega)) (but_new u5' np6)⟩
  all_goals simp only [List.mem_cons, List.not_mem_nil, or_false] at hsk
  · rcases hsk with rfl | rfl
    · exact okT_app (hk _ _) (hk _ _)
    · exact okT_app (hk _ _) (hk _ _)
  · rcases hsk with rfl | rfl <;> rw [app_len] <;> omega
end
end Q
end Sk

/-! ## L53i -/
namespace Sk
open PySem PySem.Spec PyProof.Rows L2
set_option hygiene false in
local macro_rules | `(tactic| walk_at "rd") => `(tactic| simp only [tVar, tC, tB, tAnd, tOr, tNot, tAndV, tOrV, tNotV, tIf, tNext, tSeq, tBreak, tCont, tDrop, tRet, tRetN, tIfS, tAsg, tAug, tOp, tUn, tTest, tChain, tFld, sFldAug, sFld, rAdd, tNil, tCons, tTup, tLst, tCB, tNoPart, tPart, tSl, tBM0, tBM, tYes, tM0, tM1, CwR.tReplC, tCallS, tMethS, tMakeS, gName, wipe, tyV, gTup, gCons, gNil,
  rI, rI0, rEq, rNe, scal, rPlus, rPlusI, rPlusS, rCat, rCatA, rIx, rIxL, rIxT, rIxS, rSl, rSlS, rSlL, rSlA, iPlus, iPlusI, iPlusS, ipI, rAll, rAny, LenV, WE, E0, rAppend,
  L2.start, List.map_cons, List.map_nil, List.length_cons, List.length_nil, Nat.zero_add, Nat.add_zero, Nat.reduceAdd, Nat.reduceSub, Nat.sub_self, List.replicate_zero, List.replicate_succ, List.append_nil, List.nil_append, List.cons_append, List.getElem?_cons_zero, List.getElem?_cons_succ, List.set_cons_zero, List.set_cons_succ, Option.some.injEq,
  V.int.injEq, V.str.injEq, V.bl.injEq, V.ref.injEq, V.ty.injEq, HO.ins.injEq, HO.lst.injEq, HO.tup.injEq, List.cons.injEq, reduceCtorEq, false_and, and_false, true_and, and_true, and_assoc, exists_const, exists_false, false_or, or_false, exists_eq_left', exists_eq_left, exists_eq_right, exists_eq_right', exists_and_left, ↓reduceIte, decide_eq_true_eq, Bool.not_eq_true', decide_eq_false_iff_not, if_true, if_false, cxOf, and_self, Bool.not_true, Bool.not_false, Bool.false_eq_true,
  sf_signs, sf_spot, sf_put, T.cl_Source, T.na_Source_signs, T.na_Source_spot, sg_inj, upd_same, rIsS, tyN, kb1, kb2, kb3, kb4, kb5, kb6, kb7, kb8, kb9, kb10, kb11, kb12, kb13, kb14, kb15, kb16, kb17, kb18, kb19, kb20, kb21, tDNewK, rPowW, gStar, gUnl, tLenSetU, tDGet, tDIn, sDPut, tJs, tFmt])
theorem eU_whole {z : Str} {e : Ex} (h : exR 40 (tl z) = some (e, [])) : eU 301 (rem z 0) = some (e, []) := eU_mono (by decide) _ _ ((exR_le 40).2.1 _ _ h)
section
variable {P : Program} {w : World} {K : PySem.W.Frag} {mg : Str → Option Value} {base : Heap}
def spRt : Sp := fun vs H Q _ => ∃ (z : Str), vs = [.str z] ∧ z.length ≤ 300 ∧ okT z ∧ ∀ H', Same H H' → Q (.bl true) H'
theorem sc__law_right : FnScope ["text", "due", "e"] ["text"] (defScope s__law_right) := ⟨rfl, rfl, rfl, by decide +kernel, rfl, by decide +kernel, by decide +kernel⟩
theorem ok__law_right (T : Hd w K mg) {fdo : FuncData} (F_only : FnZ P w K mg base (ZNT K) 1 (He.ga K "_law_only_no_text") fdo ["e"] spOnly) (k_only : PySem.W.keepIn K (.ref (He.ga K "_law_only_no_text")) = true) (b_only : Binds K fdo ["e"] []) (D__law_expr_in : DnD P w K mg base 609 "_law_expr_in" (spExL K 301 301)) (D1__law_depth : DnF P w K mg base 16 "_law_depth" [.int 7] (spDep K 16)) (D_read_expression : Dn P w K mg base 209 "read_expression" (spRE K)) (D_show_expression : Dn P w K mg base 13 "show_expression" (spShow K 5)) : Dn P w K mg base 212 "_law_right" (spRt) := by
  obtain ⟨fd, F⟩ := T.fn__law_right
  refine dn_mk F T.g__law_right (F.binds (ps := ["text"]) fun _ _ _ _ _ _ us hl => match us, hl with | [_], _ => rfl) sc__law_right (fun vs H Q E h => ?_) (fun cdv A outer s H vs Q E hr tk h => ?_)
  · obtain ⟨z, rfl, hz, hok, q⟩ := h
    rfl
  obtain ⟨z, rfl, hz, hok, q⟩ := h
  refine ⟨_, (pss_cons (ps_set (i := 1) sc__law_right.nd rfl (by first | exact Or.inl rfl | exact Or.inr rfl) (pe_dD D__law_expr_in (roomD_of (m := 609) hr (by decide) (by decide)) (Nat.le_refl _) (fun σ => L2N.passAt tk σ) (by rfl) (pa_cons (pv 0) (pa_cons pe_int (pa_cons pe_int pa_nil))))) (pss_cons (ps_if (PW.pt (pw_and (pt_cmpR op_notN1 (pv 1) pe_non (nomark _)) (pw_and1 (pt_cmpR op_eq (pe_ix ix_tup (pv 1) pe_int (fun _ _ => rfl)) (pe_callB call_len (by rfl) T.f_len (by decide +kernel) (pa_cons (pv 0) pa_nil)) (nomark _))))) (pss_cons (ps_if (pt_cmpR op_gt (pe_dF D1__law_depth hr (by first | decide | omega) passF (by rfl) (pa_cons (pe_ix ix_tup (pv 1) pe_int (fun _ _ => rfl)) pa_nil)) pe_int (nomark _)) (pss_one (ps_ret pe_bl)) pss_nil) (pss_one (ps_ret (pe_and (pe_cmpR (op_eqD hr.units) (pe_d D_read_expression hr (by first | decide | omega) (fun σ => L2N.passAt tk σ) (by rfl) (pa_cons (pv 0) pa_nil)) (pe_ix ix_tup (pv 1) pe_int (fun _ _ => rfl)) (nomark _)) (pe_one (pe_cmpR op_eq (pe_d D_show_expression hr (by first | decide | omega) (fun σ => L2N.passAt tk σ) (by rfl) (pa_cons (pe_ix ix_tup (pv 1) pe_int (fun _ _ => rfl)) pa_nil)) (pv 0) (nomark _))))))) pss_nil) (pss_cons (try_when (C := fun cls d => cls = .ref (He.ga K "NoText") ∧ d = none) (i := 2) rfl rfl sc__law_right.nd rfl rfl ⟨(by rfl), (by decide +kernel), .inl T.g_StemError⟩ tk (fun W pn xe tk own => (pss_one (ps_expr (pe_d D_read_expression hr (by first | decide | omega) (fun σ => L2N.passAt tk σ) (by rfl) (pa_cons (pv 0) pa_nil))))) (fun a oe cls d pn hz hf hC => (pss_one (ps_ret (pe_callZ2 (spp := spOnly a) (p := (a, oe)) ⟨_, _, F_only, z_of hz hC, rfl⟩ ⟨(L2H.roomH_of (hr.mono (show 1 ≤ 211 by decide))).dp, (L2H.roomH_of (hr.mono (show 1 ≤ 211 by decide))).un⟩ ⟨rfl, hot_of hz hf⟩ List.mem_cons_self (by rfl) T.g__law_only_no_text k_only b_only (fun σ => passN σ) (pa_cons (pv 2) pa_nil)))))) (pss_one (ps_ret pe_bl))))), ?_⟩
  have hs := sizeLine_eq
  walk_at "rd"
  refine ⟨z, 0, 400, rfl, ⟨Nat.zero_le _, by omega, hok, by omega, by omega⟩, fun e r he p v j H1 s1 np hp hv hr hj => ?_, fun he H1 s1 => ?_⟩
  rotate_left
  · refine ⟨rfl, _, rfl, ?_⟩
    rw [if_neg (by simp)]
    refine ⟨z, rfl, by omega, fun e' he' u H2 s2 hu => ?_, fun hno H2 s2 => ?_⟩
    · have := eU_whole he'
      rw [he] at this
      cases this
    · exact ⟨true, T.e_NoText_StemError, fun _ a ha => ⟨rfl, rfl, .ref a, rfl, rfl, fun H3 s3 => q H3 (s1.trans (s2.trans s3))⟩, fun h => by cases h⟩
  refine ⟨rfl, _, rfl, ?_⟩
  rw [if_pos (by simp)]
  refine ⟨p, rfl, _, SqT.of hp, _, atI_nat (j := 1) rfl, by rw [hs]; omega, rfl, ?_⟩
  by_cases hjl : j = z.length
  rotate_left
  · rw [if_neg (fun h => hjl (by injection h with h; omega))]
    refine ⟨z, rfl, by omega, fun e' he' u H2 s2 hu => ?_, fun hno H2 s2 => ?_⟩
    · have := eU_whole he'
      rw [he] at this
      injection this with this
      injection this with _ hr0
      rw [hr0] at hr
      have := congrArg List.length hr
      rw [rem_len, List.length_nil] at this
      omega
    · exact ⟨true, T.e_NoText_StemError, fun _ a ha => ⟨rfl, rfl, .ref a, rfl, rfl, fun H3 s3 => q H3 (s1.trans (s2.trans s3))⟩, fun h => by cases h⟩
  rw [if_pos (by rw [hjl])]
  have hr0 : r = [] := by rw [← hr, rem_nil (by omega)]
  subst hr0
  obtain ⟨hwf, hshz⟩ := (lvU_cw 301).2 _ _ _ he
  rw [List.append_nil] at hshz
  have hshz : tl z = showE e := hshz
  have hD : Dp K H1 v e.toD := Dp.same dif_sub hv
  have hfr := frm_ex e 7
  have hlen : (showE e).length ≤ 300 := by rw [← hshz, tl_len]; exact hz
  unfold tCall
  walk_at "rd"
  refine ⟨_, SqT.of hp, v, atI_nat (j := 0) rfl, v, e.toD, 7, rfl, hD, toD_tx e, by omega, fun H2 s2 => ⟨_, rfl, ?_⟩⟩
  rw [dpt_ex]
  by_cases h5 : 5 < ((min 7 e.dep : Nat) : Int)
  · rw [if_pos h5]
    exact q H2 (s1.trans s2)
  rw [if_neg h5]
  have hdp : e.dep ≤ 5 := by omega
  have hrb := (read_back e.sz 40 e (Nat.le_refl _) (by decide) hwf (by omega)).2 [] stop_nil
  rw [List.append_nil, ← hshz] at hrb
  refine ⟨z, rfl, by omega, fun e' he' u H3 s3 hu => ?_, fun hno => absurd hrb (hno e)⟩
  rw [hrb] at he'
  injection he' with he'
  injection he' with he' _
  subst he'
  have hsh := toD_shaped hwf (by omega)
  have hD3 := Dp.same (s2.trans s3) hD
  refine ⟨_, SqT.of (s3 _ _ (s2 _ _ hp)), v, atI_nat (j := 0) rfl, e.toD, e.toD, Dp.same dif_sub hu, hD3, hsh, hsh, _, rfl, ?_⟩
  rw [toD_eqv hwf, if_pos rfl]
  refine ⟨_, SqT.of (s3 _ _ (s2 _ _ hp)), v, atI_nat (j := 0) rfl, v, e, rfl, hD3, hwf, by omega, by omega, fun H4 s4 => ?_⟩
  refine ⟨rfl, ?_⟩
  rw [decide_eq_true (by rw [← hshz, st_tl])]
  exact q H4 (s1.trans (s2.trans (s3.trans s4)))
theorem st_signs {f : Nat → Bool} {w : Tx} (h : w.all f = true) (hf : ∀ c, f c = true → c < 1114112) : ∀ c ∈ w, c < 1114112 := fun c hc => hf c (List.all_eq_true.mp h c hc)
theorem dblQ_lt : ∀ w : Tx, (∀ c ∈ w, c < 1114112) → ∀ c ∈ dblQ w, c < 1114112
  | [], _, c, hc => by cases hc
  | x :: r, h, c, hc => by
    have ih := dblQ_lt r fun c hc => h c (List.mem_cons_of_mem _ hc)
    rw [dblQ] at hc
    split at hc
    · rcases List.mem_cons.mp hc with rfl | hc
      · decide
      rcases List.mem_cons.mp hc with rfl | hc
      · decide
      exact ih c hc
    · rcases List.mem_cons.mp hc with rfl | hc
      · exact h _ List.mem_cons_self
      exact ih c hc
theorem shownW_lt {w : Tx} (h : ∀ c ∈ w, c < 1114112) : ∀ c ∈ shownW w, c < 1114112 := by
  intro c hc
  unfold shownW at hc
  split at hc
  · exact h c hc
  · unfold quotedW at hc
    rcases List.mem_cons.mp hc with rfl | hc
    · decide
    rcases List.mem_append.mp hc with hc | hc
    · exact dblQ_lt w h c hc
    · rw [List.mem_singleton.mp hc]; decide
theorem br_lt {x : Tx} {b : Bool} (h : ∀ c ∈ x, c < 1114112) : ∀ c ∈ (if b = true then 40 :: (x ++ [41]) else x), c < 1114112 := by
  intro c hc
  split at hc
  · rcases List.mem_cons.mp hc with rfl | hc
    · decide
    rcases List.mem_append.mp hc with hc | hc
    · exact h c hc
    · rw [List.mem_singleton.mp hc]; decide
  · exact h c hc
theorem cons_lt {a : Nat} {x : Tx} (ha : a < 1114112) (h : ∀ c ∈ x, c < 1114112) : ∀ c ∈ a :: x, c < 1114112 := fun c hc => by
  rcases List.mem_cons.mp hc with rfl | hc
  · exact ha
  · exact h c hc
theorem app_lt {x y : Tx} (hx : ∀ c ∈ x, c < 1114112) (hy : ∀ c ∈ y, c < 1114112) : ∀ c ∈ x ++ y, c < 1114112 := fun c hc => (List.mem_append.mp hc).elim (hx c) (hy c)
mutual
theorem showE_lt : ∀ e : Ex, e.wf = true → ∀ c ∈ showE e, c < 1114112
  | .is w, h => by
    rw [Ex.wf] at h
    rw [showE]
    exact shownW_lt (st_signs h sign_lt)
  | .var n ps, h => by
    rw [Ex.wf, Bool.and_eq_true] at h
    rw [showE]
    exact app_lt (st_signs (name_all h.1) let_lt) (showP_lt ps h.2)
  | .at_ n ps, h => by
    rw [Ex.wf, Bool.and_eq_true] at h
    rw [showE]
    exact cons_lt (by decide) (app_lt (st_signs (name_all h.1) let_lt) (showP_lt ps h.2))
  | .short ps, h => by
    rw [Ex.wf, Bool.and_eq_true] at h
    rw [showE]
    exact cons_lt (by decide) (showP_lt ps h.2)
  | .op s a b, h => by
    rw [Ex.wf, Bool.and_eq_true, Bool.and_eq_true] at h
    rw [showE]
    exact app_lt (showE_lt a h.2.1) (cons_lt (opc_lt s h.1) (br_lt (showE_lt b h.2.2)))
  | .not a, h => by
    rw [Ex.wf] at h
    rw [showE]
    exact cons_lt (by decide) (br_lt (showE_lt a h))
  | .minus a, h => by
    rw [Ex.wf] at h
    rw [showE]
    exact cons_lt (by decide) (br_lt (showE_lt a h))
  | .call n ps, h => by
    rw [Ex.wf, Bool.and_eq_true] at h
    rw [showE]
    exact cons_lt (by decide) (app_lt (st_signs (callOk_all h.1) let_lt) (showP_lt ps h.2))
theorem showP_lt : ∀ es : List Ex, wfS es = true → ∀ c ∈ showP es, c < 1114112
  | [], _ => by rw [showP]; simp
  | e :: r, h => by
    rw [wfS, Bool.and_eq_true] at h
    rw [showP]
    exact cons_lt (by decide) (app_lt (showE_lt e h.1) (showT_lt r h.2))
theorem showT_lt : ∀ es : List Ex, wfS es = true → ∀ c ∈ showT es, c < 1114112
  | [], _ => by rw [showT]; simp
  | e :: r, h => by
    rw [wfS, Bool.and_eq_true] at h
    rw [showT]
    exact cons_lt (by decide) (app_lt (showE_lt e h.1) (showT_lt r h.2))
end
theorem for_rng {ta : TA} {g : TG} {tb : TS} {D : L2.Ends} {σ : SS} {H : Hp} (n : Nat) (h : ∀ R : List V → Hp → Prop, R [.int n] H → ta σ H R) (hn : n < 2 ^ 62) (Pv : Nat → SS → Hp → Prop) (h0 : Pv 0 σ H)
    (hs : ∀ (i : Nat) σ H, i < n → Pv i σ H → g (.int i) σ H fun σ2 H2 => tb { D with nx := Pv (i + 1), ct := Pv (i + 1), bk := D.nx } σ2 H2) (hd : ∀ σ H, Pv n σ H → D.nx σ H) : tFor (iRng1 ta) g tb D σ H := by
  refine h _ ⟨n, rfl, by omega, by omega, ?_⟩
  exact for_range (lo := 0) Pv h0 (fun i σ H hi p => by rw [Int.zero_add]; exact hs i σ H hi p) hd
theorem for_rngB {ta : TA} {g : TG} {tb : TS} {D : L2.Ends} {σ : SS} {H : Hp} (Pn : Nat → Hp → Prop) (h : ∀ R : List V → Hp → Prop, (∀ n H', Pn n H' → R [.int n] H') → ta σ H R)
    (hb : ∀ n H', Pn n H' → n < 2 ^ 62 ∧ ∃ Pv : Nat → SS → Hp → Prop, Pv 0 σ H' ∧ (∀ (i : Nat) σ H, i < n → Pv i σ H → g (.int i) σ H fun σ2 H2 => tb { D with nx := Pv (i + 1), ct := Pv (i + 1), bk := D.nx } σ2 H2) ∧ ∀ σ H, Pv n σ H → D.nx σ H) : tFor (iRng1 ta) g tb D σ H := by
  refine h _ fun n H' pn => ?_
  obtain ⟨hn, Pv, h0, hs, hd⟩ := hb n H' pn
  refine ⟨n, rfl, by omega, by omega, ?_⟩
  exact for_range (lo := 0) Pv h0 (fun i σ H hi p => by rw [Int.zero_add]; exact hs i σ H hi p) hd
def spLaw (K : PySem.W.Frag) : Sp := fun vs H Q _ => ∃ (a : Addr) (xs : List Int), vs = [.ref a] ∧ SqL K H a (xs.map V.int) ∧ ∀ H', Q (.bl true) H'
theorem cutS_le (z : Str) (n : Nat) : (cutS z none (some (n : Int))).length ≤ n := by
  have g1 : HT.sIx z.length z.length (some (n : Int)) = min n z.length := HT.sIx_nat _ _ n
  show (((z.cps.toList.drop (HT.sIx z.length 0 none)).take (HT.sIx z.length z.length (some (n : Int)) - HT.sIx z.length 0 none)).toArray).size ≤ n
  rw [List.size_toArray, List.length_take, g1]
  omega
theorem lE_mono {a b : Nat} (h : a ≤ b) : lE a ≤ lE b := by
  induction h with
  | refl => exact Nat.le_refl _
  | step _ ih => rw [lE]; omega
theorem cE_mono {a b : Nat} (h : a ≤ b) : cE a ≤ cE b := by
  induction h with
  | refl => exact Nat.le_refl _
  | step _ ih => rw [cE]; omega
theorem sc_law : FnScope ["script", "k", "bag", "turn", "text", "change"] ["script"] (defScope s_law) := ⟨rfl, rfl, rfl, by decide +kernel, rfl, by decide +kernel, by decide +kernel⟩
theorem fn_law (T : Hd w K mg) {fd : FuncData} (F : Fun K "law" "law" s_law (He.ga K "law") fd) (D__law_cell_at : Dn P w K mg base 1 "_law_cell_at" (spCell K)) (D__law_bag : Dn P w K mg base 1 "_law_bag" spBag) (D__law_draw : Dn P w K mg base 1 "_law_draw" spDraw) (D__law_expr : Dn P w K mg base 17 "_law_expr" (spXp K 5)) (D__law_shown : Dn P w K mg base 12 "_law_shown" (spShow K 5)) (D__law_changed : Dn P w K mg base 2 "_law_changed" Q.spChg) (D__law_right : Dn P w K mg base 212 "_law_right" spRt) : FnOk P w K mg base (L2N.CX P w) 216 (He.ga K "law") fd ["script"] (spLaw K) := by
  refine okN F sc_law (fun vs H Q E h => ?_) (fun cdv A outer s H vs Q E hr tk h => ?_)
  · obtain ⟨a, xs, rfl, hL, q⟩ := h
    rfl
  obtain ⟨a, xs, rfl, hL, q⟩ := h
  refine ⟨_, (pss_cons (ps_for (passes_of rfl) rfl (pi_range1 (by rfl) T.f_range (pa_cons (pe_callB (call_max2 rfl) (by rfl) T.f_max (by decide +kernel) (pa_cons pe_int (pa_cons (pe_callB (call_min2 rfl) (by rfl) T.f_min (by decide +kernel) (pa_cons pe_int (pa_cons (pe_callB call_len (by rfl) T.f_len (by decide +kernel) (pa_cons (pv 0) pa_nil)) pa_nil))) pa_nil))) pa_nil)) (pg_name (i := 1) sc_law.nd rfl (by first | exact Or.inl rfl | exact Or.inr rfl)) (pss_cons (ps_set (i := 2) sc_law.nd rfl (by first | exact Or.inl rfl | exact Or.inr rfl) (pe_d D__law_bag hr (by first | decide | omega) (fun σ => L2N.passAt tk σ) (by rfl) (pa_cons (pe_d D__law_cell_at hr (by first | decide | omega) (fun σ => L2N.passAt tk σ) (by rfl) (pa_cons (pv 0) (pa_cons (pv 1) pa_nil))) (pa_cons (pv 1) pa_nil)))) (pss_one (ps_for (passes_of rfl) rfl (pi_range1 (by rfl) T.f_range (pa_cons pe_int pa_nil)) (pg_name (i := 3) sc_law.nd rfl (by first | exact Or.inl rfl | exact Or.inr rfl)) (pss_cons (ps_set (i := 4) sc_law.nd rfl (by first | exact Or.inl rfl | exact Or.inr rfl) (pe_d D__law_shown hr (by first | decide | omega) (fun σ => L2N.passAt tk σ) (by rfl) (pa_cons (pe_d D__law_expr hr (by first | decide | omega) (fun σ => L2N.passAt tk σ) (by rfl) (pa_cons (pv 2) (pa_cons (pe_op op_add pe_int (pe_d D__law_draw hr (by first | decide | omega) (fun σ => L2N.passAt tk σ) (by rfl) (pa_cons (pv 2) (pa_cons pe_int pa_nil)))) pa_nil))) pa_nil))) (pss_one (ps_for (passes_of rfl) rfl (pi_range1 (by rfl) T.f_range (pa_cons (pe_op op_add pe_int (pe_d D__law_draw hr (by first | decide | omega) (fun σ => L2N.passAt tk σ) (by rfl) (pa_cons (pv 2) (pa_cons pe_int pa_nil)))) pa_nil)) (pg_name (i := 5) sc_law.nd rfl (by first | exact Or.inl rfl | exact Or.inr rfl)) (pss_cons (ps_set (i := 4) sc_law.nd rfl (by first | exact Or.inl rfl | exact Or.inr rfl) (pe_slice sl_str (pe_d D__law_changed hr (by first | decide | omega) (fun σ => L2N.passAt tk σ) (by rfl) (pa_cons (pv 2) (pa_cons (pv 4) pa_nil))) po_none (po_some pe_int))) (pss_one (ps_if (pt_not (pt_val (pe_d D__law_right hr (by first | decide | omega) (fun σ => L2N.passAt tk σ) (by rfl) (pa_cons (pv 4) pa_nil)))) (pss_one (ps_ret pe_bl)) pss_nil)))))))))) (pss_one (ps_ret pe_bl))), ?_⟩
  have hs := sizeLine_eq
  walk_at "rd"
  obtain ⟨N, hN, hN2⟩ : ∃ N : Nat, N ≤ 14 ∧ (if (if ((xs.map V.int).length : Int) < 14 then ((xs.map V.int).length : Int) else 14) > 1 then (if ((xs.map V.int).length : Int) < 14 then ((xs.map V.int).length : Int) else 14) else 1) = (N : Int) := by
    refine ⟨(if (if ((xs.map V.int).length : Int) < 14 then ((xs.map V.int).length : Int) else 14) > 1 then (if ((xs.map V.int).length : Int) < 14 then ((xs.map V.int).length : Int) else 14) else 1).toNat, ?_, ?_⟩
    · split <;> split <;> omega
    · split <;> split <;> omega
  refine for_rng N (fun R h => ?_) (by omega) (fun i σ H' => (∃ c1 c2 c3 c4 c5, σ = [some (V.ref a), c1, c2, c3, c4, c5]) ∧ Same H H') ⟨⟨_, _, _, _, _, rfl⟩, Same.refl _⟩ ?_ ?_
  · walk_at "rd"
    refine ⟨_, .inl ⟨_, hL, rfl⟩, ?_⟩
    rw [hN2]
    exact h
  · rintro i σ H1 hi ⟨⟨c1, c2, c3, c4, c5, rfl⟩, s1⟩
    walk_at "rd"
    refine ⟨a, xs, i, rfl, s1.seq hL, by omega, fun c => ⟨c, i, rfl, by omega, by omega, fun b H2 nb s2 hb kb => ?_⟩⟩
    refine for_rng 3 (fun R h => h) (by decide) (fun t σ H3 => (∃ c3 c4 c5, σ = [some (V.ref a), some (V.int i), some (V.ref b), c3, c4, c5]) ∧ But b H1 H3 ∧ BagAt H3 b (t * (32 + cE 3))) ⟨⟨_, _, _, rfl⟩, But.of s2, by rw [Nat.zero_mul]; exact hb⟩ ?_ ?_
    · rintro t σ H3 ht ⟨⟨c3, c4, c5, rfl⟩, u3, b3⟩
      walk_at "rd"
      have hbig := big_eq
      have hc4 : cE 3 < 10 ^ 9 := by decide +kernel
      have hl4 : lE 3 ≤ 5000000 := by decide +kernel
      have htm : t * (32 + cE 3) ≤ 2 * (32 + cE 3) := Nat.mul_le_mul_right _ (by omega)
      refine drawQ b3 (by decide) (by omega) (fun r H4 l0 l1 b4 u4 => ?_)
      obtain ⟨d, ed, hd0, hd1⟩ : ∃ d : Nat, (1 : Int) + r = (d : Int) ∧ 1 ≤ d ∧ d ≤ 4 := ⟨(1 + r).toNat, by omega, by omega, by omega⟩
      have hcd : cE (d - 1) ≤ cE 3 := cE_mono (by omega)
      have hld : lE (d - 1) ≤ lE 3 := lE_mono (by omega)
      refine ⟨r, rfl, b, d, _, by rw [ed], hd0, by omega, b4, by omega, fun v e H5 hw hdp hl hv b5 u5 => ?_⟩
      have hD : Dp K H5 v e.toD := Dp.same dif_sub hv
      refine ⟨v, e, rfl, hD, hw, by omega, by omega, fun H6 s6 => ?_⟩
      have u6 := ((u3.trans u4).trans u5).trans (But.of s6)
      have b6 := b5.same s6
      generalize hN5 : t * (32 + cE 3) + 1 + cE (d - 1) = N5 at *
      refine for_rngB (fun n H' => n ≤ 3 ∧ BagAt H' b (N5 + 1) ∧ But b H1 H') (fun R hR => ?_) (fun n H7 pn => ?_)
      · walk_at "rd"
        refine drawQ b6 (by decide) (by omega) fun r2 H7 m0 m1 b7 u7 => ⟨r2, rfl, ?_⟩
        have := hR (1 + r2).toNat H7 ⟨by omega, b7, u6.trans u7⟩
        rw [show (((1 + r2).toNat : Nat) : Int) = 1 + r2 by omega] at this
        exact this
      · obtain ⟨hn, b7, u7⟩ := pn
        refine ⟨by omega, fun j σ Hc => (∃ z c5, σ = [some (V.ref a), some (V.int i), some (V.ref b), some (V.int (t : Int)), some (V.str z), c5] ∧ z.length ≤ 5000000 ∧ okT z) ∧ But b H1 Hc ∧ BagAt Hc b (N5 + 1 + j * 10), ⟨⟨_, _, rfl, by rw [st_len]; omega, fun c hc => showE_lt e hw c hc⟩, u7, b7⟩, ?_, ?_⟩
        · rintro j σ Hc hj ⟨⟨z, c5, rfl, hz, hok⟩, uc, bc⟩
          walk_at "rd"
          refine ⟨b, z, _, rfl, bc, by omega, hz, hok, fun z' H8 hok' hz' b8 u8 => ?_⟩
          refine ⟨_, rfl, by rw [hs]; omega, ?_⟩
          have h300 : (cutS z' none (some (300 : Int))).length ≤ 300 := cutS_le z' 300
          refine ⟨_, rfl, h300, Sk.Q.okT_cut hok' _ _, fun H9 s9 => ?_⟩
          refine ⟨true, rfl, ?_⟩
          rw [if_neg (by decide)]
          exact ⟨by omega, Sk.Q.okT_cut hok' _ _, (uc.trans u8).trans (But.of s9), (b8.same s9).mono (by omega)⟩
        · rintro σ Hc ⟨⟨z, c5, rfl, hz, hok⟩, uc, bc⟩
          refine ⟨⟨_, _, _, rfl⟩, uc, bc.mono ?_⟩
          rw [Nat.add_mul, Nat.one_mul]
          omega
    · rintro σ H3 ⟨⟨c3, c4, c5, rfl⟩, u3, b3⟩
      exact ⟨⟨_, _, _, _, _, rfl⟩, s1.trans (but_sameN nb (Same.refl _) u3)⟩
  · rintro σ H' ⟨⟨c1, c2, c3, c4, c5, rfl⟩, s6⟩
    walk_at "rd"
    exact q H'
end
end Sk

/-! ## E53 -/
namespace Sk
open PySem PySem.Spec PyProof.Rows L2
/-- an exception of a call, whatever the world -/
def CXA (P : Program) : CXT := fun outer H s E u s' => ∃ w, L2N.CX P w outer H s E u s'
theorem fn_cxa {P : Program} {w : World} {K : PySem.W.Frag} {mg : Str → Option Value} {base : Heap} {k : Nat} {f : Addr} {fd : FuncData} {ps : List Str} {sp : Sp} (F : FnOk P w K mg base (L2N.CX P w) k f fd ps sp) : FnOk P w K mg base (CXA P) k f fd ps sp := by
  refine ⟨F.len, fun A outer s H args us vs Q E hr e0 hb r hsp => codeAny_mono (F.run A outer s H args us vs Q E hr e0 hb r hsp) fun r s' q => ?_⟩
  cases r with
  | error e => exact ⟨w, q⟩
  | ok fl => cases fl <;> exact q
end Sk
open PySem PySem.W PyProof.Rows
theorem PySem.Challenge.cw_stemkeep_k53_texts_of_no_expression_holds : PySem.Challenge.rw_stemkeep_k53_texts_of_no_expression.Holds := by
  refine head53 ?_
  refine L2.walk_ofE (l := PySem.Challenge.rw_stemkeep_k53_texts_of_no_expression) (n := 63) (k := 216) (x := "script") (CX := Sk.CXA PySem.Challenge.rw_stemkeep_k53_texts_of_no_expression.prog) rfl (by decide) (by kernel_rfl) ⟨by decide, by decide, by decide⟩ ?F ?X
  case F =>
    intro w mg fa h Y G hmg0
    obtain ⟨K, KX, T⟩ := Sk.hd53 Y G
    have hmg : mg ("law" : PySem.Str) = some (.ref fa) := by
      have e : (HandSHeadRun.topDef Sk.R.prog 79).name = ("law" : PySem.Str) := by kernel_rfl
      rw [← e]
      exact hmg0
    obtain ⟨fd, F⟩ := T.fn_law
    have e := hmg.symm.trans T.g_law
    injection e with e
    injection e with e
    subst e
    have b : ∀ (s : Shared) (v : Value), BindsTo s fd ⟨[v], []⟩ [("script", v)] := by
      obtain ⟨_, _, _, _, _, _, _, _, _, rfl, _, _⟩ := F.ex
      exact fun s v => .of_eq rfl
    exact ⟨K, fd, Sk.spLaw _, KX, b, fun H a ns hl _ hS => ⟨a, ns, rfl, hS, fun _ => rfl⟩, fun base _ _ => by
      obtain ⟨fdo, Fo, ko, bo⟩ := Sk.only_ok (P := PySem.Challenge.rw_stemkeep_k53_texts_of_no_expression.prog) (base := base) T
      exact Sk.fn_cxa (Sk.fn_law T F (Sk.ok__law_cell_at T) (Sk.ok__law_bag T) (Sk.ok__law_draw T) (Sk.dr_chain T 5) (Sk.ls_chain T 5 (by decide)).1 (Sk.Q.ok__law_changed T (Sk.ok__law_draw T) (Sk.ok__law_signs T)) (Sk.ok__law_right T Fo ko bo ((Sk.rd_chain T 301).1 301 (by decide)).2.1 (Sk.dep_one T 15) (Sk.ok_read T) (Sk.sh_chain T 5).1))⟩
  case X =>
    rintro H s e s' ⟨w, a, B, H', cls, d, _, _, _, _, _, _, _, q⟩
    exact q
