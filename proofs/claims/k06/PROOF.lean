import PyProof.Rows.All
import Wide.All
import OpenK.AllK
import Wide.FinOn
import HandS.ForMost
import HandS.ForExc
import HandS.CallSlots
import HandS.IsInst
import HandS.ExcIs
import HandS.ExcField
import HandS.Deep
import HandS.SortInts
import HandS.SortRule
import HandS.TupAny
import HandS.Zip
import HandS.Conv
import HandS.Style
import HandS.ExcValue
import PyProof.ReprRoads
import HandS.Walk
import HandS.Text
import PyProof.Rows.SetFrom
import HandS.Strs
import HandS.Iter
import HandS.More
import HandS.DictTup
import PyProof.DictMoreH
import PyProof.ReprLen
import KE.SortUse
import HandS.SortKw
import HandS.Lambda
import KE.KMinBuiltin
import HandS.Finally
import HandS.SetFor
import KE.DataMinMax
import KE.KDictWalk
import PyProof.DictUpdate
import PyProof.StrBlock2
import PyProof.TupleOfStr
import PySem.Challenge.RW_joinside_k06_texts
set_option Elab.async false
set_option linter.all false
set_option maxRecDepth 100000
set_option maxHeartbeats 4000000
set_option autoImplicit false
/-! Joinside, base: promises of defs where the stack holds no guard (repr may be called), calls by them. -/
namespace J
open PySem PySem.Spec PyProof.Rows L2

/-- a def's promise, asked where no guard is on the stack -/
structure FnG (P : Program) (w : World) (K : PySem.W.Frag) (mg : Str → Option Value) (base : Heap) (k : Nat) (f : Addr) (fd : FuncData) (ps : List Str) (sp : Sp) : Prop where
  len : ∀ vs H Q E, sp vs H Q E → vs.length = ps.length
  run : ∀ (A : Around) (outer : List Env) (s : Shared) (H : Hp) (args : Args) (us : List Value) (vs : List V) (Q : VK) (E : XK), Room k A → A.guards = some [] → Env0 P w K mg base A outer s H →
    BindsTo s fd args (ps.zip us) → Vals vs us → sp vs H Q E → codeAny (model P w) A (.call (.ref f) args) (CR (L2.CX P w) outer P w H s Q E) s

section
variable {P : Program} {w : World} {K : PySem.W.Frag} {mg : Str → Option Value} {base : Heap}
theorem FnG.mono {j k : Nat} {f : Addr} {fd : FuncData} {ps : List Str} {sp : Sp} (F : FnG P w K mg base j f fd ps sp) (h : j ≤ k) : FnG P w K mg base k f fd ps sp :=
  ⟨F.len, fun A outer s H args us vs Q E r => F.run A outer s H args us vs Q E (r.mono h)⟩
theorem FnG.imp {k : Nat} {f : Addr} {fd : FuncData} {ps : List Str} {sp sp' : Sp} (F : FnG P w K mg base k f fd ps sp) (h : ∀ vs H Q E, sp' vs H Q E → sp vs H Q E) : FnG P w K mg base k f fd ps sp' :=
  ⟨fun vs H Q E q => F.len vs H Q E (h _ _ _ _ q), fun A outer s H args us vs Q E r g e b v q => F.run A outer s H args us vs Q E r g e b v (h _ _ _ _ q)⟩

/-- the rule of a def -/
theorem okG {x qual : Str} {st : Stmt} {f : Addr} {fd : FuncData} {N ps : List Str} {k : Nat} {sp : Sp} (F : Fun K x qual st f fd) (S : FnScope N ps (defScope st)) (len : ∀ vs H Q E, sp vs H Q E → vs.length = ps.length)
    (walk : ∀ (cdv : Value) (A : Around) (outer : List Env) (s : Shared) (H : Hp) (vs : List V) (Q : VK) (E : XK), Room k (A.deeper (envOfC qual (defScope st) s.heap.objs.size f cdv)) → A.guards = some [] → sp vs H Q E →
      ∃ t, PSs (cxOf (L2.CX P w) P w K mg base N qual (defScope st) f cdv A outer s H E) (defBody st) t ∧ t { nx := fun _ H' => Q .non H', rt := Q } (start N vs) H) : FnG P w K mg base (k + 1) f fd ps sp := by
  obtain ⟨oc, od, kV, doc, pm, an, cdv, ct, osl, rfl, lk, hcd⟩ := F.ex
  constructor
  · exact len
  intro A outer s H args us vs Q E room gd env bnd rel asked
  have size_eq := len _ _ _ _ asked
  have kin : K.In s.heap := env.mod.kin.keeps fun b o z => (env.bs b o z).1
  have nolim : s.heap.NoLimit := env.mod.nolimit.keeps fun b o z => (env.bs b o z).1
  have kinds : ∀ y ∈ ps.zip us, (defScope st).names.lookup y.1 = some .local ∨ ((defScope st).names.lookup y.1 = some .cell ∧ ((cellsFrom (s.heap.objs.size + 1) (defScope st).names []).lookup y.1).isSome = true) := by
    rintro ⟨n, v⟩ mem
    have q := S.par n (List.of_mem_zip mem).1
    cases q with
    | inl q => exact Or.inl q
    | inr q => exact Or.inr (And.intro q (PySem.W.cellsFrom_some _ _ _ (Or.inl q)))
  apply codeAny_call_function room.depth (kin _ _ lk) rfl S.co S.gen rfl (PySem.W.codeRec_of kin hcd)
  apply bnd
  refine wpAny_newFunctionEnv_cells S.kind kinds (fun fr hfr s1 inC => ?_)
  subst hfr
  constructor
  · exact nolim.keeps inC.toInCall.keep
  apply codeAny_func
  have todo := walk cdv A outer s H vs Q E (room.deeper _) gd asked
  obtain ⟨t, derived, reading⟩ := todo
  have I0 := inv_start (E := E) (CX := L2.CX P w) S room.hd env size_eq rel inC
  apply wpAny_mono (derived.run [] s1 (start N vs) H _ I0 reading)
  · intro fl s' got
    match fl, got with
    | .ret u, ⟨v, σ', H', J, rv, q⟩ => exact ⟨v, H', J.os, J.bare, J.base, J.hok, rv, q⟩
    | .next, ⟨σ', H', J, q⟩ => exact ⟨V.non, H', J.os, J.bare, J.base, J.hok, rfl, q⟩
    | .brk, ⟨_, _, _, q⟩ => exact q.elim
    | .cont, ⟨_, _, _, q⟩ => exact q.elim
  · intro e s' q
    exact q
end

/-! ### calls -/
/-- f(..), what is raised wished for at the caller's slots -/
def tCl (sp : Sp) (W : WX) (t : TA) : TE := fun σ H Q => t σ H fun vs H1 => sp vs H1 Q fun cls d H' => W cls d σ H'
/-- o.m(..) for an o of several classes; D: which class keeps which promise -/
def tCm (D : Addr → Sp → Prop) (m : Str) (W : WX) (to : TE) (t : TA) : TE := fun σ H Q => to σ H fun x H1 => ∃ a C dx fs, x = .ref a ∧ H1 a = some (.ins C dx fs) ∧ fs.lookup m = none ∧
  ∃ sp, D C sp ∧ t σ H1 fun vs H2 => sp (x :: vs) H2 Q fun cls d H' => W cls d σ H'
/-- C(..) -/
def tMk (C : Addr) (sp : Sp) (W : WX) (t : TA) : TE := fun σ H Q => t σ H fun vs H1 => ∀ x dx, H1 x = none → H1 dx = none → dx ≠ x →
  sp (.ref x :: vs) (upd (upd H1 dx (.own x)) x (.ins C dx [])) (fun v H2 => v = .non ∧ Q (.ref x) H2) fun cls d H' => W cls d σ H'

/-- what the caller needs of a method of a class -/
structure MethG (P : Program) (w : World) (K : PySem.W.Frag) (mg : Str → Option Value) (base : Heap) (k : Nat) (C : Addr) (m : Str) (sp : Sp) : Prop where
  cls : Cls K C
  ex : ∃ f fd ps, Meth K C m f ∧ FnG P w K mg base k f fd ps sp ∧ Binds K fd ps []

section
variable {X : Cx} {k : Nat} {f C : Addr} {fd : FuncData} {ps : List Str} {sp : Sp} {W : WX} {x m : Str} {p pos apos : Pos} {e o : Expr} {es : List Expr} {ta : TE} {t : TA}
theorem run_g {pins : List (Addr × Obj)} {σ : L2.St} {H : Hp} {s : Shared} {Q : VK} {us : List Value} {vs : List V} (F : FnG X.prog X.w X.K X.mg X.base k f fd ps sp) (hr : Room k X.A) (hG : X.A.guards = some []) (hb : Binds X.K fd ps []) (tk : Takes X W)
    (I : Inv X pins σ H s) (r : Vals vs us) (h : sp vs H Q fun cls d H' => W cls d σ H') : wpAny (model X.prog X.w) X.A (call (.ref f) us) (EP X pins σ Q) X.xe s := by
  have sizes : (us ++ []).length = ps.length := by
    have a := r.length
    have b := F.len _ _ _ _ h
    simp only [List.append_nil]
    omega
  have bound := hb s us I.kIn sizes
  rw [List.append_nil] at bound
  apply wpAny_call
  apply codeAny_mono (F.run X.A X.stack s H ⟨us, []⟩ us vs Q _ hr hG I.env0 bound r h)
  intro res s' got
  match res, got with
  | .error err, got => exact passAt tk σ pins H s err s' I got
  | .ok (.ret u), got => exact I.after got
  | .ok .next, got => exact got.elim
  | .ok .brk, got => exact got.elim
  | .ok .cont, got => exact got.elim
theorem pe_cl (F : FnG X.prog X.w X.K X.mg X.base k f fd ps sp) (hr : Room k X.A) (hG : X.A.guards = some []) (hg : Gl X x) (hm : X.mg x = some (.ref f)) (hk : PySem.W.keepIn X.K (.ref f) = true) (hb : Binds X.K fd ps []) (tk : Takes X W)
    (ha : PA X (e :: es) t) (hdb : (x == ("__debug__" : Str)) = false := by decide) (he : starEach (e :: es) X.env = (false, eval e X.env) :: starEach es X.env := by rfl) (hpl : (backTo pos (starEach es X.env)).any (·.1) = false := by rfl) :
    PE X (.Call (.Name x p) (e :: es) [] pos) (tCl sp W t) := by
  constructor
  intro pins s σ H Q I h
  apply wpAny_Call_Name_kw
  apply ld_glob I hg hm _ hdb
  apply PySem.W.callWith_K (h₀ := X.base) I.ok.mod.kin hk _ he hpl
  exact thn (ha.run pos pins s σ H _ I h) fun us s1 got => by
    obtain ⟨vs, H1, I1, r, q⟩ := got
    exact ⟨I1.kIn, run_g F hr hG hb tk I1 r q⟩
theorem pe_cl0 (F : FnG X.prog X.w X.K X.mg X.base k f fd ps sp) (hr : Room k X.A) (hG : X.A.guards = some []) (hg : Gl X x) (hm : X.mg x = some (.ref f)) (hk : PySem.W.keepIn X.K (.ref f) = true) (hb : Binds X.K fd ps []) (tk : Takes X W)
    (hdb : (x == ("__debug__" : Str)) = false := by decide) : PE X (.Call (.Name x p) [] [] pos) (tCl sp W tNil) := by
  constructor
  intro pins s σ H Q I h
  apply wpAny_Call_Name_kw
  apply ld_glob I hg hm _ hdb
  exact PySem.W.callWith_K0 I.kIn hk (run_g (us := []) F hr hG hb tk I .nil h)
theorem pe_cm {pl : Sem Bool} {D : Addr → Sp → Prop} (he : PE X o ta) (hD : ∀ C sp, D C sp → MethG X.prog X.w X.K X.mg X.base k C m sp) (hr : Room k X.A) (hG : X.A.guards = some []) (tk : Takes X W) (ha : PA X (e :: es) t)
    (hst : starEach (e :: es) X.env = (false, eval e X.env) :: starEach es X.env := by rfl) (hpl : (backTo pos (starEach es X.env)).any (·.1) = false := by rfl)
    (ht : eval (.Call (.Attribute o m apos) (e :: es) [] pos) X.env = (do
      let ov ← eval o X.env
      standAt apos.atName
      let (f, first) ← holding [ov] (getMethod ov m pl)
      callWith pos f first (backTo pos (starEach (e :: es) X.env)) (backToKw pos (keywordEach [] X.env))) := by rfl) :
    PE X (.Call (.Attribute o m apos) (e :: es) [] pos) (tCm D m W ta t) := by
  constructor
  intro pins s σ H Q I h
  refine PySem.W.methodCall_KW (pl := pl) (thn (he.run pins s σ H _ I h) ?_) ht
  rintro u s1 ⟨x, H1, I1, rx, a, C, dx, fs, rfl, ea, l, sp, dsp, q⟩
  obtain ⟨cls, f, fd, ps, hm, F, hb⟩ := hD C sp dsp
  obtain rfl : u = Value.ref a := rx
  refine getmeth_ok I1 ea cls hm l ?_
  refine PySem.W.callWith_K (first := [.ref a]) (h₀ := X.base) I.ok.mod.kin hm.kp (thn (ha.run pos pins s1 σ H1 _ I1 q) ?_) hst hpl
  rintro us s2 ⟨vs, H2, I2, r, q2⟩
  exact ⟨I2.kIn, run_g (us := .ref a :: us) (vs := .ref a :: vs) F hr hG hb tk I2 (.cons rfl r) q2⟩
theorem pe_cm0 {pl : Sem Bool} {D : Addr → Sp → Prop} (he : PE X o ta) (hD : ∀ C sp, D C sp → MethG X.prog X.w X.K X.mg X.base k C m sp) (hr : Room k X.A) (hG : X.A.guards = some []) (tk : Takes X W)
    (ht : eval (.Call (.Attribute o m apos) [] [] pos) X.env = (do
      let ov ← eval o X.env
      standAt apos.atName
      let (f, first) ← holding [ov] (getMethod ov m pl)
      callWith pos f first (backTo pos (starEach [] X.env)) (backToKw pos (keywordEach [] X.env))) := by rfl) :
    PE X (.Call (.Attribute o m apos) [] [] pos) (tCm D m W ta tNil) := by
  constructor
  intro pins s σ H Q I h
  refine PySem.W.methodCall_KW (pl := pl) (thn (he.run pins s σ H _ I h) ?_) ht
  rintro u s1 ⟨x, H1, I1, rx, a, C, dx, fs, rfl, ea, l, sp, dsp, q⟩
  obtain ⟨cls, f, fd, ps, hm, F, hb⟩ := hD C sp dsp
  obtain rfl : u = Value.ref a := rx
  refine getmeth_ok I1 ea cls hm l ?_
  exact PySem.W.callWith_K0 (first := [.ref a]) I1.kIn hm.kp (run_g (us := [.ref a]) (vs := [.ref a]) F hr hG hb tk I1 (.cons rfl .nil) q)
theorem pe_mkG (M : Mk X.K C f) (F : FnG X.prog X.w X.K X.mg X.base k f fd ps sp) (hr : Room (k + 1) X.A) (hG : X.A.guards = some []) (hg : Gl X x) (hm : X.mg x = some (.ref C)) (hb : Binds X.K fd ps []) (tk : Takes X W)
    (ha : PA X (e :: es) t) (hdb : (x == ("__debug__" : Str)) = false := by decide) (he : starEach (e :: es) X.env = (false, eval e X.env) :: starEach es X.env := by rfl) (hpl : (backTo pos (starEach es X.env)).any (·.1) = false := by rfl) :
    PE X (.Call (.Name x p) (e :: es) [] pos) (tMk C sp W t) := by
  constructor
  intro pins s σ H Q I h
  apply wpAny_Call_Name_kw
  apply ld_glob I hg hm _ hdb
  refine PySem.W.callWith_K (h₀ := X.base) I.ok.mod.kin M.kp (thn (ha.run pos pins s σ H _ I h) ?_) he hpl
  rintro us s1 ⟨vs, H1, I1, r, q⟩
  refine ⟨I1.kIn, ?_⟩
  have asked := q (s1.heap.objs.size + 1) s1.heap.objs.size (I1.hok.fresh (Nat.le_succ _)) (I1.hok.fresh (Nat.le_refl _)) (Nat.ne_of_lt (Nat.lt_succ_self _))
  have made := Inv.made (C := C) I1
  have rel : Vals (V.ref (s1.heap.objs.size + 1) :: vs) (Value.ref (s1.heap.objs.size + 1) :: us) := .cons rfl r
  have sizes : ((Value.ref (s1.heap.objs.size + 1) :: us) ++ []).length = ps.length := by
    have a := rel.length
    have b := F.len _ _ _ _ asked
    simp only [List.append_nil]
    omega
  have bound := hb _ (Value.ref (s1.heap.objs.size + 1) :: us) made.kIn sizes
  rw [List.append_nil] at bound
  apply wpAny_call
  apply make_map (f := f) I1.kIn M.makes M.init (beq_iff_eq.mp M.fn)
  have gd : (X.A.under (.builtin "type.__call__" ⟨.ref C :: us, []⟩)).guards = some [] := by
    first | exact hG | (simp [Around.under, hG, Code.guards, Code.isGuard, guardIds, pushGuards])
  refine codeAny_mono (F.run _ X.stack _ _ ⟨Value.ref (s1.heap.objs.size + 1) :: us, []⟩ _ _ _ _ (hr.make C us []) gd (made.env0.make C us []) bound rel asked) ?_
  intro res s' got
  match res, got with
  | .error err, got => exact passAt tk σ pins _ _ err s' made got
  | .ok (.ret u), got =>
    obtain ⟨v, H', I3, rv, ev, q3⟩ := made.after got
    subst ev
    exact ⟨rv, ⟨V.ref (s1.heap.objs.size + 1), H', I3, rfl, q3⟩⟩
  | .ok .next, got => exact got.elim
  | .ok .brk, got => exact got.elim
  | .ok .cont, got => exact got.elim
end
/-- one suite after another, what lies between being told by I -/
def tSeqJ (t u : TS) : TS := fun D σ H => ∃ I : L2.St → Hp → Prop, t { D with nx := I } σ H ∧ ∀ σ' H', I σ' H' → u D σ' H'
theorem pss_consJ {X : Cx} {st : Stmt} {rest : List Stmt} {t u : TS} (h1 : PS X st t) (h2 : PSs X rest u) : PSs X (st :: rest) (tSeqJ t u) := by
  refine ⟨fun pins s σ H D I ⟨J, h, hj⟩ => wpAny_execs_cons (thn (h1.run pins s σ H { D with nx := J } I h) fun f s1 q => ?_)⟩
  match f, q with
  | .next, ⟨σ', H', I', q⟩ => exact h2.run pins s1 σ' H' D I' (hj σ' H' q)
  | .ret v, q => exact q
  | .brk, q => exact q
  | .cont, q => exact q
end J

/-! Joinside, steps: one lemma for each combinator of a reading, from the left. -/
namespace J
open PySem PySem.Spec L2
abbrev Sl := List (Option V)
section
variable {K : PySem.W.Frag} {σ : Sl} {H H1 H2 : Hp} {Q : VK} {ta tb tc te tv to ti : TE} {tt tu : TT} {tr : TA} {x y z v : V} {D : Ends} {t u : TS} {g : TG} {W : WX} {sp : Sp} {i n : Nat} {a b p C dx : Addr} {xs ys : List V} {k m : Int} {f : Str} {fs : List (Str × V)} {E : XK}
/-! ### expressions -/
theorem s_var (h : σ[i]? = some (some v)) (q : Q v H) : tVar i σ H Q := ⟨v, h, q⟩
theorem s_c (q : Q v H) : tC v σ H Q := q
theorem s_op {r : R2} (q : ta σ H fun x H1 => tb σ H1 fun y H2 => r x y H2 Q) : tOp r ta tb σ H Q := q
theorem s_un {r : V → Hp → VK → Prop} (q : ta σ H fun x H1 => r x H1 Q) : tUn r ta σ H Q := q
theorem s_I0 {g : Int → Int → V} (q : Q (g k m) H) : rI0 g (.int k) (.int m) H Q := ⟨_, _, rfl, rfl, q⟩
theorem s_I {C : Int → Int → Prop} {g : Int → Int → V} (c : C k m) (q : Q (g k m) H) : rI C g (.int k) (.int m) H Q := ⟨_, _, rfl, rfl, c, q⟩
theorem s_U {g : Int → V} (q : Q (g k) H) : rU g (.int k) H Q := ⟨_, rfl, q⟩
theorem s_test {Q : Bool → Hp → Prop} (q : te σ H fun x H' => ∃ c, x = .bl c ∧ Q c H') : tTest te σ H Q := q
theorem s_B {Q : Bool → Hp → Prop} (q : te σ H fun x H' => ∃ c, x = .bl c ∧ Q c H') : tB te σ H Q := q
theorem s_bl {c : Bool} {R : Bool → Prop} (q : R c) : ∃ d, V.bl c = .bl d ∧ R d := ⟨c, rfl, q⟩
theorem s_and {Q : Bool → Hp → Prop} (q : tt σ H fun c H1 => if c = true then tu σ H1 Q else Q false H1) : tAnd tt tu σ H Q := q
theorem s_or {Q : Bool → Hp → Prop} (q : tt σ H fun c H1 => if c = true then Q true H1 else tu σ H1 Q) : tOr tt tu σ H Q := q
theorem s_not {Q : Bool → Hp → Prop} (q : tt σ H fun c H1 => Q (!c) H1) : tNot tt σ H Q := q
theorem s_andV (q : ta σ H fun x H1 => ∃ c, x = .bl c ∧ if c = true then tb σ H1 Q else Q (.bl false) H1) : tAndV ta tb σ H Q := q
theorem s_orV (q : ta σ H fun x H1 => ∃ c, x = .bl c ∧ if c = true then Q (.bl true) H1 else tb σ H1 Q) : tOrV ta tb σ H Q := q
theorem s_notV (q : ta σ H fun x H1 => ∃ c, x = .bl c ∧ Q (.bl (!c)) H1) : tNotV ta σ H Q := q
theorem s_if (q : tt σ H fun c H1 => if c = true then ta σ H1 Q else tb σ H1 Q) : tIf tt ta tb σ H Q := q
theorem s_blV {c : Bool} {R : Bool → Prop} (q : R c) : ∃ d, V.bl c = .bl d ∧ R d := ⟨c, rfl, q⟩
theorem s_yes {A B : Prop} (q : A) : if true = true then A else B := by rw [if_pos rfl]; exact q
theorem s_no {A B : Prop} (q : B) : if false = true then A else B := by rw [if_neg Bool.false_ne_true]; exact q
theorem s_ite {c : Bool} {A B : Prop} (h1 : c = true → A) (h2 : c = false → B) : if c = true then A else B := by
  cases c with
  | true => exact s_yes (h1 rfl)
  | false => exact s_no (h2 rfl)
theorem s_then {c : Bool} {A B : Prop} (h : c = true) (q : A) : if c = true then A else B := by subst h; exact s_yes q
theorem s_else {c : Bool} {A B : Prop} (h : c = false) (q : B) : if c = true then A else B := by subst h; exact s_no q
/-- a test of ints decided by cases -/
theorem s_dec {c : Prop} [Decidable c] {A B : Prop} (h1 : c → A) (h2 : ¬ c → B) : if decide c = true then A else B := s_ite (fun h => h1 (of_decide_eq_true h)) fun h => h2 (of_decide_eq_false h)
theorem s_decN {c : Prop} [Decidable c] {A B : Prop} (h1 : ¬ c → A) (h2 : c → B) : if (!decide c) = true then A else B := s_ite (fun h => h1 (by simpa using h)) fun h => h2 (by simpa using h)
theorem s_chain {r r' : R2} (q : ta σ H fun x H1 => tb σ H1 fun y H2 => r x y H2 fun z H3 => ∃ k, z = .bl k ∧ if k = true then tc σ H3 fun v H4 => r' y v H4 Q else Q (.bl false) H3) : tChain r r' ta tb tc σ H Q := q
theorem s_cons {Q : List V → Hp → Prop} (q : te σ H fun x H1 => tr σ H1 fun xs H2 => Q (x :: xs) H2) : tCons te tr σ H Q := q
theorem s_nil {Q : List V → Hp → Prop} (q : Q [] H) : tNil σ H Q := q
theorem s_cb {r : List V → Hp → VK → Prop} (q : tr σ H fun vs H1 => r vs H1 Q) : tCB r tr σ H Q := q
theorem s_tup (q : tr σ H fun xs H1 => xs.length ≤ sizeLine ∧ ∀ p, H1 p = none → Q (.ref p) (upd H1 p (.tup xs))) : tTup tr σ H Q := q
theorem s_lst (q : tr σ H fun xs H1 => xs.length ≤ sizeLine ∧ ∀ p, H1 p = none → Q (.ref p) (upd H1 p (.lst xs))) : tLst tr σ H Q := q
theorem s_new {R : Addr → Prop} (h : n ≤ sizeLine) (q : ∀ p, H p = none → R p) : n ≤ sizeLine ∧ ∀ p, H p = none → R p := ⟨h, q⟩
/-- calls -/
theorem s_cl (q : tr σ H fun vs H1 => sp vs H1 Q fun cls d H' => W cls d σ H') : tCl sp W tr σ H Q := q
theorem s_cm {Dd : Addr → Sp → Prop} {m : Str} (q : to σ H fun x H1 => ∃ a C dx fs, x = .ref a ∧ H1 a = some (.ins C dx fs) ∧ fs.lookup m = none ∧ ∃ sp, Dd C sp ∧ tr σ H1 fun vs H2 => sp (x :: vs) H2 Q fun cls d H' => W cls d σ H') : tCm Dd m W to tr σ H Q := q
theorem s_mk (q : tr σ H fun vs H1 => ∀ x dx, H1 x = none → H1 dx = none → dx ≠ x → sp (.ref x :: vs) (upd (upd H1 dx (.own x)) x (.ins C dx [])) (fun v H2 => v = .non ∧ Q (.ref x) H2) fun cls d H' => W cls d σ H') : tMk C sp W tr σ H Q := q
/-- fields -/
theorem s_fld (q : ta σ H fun x H1 => ∃ a C dx fs v, x = .ref a ∧ H1 a = some (.ins C dx fs) ∧ Cls K C ∧ NoAttr K C f ∧ fs.lookup f = some v ∧ Q v H1) : tFld K ta f σ H Q := q
theorem s_fldE {R : V → Prop} (h : H a = some (.ins C dx fs)) (c : Cls K C) (no : NoAttr K C f) (l : fs.lookup f = some v) (q : R v) : ∃ a' C dx fs v, V.ref a = .ref a' ∧ H a' = some (.ins C dx fs) ∧ Cls K C ∧ NoAttr K C f ∧ fs.lookup f = some v ∧ R v := ⟨a, C, dx, fs, v, rfl, h, c, no, l, q⟩
theorem s_cmE {Dd : Addr → Sp → Prop} {m : Str} {R : Sp → Prop} (h : H a = some (.ins C dx fs)) (l : fs.lookup m = none) (d : Dd C sp) (q : R sp) : ∃ a' C dx fs, V.ref a = .ref a' ∧ H a' = some (.ins C dx fs) ∧ fs.lookup m = none ∧ ∃ sp, Dd C sp ∧ R sp := ⟨a, C, dx, fs, rfl, h, l, sp, d, q⟩
/-! ### statements -/
theorem s_seq (q : t { D with nx := u D } σ H) : tSeq t u D σ H := q
theorem s_next (q : D.nx σ H) : tNext D σ H := q
theorem s_brk (q : D.bk σ H) : tBreak D σ H := q
theorem s_cont (q : D.ct σ H) : tCont D σ H := q
theorem s_drop (q : te σ H fun _ H1 => D.nx σ H1) : tDrop te D σ H := q
theorem s_ret (q : te σ H D.rt) : tRet te D σ H := q
theorem s_retN (q : D.rt .non H) : tRetN D σ H := q
theorem s_ifS (q : tt σ H fun b H1 => if b = true then t D σ H1 else u D σ H1) : tIfS tt t u D σ H := q
theorem s_asg (q : te σ H fun x H1 => g x σ H1 D.nx) : tAsg te g D σ H := q
theorem s_name {Q : Sl → Hp → Prop} {σ' : Sl} (e : σ.set i (some v) = σ') (q : Q σ' H) : gName i v σ H Q := by subst e; exact q
theorem s_gtup {gs : TGs} {Q : Sl → Hp → Prop} (h : SqT K H a xs) (l : xs.length = n) (q : gs xs σ H Q) : gTup K n gs (.ref a) σ H Q := ⟨a, xs, rfl, h, l, q⟩
theorem s_gcons {gs : TGs} {Q : Sl → Hp → Prop} (q : g x σ H fun σ' H' => gs xs σ' H' Q) : gCons g gs (x :: xs) σ H Q := ⟨x, xs, rfl, q⟩
theorem s_gnil {Q : Sl → Hp → Prop} (q : Q σ H) : gNil [] σ H Q := ⟨rfl, q⟩
theorem s_gsub {ts : TSet} {Q : Sl → Hp → Prop} (q : to σ H fun o H1 => ti σ H1 fun i H2 => ts o i v H2 fun H3 => Q σ H3) : gSub to ti ts v σ H Q := q
theorem s_aug {tp : TIp} (h : σ[i]? = some (some x)) (q : te σ H fun y H1 => tp x y H1 fun z H2 => D.nx (σ.set i (some z)) H2) : tAug i te tp D σ H := ⟨x, h, q⟩
theorem s_augS {tg : V → V → Hp → VK → Prop} {tp : TIp} {ts : TSet} (q : to σ H fun o H1 => ti σ H1 fun i H2 => tg o i H2 fun x H3 => te σ H3 fun y H4 => tp x y H4 fun z H5 => ts o i z H5 fun H6 => D.nx σ H6) : tAugS to ti te tg tp ts D σ H := q
theorem s_sfld (q : tv σ H fun y H1 => ta σ H1 fun x H2 => ∃ a C dx fs, x = .ref a ∧ H2 a = some (.ins C dx fs) ∧ Cls K C ∧ NoAttr K C f ∧ fs.length < 1000 ∧ D.nx σ (upd H2 a (.ins C dx (putF f y fs)))) : sFld K ta tv f D σ H := q
theorem s_sfldE {R : Addr → Addr → Addr → List (Str × V) → Prop} (h : H a = some (.ins C dx fs)) (c : Cls K C) (no : NoAttr K C f) (l : fs.length < 1000) (q : R a C dx fs) : ∃ a' C dx fs, V.ref a = .ref a' ∧ H a' = some (.ins C dx fs) ∧ Cls K C ∧ NoAttr K C f ∧ fs.length < 1000 ∧ R a' C dx fs := ⟨a, C, dx, fs, rfl, h, c, no, l, q⟩
theorem s_seqJ {t u : TS} {D : Ends} {σ : Sl} {H : Hp} (I : Sl → Hp → Prop) (h1 : t { D with nx := I } σ H) (h2 : ∀ σ' H', I σ' H' → u D σ' H') : tSeqJ t u D σ H := ⟨I, h1, h2⟩
/-! ### slices -/
theorem s_sl {r : V → Option Int → Option Int → Hp → VK → Prop} {tl th : TO} (q : te σ H fun x H1 => tl σ H1 fun l H2 => th σ H2 fun u H3 => r x l u H3 Q) : tSl r te tl th σ H Q := q
theorem s_part {Q : Option Int → Hp → Prop} (q : te σ H fun x H1 => ∃ i, x = .int i ∧ Q (some i) H1) : tPart te σ H Q := q
theorem s_int {R : Int → Prop} (q : R k) : ∃ i, V.int k = .int i ∧ R i := ⟨k, rfl, q⟩
theorem s_nopart {Q : Option Int → Hp → Prop} (q : Q none H) : tNoPart σ H Q := q
/-! ### heaps -/
theorem up_old {o o' : HO} (hn : H p = none) (h : H a = some o) : upd H p o' a = some o := by rw [upd_ne (ne_of_none h hn)]; exact h
theorem up_ne {o o' : HO} (hn : a ≠ p) (h : H a = some o) : upd H p o' a = some o := by rw [upd_ne hn]; exact h
theorem up_free {o : HO} (hn : a ≠ p) (h : H a = none) : upd H p o a = none := by rw [upd_ne hn]; exact h
theorem free_of {o : HO} (h : upd H p o a = none) : H a = none := by
  by_cases e : a = p
  · subst e; rw [upd_same] at h; cases h
  · rw [upd_ne e] at h; exact h
theorem free_ne {o : HO} (h : upd H p o a = none) : a ≠ p := fun e => by subst e; rw [upd_same] at h; cases h
theorem same_at {o : HO} (s : Same H H1) (h : H a = some o) : H1 a = some o := s a o h
theorem same_free (s : Same H H1) (h : H1 a = none) : H a = none := s.free h
theorem Same.new {o : HO} (h : H p = none) : Same H (upd H p o) := fun b u e => up_old h e
theorem Same.more {o : HO} (s : Same H H1) (h : H1 p = none) : Same H (upd H1 p o) := s.trans (Same.new h)
theorem Same.mut {o : HO} (s : Same H H1) (h : H p = none) : Same H (upd H1 p o) := fun b u e => up_ne (ne_of_none e h) (s b u e)
theorem Same.sqT {xs : List V} (e : Same H H1) (h : SqT K H a xs) : SqT K H1 a xs := by
  rcases h with (h | ⟨o, h⟩) | h
  · exact .inl (.inl (e _ _ h))
  · exact .inl (.inr ⟨o, e _ _ h⟩)
  · exact .inr h
theorem sqL_upd {o : HO} (hn : a ≠ p) (h : SqL K H a xs) : SqL K (upd H p o) a xs := by
  rcases h with (h | ⟨u, h⟩) | h
  · exact .inl (.inl (up_ne hn h))
  · exact .inl (.inr ⟨u, up_ne hn h⟩)
  · exact .inr h
end
end J

/-! Joinside, rules: what stands at a value (Th), isinstance, repr, == and in, exceptions that are kept. -/
namespace J
open PySem PySem.Spec PyProof.Rows L2

/-! ### built-in kinds of things -/
inductive Th (K : PySem.W.Frag) (H : Hp) : V → String → Prop where
  | non : Th K H .non "NoneType"
  | bl (b : Bool) : Th K H (.bl b) "bool"
  | int (i : Int) : Th K H (.int i) "int"
  | str (x : Str) : Th K H (.str x) "str"
  | lst {a : Addr} {xs : List V} (e : H a = some (.lst xs)) : Th K H (.ref a) "list"
  | frz {a : Addr} {o : Obj} {xs : List V} (e : H a = some (.frz o (.lst xs))) : Th K H (.ref a) "list"
  | tup {a : Addr} {xs : List V} (e : H a = some (.tup xs)) : Th K H (.ref a) "tuple"
  | dK {a : Addr} {kvs : List (Key × V)} (e : H a = some (.dK kvs)) : Th K H (.ref a) "dict"
  | dT {a : Addr} {kvs : List (List Key × V)} (e : H a = some (.dT kvs)) : Th K H (.ref a) "dict"
theorem Th.ty {K : PySem.W.Frag} {H : Hp} {x : V} {n : String} (h : Th K H x n) : TyX K H x (.type n) := by
  cases h with
  | non => exact .base .non
  | bl b => exact .base (.bl b)
  | int i => exact .base (.int i)
  | str x => exact .base (.str x)
  | lst e => exact .base (.lst e)
  | frz e => exact .base (.frz e)
  | tup e => exact .base (.tup e)
  | dK e => exact .base (.dK e)
  | dT e => exact .base (.dT e)
theorem Th.same {K : PySem.W.Frag} {H H' : Hp} {x : V} {n : String} (s : Same H H') (h : Th K H x n) : Th K H' x n := by
  cases h with
  | non => exact .non
  | bl b => exact .bl b
  | int i => exact .int i
  | str x => exact .str x
  | lst e => exact .lst (s _ _ e)
  | frz e => exact .frz (s _ _ e)
  | tup e => exact .tup (s _ _ e)
  | dK e => exact .dK (s _ _ e)
  | dT e => exact .dT (s _ _ e)
/-- whether a thing of kind n is one of T -/
def isB (n T : String) : Bool := n == T || (n == "bool" && T == "int")
def kinds : List String := ["NoneType", "bool", "int", "str", "list", "tuple", "dict"]
theorem Th.kind {K : PySem.W.Frag} {H : Hp} {x : V} {n : String} (h : Th K H x n) : n ∈ kinds := by
  cases h <;> simp [kinds]
theorem kit_tab : ∀ n ∈ kinds, ∀ T ∈ kinds, (fastBuiltinMro n).map (·.contains (.type T)) = some (isB n T) ∧ PySem.W.kitMeta T = true := by decide +kernel
theorem kit_is {K : PySem.W.Frag} {n T : String} (hn : n ∈ kinds) (hT : T ∈ kinds) : PySem.W.kitOne K (.type n) (.type T) = some (isB n T) := by
  obtain ⟨h1, h2⟩ := kit_tab n hn T hT
  unfold PySem.W.kitOne
  by_cases e : (Value.type n == Value.type T) = true
  · have e' : n = T := by
      have := eq_of_beq e
      injection this
    subst e'
    rw [if_pos e]
    simp [isB]
  · rw [if_neg e]
    show (if PySem.W.kitMeta T = true then PySem.W.subIn K (.type n) (.type T) else none) = _
    rw [if_pos h2]
    exact h1

/-! ### exceptions that are kept -/
/-- an exception of the class cls, its own dict at d, at a -/
def ExR (cls : Value) (d : Option Addr) (a : Addr) : HO := .ext fun h => ∃ (oe : Obj) (vs : Array Value), h.get? a = some oe ∧ Zc cls d oe ∧ oe.data = .fields vs
theorem exR_ok {P : Program} {w : World} {H : Hp} {h : Heap} {a : Addr} {cls : Value} {d : Option Addr} {oe : Obj} {vs : Array Value} (e : h.get? a = some oe) (z : Zc cls d oe) (f : oe.data = .fields vs) : ObjOk P w H h a (ExR cls d a) :=
  ⟨⟨oe, vs, e, z, f⟩, ⟨oe, e⟩, fun _ _ ⟨o, v, q, r⟩ k => ⟨o, v, k o q, r⟩⟩
/-- isinstance(e, c), e an exception that is kept, without a dict of its own -/
def rIsK (K : PySem.W.Frag) : List V → Hp → VK → Prop := fun xs H Q => ∃ (a D : Addr) (c : V) (u : Value) (b : Bool), xs = [.ref a, c] ∧ ClsV c u ∧ H a = some (ExR (.ref D) none a) ∧ ExcC K D ∧ PySem.W.kitOne K (.ref D) u = some b ∧ Q (.bl b) H
theorem call_isK {X : Cx} : CallR X (.builtin "isinstance") (rIsK X.K) := by
  intro pins s σ H xs us Q I r h
  obtain ⟨a, D, c, u, b, rfl, k, ha, C, e, q⟩ := h
  obtain ⟨u1, u2, rfl, r1, r2⟩ := vals2 r
  obtain rfl : u1 = Value.ref a := r1
  have e2 := k.eq r2
  subst e2
  obtain ⟨⟨oe, vs, hget, hz, hv⟩, _, _⟩ := I.hok a _ ha
  have at_a : PySem.W.InstAt s.heap a oe D none := by
    obtain ⟨oc, od, oda, osl⟩ := oe
    obtain ⟨h1, h2⟩ := hz
    dsimp only at h1 h2 hv
    subst h1 h2 hv
    exact ⟨hget, rfl, rfl, trivial⟩
  refine PySem.W.kia_one (PySem.W.handS_kitx_exc C.hg C.hk C.hs C.hd C.ha C.hn C.ht C.hm) I.kIn at_a e (fun z => nomatch z) ?_
  intro tk
  exact ⟨.bl b, H, I.kept (t' := tk) fun _ _ z => z, rfl, q⟩
def rIs (K : PySem.W.Frag) : List V → Hp → VK → Prop := fun xs H Q => rIsi K xs H Q ∨ rIsK K xs H Q
theorem call_is {X : Cx} : CallR X (.builtin "isinstance") (rIs X.K) := call_isi.or call_isK
section
variable {K : PySem.W.Frag} {H : Hp} {Q : VK} {x c : V} {n T : String} {a C D dx : Addr} {b : Bool} {u : Value} {fs : List (Str × V)}
theorem s_is (h : Th K H x n) (hT : T ∈ kinds) (q : Q (.bl (isB n T)) H) : rIs K [x, .ty T] H Q := .inl ⟨x, .ty T, _, _, _, rfl, .ty T, h.ty, kit_is h.kind hT, q⟩
theorem s_isOwn {t : Value} (h : TyX K H x t) (k : ClsV c u) (e : PySem.W.kitOne K t u = some b) (q : Q (.bl b) H) : rIs K [x, c] H Q := .inl ⟨x, c, _, _, _, rfl, k, h, e, q⟩
theorem s_isExc (h : H a = some (ExR (.ref D) none a)) (hC : ExcC K D) (k : ClsV c u) (e : PySem.W.kitOne K (.ref D) u = some b) (q : Q (.bl b) H) : rIs K [.ref a, c] H Q := .inr ⟨a, D, c, u, b, rfl, k, h, hC, e, q⟩
end

/-! ### repr -/
def rRepr (K : PySem.W.Frag) : List V → Hp → VK → Prop := fun xs H Q => ∃ (a : Addr) (d : PyData), xs = [.ref a] ∧ Dp K H (.ref a) d ∧ d.showable = true ∧ d.depth ≤ 100 ∧ d.shown.length ≤ sizeLine ∧ Q (.str d.shown) H
mutual
theorem noDict {K : PySem.W.Frag} {H : Hp} : ∀ (d : PyData) (v : V), Dp K H v d → d.hasDict = false
  | .none, _, _ => by simp only [PyData.hasDict]
  | .bool _, _, _ => by simp only [PyData.hasDict]
  | .int _, _, _ => by simp only [PyData.hasDict]
  | .str _, _, _ => by simp only [PyData.hasDict]
  | .list ds, _, h => by
    cases h with
    | lst _ ha =>
      simp only [PyData.hasDict]
      exact noDictAll ds _ ha
  | .tuple ds, _, h => by
    cases h with
    | tup _ ha =>
      simp only [PyData.hasDict]
      exact noDictAll ds _ ha
  | .dict _, _, h => by cases h
theorem noDictAll {K : PySem.W.Frag} {H : Hp} : ∀ (ds : List PyData) (vs : List V), DpAll K H vs ds → PyData.hasDictAll ds = false
  | [], _, _ => by simp only [PyData.hasDictAll]
  | d :: ds, _, h => by
    cases h with
    | cons h1 h2 => simp only [PyData.hasDictAll, noDict d _ h1, noDictAll ds _ h2, Bool.or_false]
end
theorem call_repr {X : Cx} (hG : X.A.guards = some []) (hu : X.A.units + 200 < cLine) : CallR X (.builtin "repr") (rRepr X.K) := by
  intro pins s σ H xs us Q I r h
  obtain ⟨a, d, rfl, hd, hs, hdp, hz, q⟩ := h
  obtain ⟨u, rfl, ru⟩ := vals1 r
  obtain rfl : u = Value.ref a := ru
  obtain ⟨as, rd⟩ := Dp.reads I d (.ref a) (.ref a) hd rfl
  refine repr_of_reads' (h₀ := s.heap) rd hs (fun h2 => absurd (noDict d _ hd) (by rw [h2]; decide)) hG (by omega) (fun _ _ e => e) ?_ hz
  intro h' u tk keep
  exact ⟨.str d.shown, H, I.kept (t' := tk) keep, ⟨u, rfl⟩, q⟩
theorem s_repr {K : PySem.W.Frag} {H : Hp} {Q : VK} {a : Addr} {d : PyData} (hd : Dp K H (.ref a) d) (hs : d.showable = true) (hp : d.depth ≤ 100) (hz : d.shown.length ≤ sizeLine) (q : Q (.str d.shown) H) : rRepr K [.ref a] H Q := ⟨a, d, rfl, hd, hs, hp, hz, q⟩

/-! ### == and != -/
def rEqA (K : PySem.W.Frag) : R2 := fun x y H Q => rEq x y H Q ∨ rEqD K x y H Q
def rNeA (K : PySem.W.Frag) : R2 := fun x y H Q => rNe x y H Q ∨ rNeD K x y H Q
theorem op_eqA {X : Cx} (hu : X.A.units + 64 < cLine) : OpR X (compareOp .Eq) (rEqA X.K) := op_eq.or (op_eqD hu)
theorem op_neA {X : Cx} (hu : X.A.units + 64 < cLine) : OpR X (compareOp .NotEq) (rNeA X.K) := op_ne.or (op_neD hu)
section
variable {K : PySem.W.Frag} {H : Hp} {Q : VK} {x y : V} {d e : PyData}
theorem s_eq (h : scal x y = true) (q : Q (.bl (decide (x = y))) H) : rEqA K x y H Q := .inl ⟨h, q⟩
theorem s_ne (h : scal x y = true) (q : Q (.bl (!decide (x = y))) H) : rNeA K x y H Q := .inl ⟨h, q⟩
theorem s_eqI {i j : Int} (q : Q (.bl (decide (i = j))) H) : rEqA K (.int i) (.int j) H Q := .inl ⟨rfl, by rw [dec_int, Bool.beq_eq_decide_eq]; exact q⟩
theorem s_neI {i j : Int} (q : Q (.bl (!decide (i = j))) H) : rNeA K (.int i) (.int j) H Q := .inl ⟨rfl, by rw [dec_int, Bool.beq_eq_decide_eq]; exact q⟩
theorem s_eqS {i j : Str} (q : Q (.bl (decide (i = j))) H) : rEqA K (.str i) (.str j) H Q := .inl ⟨rfl, by rw [dec_str, Bool.beq_eq_decide_eq]; exact q⟩
theorem s_neS {i j : Str} (q : Q (.bl (!decide (i = j))) H) : rNeA K (.str i) (.str j) H Q := .inl ⟨rfl, by rw [dec_str, Bool.beq_eq_decide_eq]; exact q⟩
theorem s_eqD (h1 : Dp K H x d) (h2 : Dp K H y e) (s1 : SeqAt.shaped d = true) (s2 : SeqAt.shaped e = true) (q : Q (.bl (PyData.eqv d e)) H) : rEqA K x y H Q := .inr ⟨d, e, h1, h2, s1, s2, q⟩
theorem s_neD (h1 : Dp K H x d) (h2 : Dp K H y e) (s1 : SeqAt.shaped d = true) (s2 : SeqAt.shaped e = true) (q : Q (.bl (!PyData.eqv d e)) H) : rNeA K x y H Q := .inr ⟨d, e, h1, h2, s1, s2, q⟩
end

/-! ### + and * -/
def rAddA (K : PySem.W.Frag) : R2 := fun x y H Q => ((∃ i j, x = .int i ∧ y = .int j ∧ Q (.int (i + j)) H) ∨ (∃ i j, x = .str i ∧ y = .str j ∧ i.length + j.length ≤ sizeLine ∧ Q (.str (i ++ j)) H)) ∨ (rCat x y H Q ∨ rCatA K x y H Q)
theorem op_addA {X : Cx} : OpR X (binaryOp .Add) (rAddA X.K) := (op_add.or op_add_str).or (op_cat.or op_catA)
def rMulA (K : PySem.W.Frag) : R2 := fun x y H Q => rI CMul (fun i j => .int (i * j)) x y H Q ∨ rRep x y H Q
theorem op_mulA {X : Cx} : OpR X (binaryOp .Mult) (rMulA X.K) := op_mul.or op_rep
section
variable {K : PySem.W.Frag} {H : Hp} {Q : VK} {a b : Addr} {xs ys : List V} {i j k : Int} {x y : Str}
theorem s_addI (q : Q (.int (i + j)) H) : rAddA K (.int i) (.int j) H Q := .inl (.inl ⟨i, j, rfl, rfl, q⟩)
theorem s_addS (hz : x.length + y.length ≤ sizeLine) (q : Q (.str (x ++ y)) H) : rAddA K (.str x) (.str y) H Q := .inl (.inr ⟨x, y, rfl, rfl, hz, q⟩)
theorem s_addL (ha : H a = some (.lst xs)) (hb : H b = some (.lst ys)) (hz : xs.length + ys.length ≤ sizeLine) (q : ∀ p, H p = none → Q (.ref p) (upd H p (.lst (xs ++ ys)))) : rAddA K (.ref a) (.ref b) H Q := .inr (.inl ⟨a, b, xs, ys, rfl, rfl, ha, hb, hz, q⟩)
theorem s_mulI (h : CMul i j) (q : Q (.int (i * j)) H) : rMulA K (.int i) (.int j) H Q := .inl ⟨i, j, rfl, rfl, h, q⟩
theorem s_mulL (ha : H a = some (.lst xs)) (h1 : -(2 ^ 63) ≤ k) (h2 : k < 2 ^ 63) (hz : xs.length * k.toNat ≤ sizeLine) (q : ∀ p, H p = none → Q (.ref p) (upd H p (.lst (List.replicate k.toNat xs).flatten))) : rMulA K (.ref a) (.int k) H Q := .inr ⟨a, k, xs, rfl, rfl, ha, h1, h2, hz, q⟩
end
end J
namespace J
open PySem PySem.Spec PyProof.Rows L2
section
variable {K : PySem.W.Frag} {C D : Addr} {b : Bool}
theorem kit_own (h1 : PySem.W.isClsIn K C = true) (h2 : PySem.W.typeIn K (.ref C) = some (.type "type")) (h0 : PySem.W.subIn K (.ref C) (.ref C) = some true) (h3 : PySem.W.subIn K (.ref D) (.ref C) = some b) : PySem.W.kitOne K (.ref D) (.ref C) = some b := by
  unfold PySem.W.kitOne
  by_cases e : (Value.ref D == Value.ref C) = true
  · have e' : D = C := by
      have := eq_of_beq e
      injection this
    subst e'
    rw [if_pos e]
    exact h0.symm.trans h3
  · rw [if_neg e]
    have h1' : (PySem.W.clsIn K C).isSome = true := h1
    show (if ((PySem.W.clsIn K C).isSome && PySem.W.typeIn K (.ref C) == some (.type "type")) = true then PySem.W.subIn K (.ref D) (.ref C) else none) = _
    rw [h1', h2]
    exact h3
theorem kit_val (h3 : PySem.W.subIn K (.ref D) (.type "ValueError") = some b) : PySem.W.kitOne K (.ref D) (.type "ValueError") = some b := by
  have m : PySem.W.kitMeta "ValueError" = true := by decide +kernel
  show (if (Value.ref D == Value.type "ValueError") = true then some true else if PySem.W.kitMeta "ValueError" = true then PySem.W.subIn K (.ref D) (.type "ValueError") else none) = _
  rw [if_neg (by intro z; have := eq_of_beq z; cases this), m, if_pos rfl]
  exact h3
theorem exm_own (h0 : PySem.W.subIn K (.ref C) (.type "BaseException") = some true) (hd : PySem.W.hasDictIn K C = true) (h2 : PySem.W.typeIn K (.ref C) = some (.type "type")) (h3 : PySem.W.subIn K (.ref D) (.ref C) = some b) : PySem.W.exmOne K (.ref D) (.ref C) = some b := PySem.W.exm_ref h0 hd h2 h3
/-- what isinstance asks of an instance's class -/
structure IsC (K : PySem.W.Frag) (C : Addr) : Prop where
  ha : PySem.W.findIn K (.ref C) "__class__" = some (some (.builtin "object.__class__"))
  hn : PySem.W.specialIn K (.builtin "object.__class__") "__get__" = some (some (.builtin "getset_descriptor.__get__"))
  ht : PySem.W.takesIn K (.builtin "object.__class__") = some true
  hm : PySem.W.mroIn K C (.type "object") = some true
end
/-! ### rooms, built-in names -/
theorem room65 {k : Nat} {A : Around} (r : Room k A) : A.units + 65 < cLine := by have := r.un; omega
theorem room200 {k : Nat} {A : Around} (r : Room k A) : A.units + 200 < cLine := by have := r.un; omega
theorem bt_len : bootBuiltins "len" = some (.builtin "len") := by decide +kernel
theorem bt_isinstance : bootBuiltins "isinstance" = some (.builtin "isinstance") := by decide +kernel
theorem bt_repr : bootBuiltins "repr" = some (.builtin "repr") := by decide +kernel
theorem bt_sorted : bootBuiltins "sorted" = some (.builtin "sorted") := by decide +kernel
theorem bt_min : bootBuiltins "min" = some (.builtin "min") := by decide +kernel
theorem bt_max : bootBuiltins "max" = some (.builtin "max") := by decide +kernel
theorem bt_sum : bootBuiltins "sum" = some (.builtin "sum") := by decide +kernel
theorem bt_all : bootBuiltins "all" = some (.builtin "all") := by decide +kernel
theorem bt_int : bootBuiltins "int" = some (.type "int") := by decide +kernel
theorem bt_bool : bootBuiltins "bool" = some (.type "bool") := by decide +kernel
theorem bt_str : bootBuiltins "str" = some (.type "str") := by decide +kernel
theorem bt_list : bootBuiltins "list" = some (.type "list") := by decide +kernel
theorem bt_tuple : bootBuiltins "tuple" = some (.type "tuple") := by decide +kernel
theorem bt_dict : bootBuiltins "dict" = some (.type "dict") := by decide +kernel
theorem bt_set : bootBuiltins "set" = some (.type "set") := by decide +kernel
theorem bt_ValueError : bootBuiltins "ValueError" = some (.type "ValueError") := by decide +kernel
/-! ### more unions -/
/-- a = is the only class that has the method -/
def One (C0 : Addr) (sp0 : Sp) : Addr → Sp → Prop := fun C sp => C = C0 ∧ sp = sp0
theorem one_me {P : Program} {w : World} {K : PySem.W.Frag} {mg : Str → Option Value} {base : Heap} {k : Nat} {C0 : Addr} {m : Str} {sp0 : Sp} (h : MethG P w K mg base k C0 m sp0) : ∀ C sp, One C0 sp0 C sp → MethG P w K mg base k C m sp := by
  rintro C sp ⟨rfl, rfl⟩
  exact h
section
variable {X : Cx}
def rLenA (K : PySem.W.Frag) : List V → Hp → VK → Prop := fun xs H Q => (∃ p ys, xs = [.ref p] ∧ (SqL K H p ys ∨ SqT K H p ys) ∧ Q (.int ys.length) H) ∨ (∃ z, xs = [.str z] ∧ z.length ≤ sizeLine ∧ Q (.int z.length) H)
theorem s_lenL {K : PySem.W.Frag} {H : Hp} {Q : VK} {a : Addr} {xs : List V} (h : SqL K H a xs ∨ SqT K H a xs) (q : Q (.int xs.length) H) : rLenA K [.ref a] H Q := .inl ⟨a, xs, rfl, h, q⟩
theorem s_lenS {K : PySem.W.Frag} {H : Hp} {Q : VK} {z : Str} (h : z.length ≤ sizeLine) (q : Q (.int z.length) H) : rLenA K [.str z] H Q := .inr ⟨z, rfl, h, q⟩
theorem call_lenA : CallR X (.builtin "len") (rLenA X.K) := call_len_seq.or call_len_str
def rIxN (K : PySem.W.Frag) : V → V → Hp → VK → Prop := fun x y H Q => ∃ (p : Addr) (xs : List V) (i : Nat) (v : V), x = .ref p ∧ y = .int i ∧ SqL K H p xs ∧ xs[i]? = some v ∧ Q v H
theorem get_list : PGet X (rIxN X.K) := by
  intro pins s σ H x y v u Q I rx ry h
  obtain ⟨p, xs, i, v', rfl, rfl, hs, h2, q⟩ := h
  obtain rfl : v = Value.ref p := rx
  obtain ⟨t, rfl⟩ := ry
  obtain ⟨its, rv, pl, hz⟩ := I.list hs
  obtain ⟨u', hu, ru⟩ := rv.get h2
  have hl : i < xs.length := (List.getElem?_eq_some_iff.mp h2).1
  have hn := line63
  exact wpAny_getItem_list pl.isList (by omega) (by omega) (by simpa using hu) ⟨v', H, I, ru, q⟩
end
end J

/-! Joinside, try .. except X as n: m = n: the exception is kept, tracked at its address. -/
namespace J
open PySem PySem.Spec PyProof.Rows L2
section
variable {X : Cx} {pins : List (Addr × Obj)} {σ : L2.St} {H : Hp} {s : Shared}
theorem Inv.track {a : Addr} {o : HO} {oe : Obj} {vs : Array Value} (I : L2.Inv X pins σ H s) (ha : s.heap.get? a = some oe) (hd : oe.data = .fields vs) (na : H a = none) (n0 : X.s_0.heap.get? a = none) (nL : a ≠ X.env.locals) (np : ∀ p ∈ X.pn ++ pins, p.1 ≠ a)
    (new : ObjOk X.prog X.w (upd H a o) s.heap a o) : L2.Inv X pins σ (upd H a o) s := by
  have old : ∀ b u, H b = some u → upd H a o b = some u := fun b u e => up_old na e
  have b0 : ∀ b u, X.s_0.heap.get? b = some u → b ≠ a := fun b u e q => by rw [q, n0] at e; cases e
  have nc : ∀ x c, X.env.cells.lookup x = some c → c ≠ a := by
    intro x c e q
    obtain ⟨v, oc, hoc, hcd⟩ := I.cell x c e
    rw [q, ha] at hoc
    injection hoc with hoc
    rw [← hoc, hd] at hcd
    cases hcd
  constructor
  · exact I.ok
  · exact I.os
  · exact I.bare
  · constructor
    · exact I.base.keep
    · exact I.base.slot
    · intro b u e n hx
      exact up_free (b0 b u e) (I.base.free b u e n hx)
    · exact I.base.there
    · exact fun b xs e => old b _ (I.base.tups b xs e)
    · exact fun b u xs e => old b _ (I.base.frzs b u xs e)
    · intro b ps e
      obtain ⟨m, q⟩ := I.base.tbls b ps e
      exact ⟨m, old b _ q⟩
  · exact I.loc
  · exact I.cell
  · exact up_free (Ne.symm nL) I.free
  · exact fun x c e => up_free (nc x c e) (I.freeC x c e)
  · intro p hp
    obtain ⟨e, n, r⟩ := I.pin p hp
    exact ⟨e, up_free (np p hp) n, r⟩
  · intro b u e
    by_cases hb : b = a
    · subst hb
      rw [upd_same] at e
      cases e
      exact new
    · rw [upd_ne hb] at e
      exact (I.hok b u e).stay (fun c v _ q => q) (fun c q => old c _ q) fun c xs q => old c _ q
  · exact I.len
end
/-- what the clause 'except x as n: m = n' wishes of an exception: slot i is n's -/
def wKeep (K : PySem.W.Frag) (c : Value) (i j : Nat) (Wout : WX) (D : Ends) : WX := fun cls d σ H =>
  ∃ b, PySem.W.exmOne K cls c = some b ∧ (b = true → ∀ a, H a = none → D.nx ((σ.set j (some (.ref a))).set i none) (upd H a (ExR cls d a))) ∧ (b = false → Wout cls d σ H)
def tTryK (K : PySem.W.Frag) (c : Value) (i j : Nat) (Wout : WX) (tb : WX → TS) : TS := fun D σ H => tb (wKeep K c i j Wout D) D σ H
theorem ps_try_keep {X : Cx} {x n m : Str} {c : Value} {i j : Nat} {body : List Stmt} {np pos pos' pm pn2 pa : Pos} {tb : WX → TS} {Wout : WX} (hs : X.stack = X.env :: X.outer) (hf : X.env.frame = some X.env.locals) (hex : X.ex = []) (hN : X.N.Nodup)
    (hi : X.N[i]? = some n) (hln : X.env.kindOf n = some .local) (hj : X.N[j]? = some m) (hlm : X.env.kindOf m = some .local) (hij : i ≠ j) (hc : Names X x c) (tk : Takes X Wout)
    (hsw : swapsWith (.Name n pn2) (some (.Name m pm)) pa.line X.env = pure false)
    (hb : ∀ (W : WX) (pn : List (Addr × Obj)) (xe : Value → Shared → Prop), Takes (X.tr pn xe) W → PassesOwn (model X.prog X.w) X.A X.env xe → PSs (X.tr pn xe) body (tb W))
    (hdn : (n == ("__debug__" : Str)) = false := by decide) (hcn : (n == ("__classdict__" : Str)) = false := by decide) :
    PS X (.Try body [.ExceptHandler (some (.Name x np)) (some n) [.Assign [.Name m pm] (.Name n pn2) pa] pos'] [] [] pos) (tTryK X.K c i j Wout tb) := by
  constructor
  intro pins s σ H D I h
  have ok := I.ok
  have frames_eq : X.A.frames = some (X.env :: X.outer) := by rw [ok.frames, hs]
  apply wpAny_Try_except
  have run := (hb (wKeep X.K c i j Wout D) (X.pn ++ pins) (fun e s₁ => wpAny (model X.prog X.w) X.A (noteFrame e X.env) (fun _ s₂ => wpAny (model X.prog X.w) X.A (setFlight e none) (fun _ s₃ =>
    wpAny (model X.prog X.w) X.A (handleBy e X.env [.ExceptHandler (some (.Name x np)) (some n) [.Assign [.Name m pm] (.Name n pn2) pa] pos']) (SP X pins D) X.xe s₃) X.xe s₂) X.xe s₁) ?takes PassesOwn.looking).run [] s σ H D (I.toTry _) h
  case takes =>
    rintro u s' ⟨a, B, sI, pins', σ', H', cls, d, rfl, J', nb, up, sky, na, os, ag, b, hb1, hyes, hno⟩
    have J : L2.Inv X pins σ' H' sI := J'.ofTry ok
    have sky' : Sky B (X.env :: X.outer) a (Zc cls d) X.env.locals s'.heap := by rw [← hs]; exact sky
    refine Sky.land Zc.steady frames_eq hf sky' ?_
    intro h3 fl3 up3
    have J3 : L2.Inv X pins σ' H' { s' with heap := h3 } := J.landed nb fl3.1 (up.trans up3) os ag
    obtain ⟨oe3, vs3, he3, hz3, hd3⟩ := fl3.there
    have outF : a ∉ frs (X.env :: X.outer) := by
      intro hm
      obtain ⟨_, o', e', hnf⟩ := fl3.2.2.1.mem hm
      rw [he3] at e'
      injection e' with e'
      subst e'
      exact hnf _ hd3
    have outL : a ≠ X.env.locals := fun z => outF (List.mem_filterMap.mpr ⟨X.env, List.mem_cons_self, by rw [hf, z]⟩)
    have outO : a ∉ X.fs := by
      intro hm
      obtain ⟨e, he, q⟩ := List.mem_filterMap.mp hm
      exact outF (List.mem_filterMap.mpr ⟨e, List.mem_cons_of_mem _ he, q⟩)
    have noB : B.get? a = none := fl3.2.1
    have noI : ∀ o, sI.heap.get? a ≠ some o := by
      intro o e
      have z := nb a o e (by rw [hs]; exact outF)
      rw [noB] at z
      cases z
    have no0 : X.s_0.heap.get? a = none := by
      cases e : X.s_0.heap.get? a with
      | none => rfl
      | some o =>
        obtain ⟨o', z⟩ := J.base.there a o e (by rw [hex]; exact List.not_mem_nil)
        exact absurd z (noI o')
    have noP : ∀ p ∈ X.pn ++ pins, p.1 ≠ a := fun p hp z => noI p.2 (by rw [← z]; exact (J.pin p hp).1)
    have S3 := J3.suite he3 hd3 na outL outO
    refine wpAny_handleBy_cons (codeAny_handlers_test ?_) (by intro q; cases q)
    have kind_of : PySem.W.Looks (model X.prog X.w) h3 (typeOf (.ref a)) cls := by
      intro A Q E s k q
      exact wpAny_typeOf_ref (k _ _ he3) (by rw [hz3.1]; exact q)
    have isIt := PySem.W.exm_one (M := model X.prog X.w) J3.kIn kind_of hb1
    have ask : ∀ {Q : Value → Shared → Prop} {E : Value → Shared → Prop}, Q c { s' with heap := h3 } → wpAny (model X.prog X.w) (X.A.mark (some (.ref a))) (eval (.Name x np) X.env) Q E { s' with heap := h3 } := by
      intro Q E q
      obtain ⟨hg, hdbg, hm | ⟨hm, hv, hnn⟩⟩ := hc
      · exact ld_glob (X := X.suite a ((a, oe3) :: (X.pn ++ pins))) S3 hg hm q hdbg
      · exact ld_blt (X := X.suite a ((a, oe3) :: (X.pn ++ pins))) S3 hg hm hv q hnn hdbg
    refine ask (isIt.here ?_)
    cases b with
    | true =>
      apply codeAny_handlers_suite_as
      refine HandSPX.lands_againZ fl3 ?_
      intro h4 fl4 up4
      have J4 : L2.Inv X pins σ' H' { s' with heap := h4 } := J.landed nb fl4.1 ((up.trans up3).trans up4) os ag
      obtain ⟨oe4, vs4, he4, hz4, hd4⟩ := fl4.there
      have S4 := J4.suite he4 hd4 na outL outO
      have nd : (X.suite a ((a, oe4) :: (X.pn ++ pins))).N.Nodup := hN
      refine store_ok (X := X.suite a ((a, oe4) :: (X.pn ++ pins))) (v := .ref a) S4 nd hi (.inl hln) rfl ?_ (.inr hln)
      intro s5 S5
      have iLt : i < σ'.length := by rw [J4.len]; exact (List.getElem?_eq_some_iff.mp hi).1
      have here : PSs (X.suite a ((a, oe4) :: (X.pn ++ pins))) [.Assign [.Name m pm] (.Name n pn2) pa] (tAsg (tVar i) (gName j)) := pss_one (ps_set nd hj (.inl hlm) (pe_var hi (.inl hln) hdn hcn) hsw (.inr hlm))
      refine wpAny_mono (here.run [] s5 _ H' { nx := fun σ6 H6 => σ6 = (σ'.set i (some (.ref a))).set j (some (.ref a)) ∧ H6 = H', rt := fun _ _ => False } S5 ⟨.ref a, by rw [List.getElem?_set_self iLt], rfl, rfl⟩) ?_ (fun _ _ z => False.elim z)
      intro f s6 got
      match f, got with
      | .ret _, ⟨_, _, _, _, _, z⟩ => exact z.elim
      | .brk, ⟨_, _, _, z⟩ => exact z.elim
      | .cont, ⟨_, _, _, z⟩ => exact z.elim
      | .next, ⟨σ6, H6, S6, e6, eH⟩ =>
        subst e6 eH
        refine gone_ok (X := X.suite a ((a, oe4) :: (X.pn ++ pins))) S6 nd hi hln ?_
        intro s7 S7
        obtain ⟨at7, n7, _⟩ := S7.pin (a, oe4) (List.mem_append_left _ List.mem_cons_self)
        have J7 : L2.Inv X pins (((σ'.set i (some (.ref a))).set j (some (.ref a))).set i none) H6 s7 := S7.unsuite ok
        have J8 := Inv.track (o := ExR cls d a) J7 at7 hd4 n7 no0 outL noP (exR_ok at7 hz4 hd4)
        refine ⟨_, _, J8, ?_⟩
        have q := hyes rfl a na
        rw [List.set_comm _ _ hij, List.set_set]
        exact q
    | false =>
      show wpAny _ X.A (handleBy (.ref a) X.env []) _ _ _
      apply wpAny_handleBy_nil
      obtain ⟨k1, k2, k3, oe, vs, T, oT, ts', he, hz, hd, h1, hr⟩ := id fl3
      unfold PySem.passOn
      refine wpAny_bind (wpAny_field he hd h1 ?_)
      rw [if_neg (show ¬ ((Value.ref T == Value.none) = true) from by simp)]
      have onward : wpAny (model X.prog X.w) X.A (setFlight (.ref a) X.env.frame) (fun _ s4 => wpAny (model X.prog X.w) X.A (throw (.ref a) : Sem Flow) (SP X pins D) X.xe s4) X.xe { s' with heap := h3 } := by
        rw [hf]
        refine HandSPX.setFlight_upZ fl3 ?_
        intro h4 hh4 up4
        exact wpAny_throw (tk _ _ ⟨a, B, sI, pins, σ', H', cls, d, rfl, J, nb, (up.trans up3).trans up4, .inr (.inr (by rw [hs]; exact hh4)), na, os, ag, hno rfl⟩)
      first
        | exact wpAny_bind (wpAny_pure (wpAny_bind onward))
        | exact wpAny_bind onward
  refine wpAny_mono run ?_ (fun e s1 he => he)
  intro f s1 got
  match f, got with
  | .next, ⟨σ', H', J', q⟩ => exact wpAny_execs_nil ⟨σ', H', J'.ofTry ok, q⟩
  | .brk, ⟨σ', H', J', q⟩ => exact ⟨σ', H', J'.ofTry ok, q⟩
  | .cont, ⟨σ', H', J', q⟩ => exact ⟨σ', H', J'.ofTry ok, q⟩
  | .ret u, ⟨v, σ', H', J', r, q⟩ => exact ⟨v, σ', H', J'.ofTry ok, r, q⟩
end J

/-! Joinside, webs: what a web is, in plain Lean; what the defs of webs.py promise. -/
namespace J
open PySem PySem.Spec L2
theorem ne_none2 {H : Hp} {a b : Addr} {o : HO} (h' : H b = none) (h : H a = some o) : a ≠ b := ne_of_none h h'
/-! ### whole numbers within bounds -/
def among (x : V) (lo hi : Int) : Bool := match x with
  | .int i => decide (lo ≤ i) && decide (i ≤ hi)
  | _ => false
theorem among_int {i lo hi : Int} : among (.int i) lo hi = (decide (lo ≤ i) && decide (i ≤ hi)) := rfl
theorem among_nat {x : V} {n : Nat} (h : among x 0 (n - 1) = true) : ∃ i : Nat, x = .int i ∧ i < n := by
  cases x with
  | int i =>
    rw [among_int, Bool.and_eq_true, decide_eq_true_eq, decide_eq_true_eq] at h
    exact ⟨i.toNat, by congr 1; omega, by omega⟩
  | _ => cases h
theorem among_of {n i : Nat} (h : i < n) : among (.int i) 0 ((n : Int) - 1) = true := by
  rw [among_int, Bool.and_eq_true, decide_eq_true_eq, decide_eq_true_eq]
  omega
/-! ### bits -/
theorem bit_dec (m i : Nat) : decide (Builtin.bitAnd ((m : Int) / 2 ^ (Int.toNat (i : Int))) 1 = 1) = m.testBit i := by
  have e0 : Int.toNat (i : Int) = i := Int.toNat_natCast i
  have e1 : Builtin.bitAnd (Int.fdiv (m : Int) (2 ^ i)) 1 = (m : Int) / 2 ^ i % 2 := Bits.bit_at (x := (m : Int)) i
  have hp : (0 : Int) ≤ 2 ^ i := two_pow_nn i
  rw [Int.fdiv_eq_ediv_of_nonneg _ hp] at e1
  rw [e0, e1]
  have e2 : (m : Int) / 2 ^ i % 2 = ((m / 2 ^ i % 2 : Nat) : Int) := by push_cast; rfl
  rw [e2, Nat.testBit_eq_decide_div_mod_eq]
  by_cases h : m / 2 ^ i % 2 = 1
  · rw [h]; rfl
  · rw [decide_eq_false h, decide_eq_false]
    omega
theorem bit_flip (m j : Nat) : Builtin.bitXor (m : Int) (1 * 2 ^ (Int.toNat (j : Int))) = ((m ^^^ 2 ^ j : Nat) : Int) := by
  have e0 : Int.toNat (j : Int) = j := Int.toNat_natCast j
  have e1 : (1 : Int) * 2 ^ j = ((2 ^ j : Nat) : Int) := by push_cast; rw [Int.one_mul]
  rw [e0, e1, Bits.bitXor_pp (Int.natCast_nonneg m) (Int.natCast_nonneg _)]
  rfl
/-- the points that stand in a mask -/
def pts (m : Nat) : List Nat := (List.range 30).filter fun j => m.testBit j
def msk (ms : List Nat) : List V := ms.map fun (m : Nat) => V.int (m : Int)
theorem msk_length (ms : List Nat) : (msk ms).length = ms.length := List.length_map ..
theorem msk_get {ms : List Nat} {i : Nat} (h : i < ms.length) : (msk ms)[i]? = some (V.int ((ms.getD i 0 : Nat) : Int)) := by
  unfold msk
  rw [List.getElem?_map, List.getElem?_eq_getElem h]
  simp [h]
theorem getD_at {l : List Nat} {j : Nat} (h : j < l.length) : l[j]? = some (l.getD j 0) := by
  rw [List.getD_eq_getElem?_getD, List.getElem?_eq_getElem h]
  rfl
theorem msk_set {ms : List Nat} {i v : Nat} : (msk ms).set i (V.int (v : Int)) = msk (ms.set i v) := by
  unfold msk
  rw [List.map_set]
theorem msk_app {ms : List Nat} {v : Nat} : msk ms ++ [V.int (v : Int)] = msk (ms ++ [v]) := by simp [msk]
theorem msk_erase {ms : List Nat} {i : Nat} : (msk ms).eraseIdx i = msk (ms.eraseIdx i) := by
  unfold msk
  induction ms generalizing i with
  | nil => rfl
  | cons x r ih => cases i with
    | zero => rfl
    | succ i => simp only [List.map_cons, List.eraseIdx_cons_succ, ih]
theorem msk_rep (k : Nat) : (List.replicate k [V.int 0]).flatten = msk (List.replicate k 0) := by
  induction k with
  | zero => rfl
  | succ k ih =>
    rw [List.replicate_succ, List.replicate_succ, List.flatten_cons, ih]
    rfl
/-- a tie is put in or taken away -/
def flip (ms : List Nat) (i j : Nat) : List Nat := (ms.set i (ms.getD i 0 ^^^ 2 ^ j)).set j ((ms.set i (ms.getD i 0 ^^^ 2 ^ j)).getD j 0 ^^^ 2 ^ i)
theorem flip_length (ms : List Nat) (i j : Nat) : (flip ms i j).length = ms.length := by simp [flip]
/-- the ties that stand in the masks -/
def tiesM (ms : List Nat) : List (Nat × Nat) := (ms.zipIdx.map fun p => (pts p.1).filterMap fun o => if p.2 < o then some (p.2, o) else none).flatten
/-! ### a web in the heap -/
def webF (l : Addr) : List (Str × V) := [("near", V.ref l)]
structure WebAt (C : Addr) (H : Hp) (p l : Addr) (ms : List Nat) : Prop where
  ob : ∃ dx, H p = some (.ins C dx (webF l))
  li : H l = some (.lst (msk ms))
  sz : ms.length ≤ 30
theorem WebAt.same {C p l : Addr} {H H' : Hp} {ms : List Nat} (h : WebAt C H p l ms) (s : Same H H') : WebAt C H' p l ms := by
  obtain ⟨dx, e⟩ := h.ob
  exact ⟨⟨dx, s _ _ e⟩, s _ _ h.li, h.sz⟩
theorem WebAt.ne {C p l : Addr} {H : Hp} {ms : List Nat} (h : WebAt C H p l ms) : p ≠ l := by
  obtain ⟨dx, e⟩ := h.ob
  exact ne_of e h.li (by intro z; cases z)
theorem WebAt.put {C p l : Addr} {H : Hp} {ms ms' : List Nat} (h : WebAt C H p l ms) (z : ms'.length ≤ 30) : WebAt C (upd H l (.lst (msk ms'))) p l ms' := by
  obtain ⟨dx, e⟩ := h.ob
  exact ⟨⟨dx, up_ne h.ne e⟩, upd_same, z⟩
theorem WebAt.flip {C p l : Addr} {H : Hp} {ms : List Nat} {i j : Nat} (h : WebAt C H p l ms) : WebAt C (upd H l (.lst (msk (flip ms i j)))) p l (flip ms i j) := h.put (by rw [flip_length]; exact h.sz)
/-! ### promises -/
def sp_is_among (K : PySem.W.Frag) : Sp := fun vs H Q _ => ∃ (x : V) (lo hi : Int) (n : String), vs = [x, .int lo, .int hi] ∧ Th K H x n ∧ Q (.bl (among x lo hi)) H
def sp_points_in : Sp := fun vs H Q _ => ∃ (m : Nat), vs = [.int m] ∧ ∀ p, H p = none → Q (.ref p) (upd H p (.lst (msk (pts m))))
def sp_Web_init (K : PySem.W.Frag) (C eS : Addr) : Sp := fun vs H Q E => ∃ (p dx : Addr) (x : V) (n : String), vs = [.ref p, x] ∧ H p = some (.ins C dx []) ∧ Th K H x n ∧
  (∀ k : Nat, x = .int k → 1 ≤ k → k ≤ 30 → ∀ (l : Addr) (H' : Hp), H l = none → (∀ b o, b ≠ p → H b = some o → H' b = some o) → WebAt C H' p l (List.replicate k 0) → Q .non H') ∧ (among x 1 30 = false → E (.ref eS) none H)
def sp_Web_many (C : Addr) : Sp := fun vs H Q _ => ∃ (p l : Addr) (ms : List Nat), vs = [.ref p] ∧ WebAt C H p l ms ∧ Q (.int ms.length) H
def sp_Web_need_point (K : PySem.W.Frag) (C eP : Addr) : Sp := fun vs H Q E => ∃ (p l : Addr) (ms : List Nat) (x : V) (n : String), vs = [.ref p, x] ∧ WebAt C H p l ms ∧ Th K H x n ∧
  (∀ i : Nat, x = .int i → i < ms.length → Q .non H) ∧ (among x 0 ((ms.length : Int) - 1) = false → E (.ref eP) none H)
/-- two unlike points of a web of n -/
def good (n : Nat) (x y : V) : Bool := among x 0 ((n : Int) - 1) && among y 0 ((n : Int) - 1) && !decide (x = y)
def sp_Web_has (K : PySem.W.Frag) (C eP : Addr) : Sp := fun vs H Q E => ∃ (p l : Addr) (ms : List Nat) (x y : V) (n m : String), vs = [.ref p, x, y] ∧ WebAt C H p l ms ∧ Th K H x n ∧ Th K H y m ∧
  (∀ i j : Nat, x = .int i → y = .int j → i < ms.length → j < ms.length → i ≠ j → Q (.bl ((ms.getD i 0).testBit j)) H) ∧ (good ms.length x y = false → E (.ref eP) none H)
def sp_Web_change (C : Addr) : Sp := fun vs H Q _ => ∃ (p l : Addr) (ms : List Nat) (i j : Nat), vs = [.ref p, .int i, .int j] ∧ WebAt C H p l ms ∧ i < ms.length ∧ j < ms.length ∧ Q .non (upd H l (.lst (msk (flip ms i j))))
/-- put (was = false), take (was = true); eT: the refusal of what is not due -/
def sp_Web_turn (was : Bool) (K : PySem.W.Frag) (C eP eT : Addr) : Sp := fun vs H Q E => ∃ (p l : Addr) (ms : List Nat) (x y : V) (n m : String), vs = [.ref p, x, y] ∧ WebAt C H p l ms ∧ Th K H x n ∧ Th K H y m ∧
  (∀ i j : Nat, x = .int i → y = .int j → i < ms.length → j < ms.length → i ≠ j → ((ms.getD i 0).testBit j = was → Q .non (upd H l (.lst (msk (flip ms i j))))) ∧ ((ms.getD i 0).testBit j = !was → E (.ref eT) none H)) ∧
  (good ms.length x y = false → E (.ref eP) none H)
def sp_Web_grow (C eM : Addr) : Sp := fun vs H Q E => ∃ (p l : Addr) (ms : List Nat), vs = [.ref p] ∧ WebAt C H p l ms ∧
  (ms.length ≠ 30 → Q (.int ms.length) (upd H l (.lst (msk (ms ++ [0]))))) ∧ (ms.length = 30 → E (.ref eM) none H)
def sp_Web_beside (K : PySem.W.Frag) (C eP : Addr) : Sp := fun vs H Q E => ∃ (p l : Addr) (ms : List Nat) (x : V) (n : String), vs = [.ref p, x] ∧ WebAt C H p l ms ∧ Th K H x n ∧
  (∀ i : Nat, x = .int i → i < ms.length → ∀ q, H q = none → Q (.ref q) (upd H q (.lst (msk (pts (ms.getD i 0)))))) ∧ (among x 0 ((ms.length : Int) - 1) = false → E (.ref eP) none H)
/-- a value that is a tuple of two numbers -/
def PairAt (H : Hp) (x : V) (q : Nat × Nat) : Prop := ∃ t, x = .ref t ∧ H t = some (.tup [.int q.1, .int q.2])
def PairsAt (H : Hp) (xs : List V) (qs : List (Nat × Nat)) : Prop := Paired (PairAt H) xs qs
theorem PairAt.same {H H' : Hp} {x : V} {q : Nat × Nat} (s : Same H H') (h : PairAt H x q) : PairAt H' x q := by
  obtain ⟨t, e, h⟩ := h
  exact ⟨t, e, s _ _ h⟩
theorem PairsAt.same {H H' : Hp} {xs : List V} {qs : List (Nat × Nat)} (s : Same H H') (h : PairsAt H xs qs) : PairsAt H' xs qs := L2.Paired.mapP h fun _ _ z => z.same s
/-- a list is changed: the tuples stay -/
theorem PairsAt.upd {H : Hp} {xs ys zs : List V} {a : Addr} {qs : List (Nat × Nat)} (e : H a = some (.lst ys)) (h : PairsAt H xs qs) : PairsAt (L2.upd H a (.lst zs)) xs qs := L2.Paired.mapP h fun _ _ ⟨t, e1, e2⟩ => ⟨t, e1, up_ne (ne_of e2 e (by intro z; cases z)) e2⟩
theorem PairsAt.app {H : Hp} : ∀ {xs ys : List V} {qs rs : List (Nat × Nat)}, PairsAt H xs qs → PairsAt H ys rs → PairsAt H (xs ++ ys) (qs ++ rs)
  | _, _, _, _, .nil, h => h
  | _, _, _, _, .cons a b, h => .cons a (PairsAt.app b h)
theorem PairsAt.len {H : Hp} {xs : List V} {qs : List (Nat × Nat)} (h : PairsAt H xs qs) : xs.length = qs.length := Paired.length h
def sp_Web_ties (C : Addr) : Sp := fun vs H Q _ => ∃ (p l : Addr) (ms : List Nat), vs = [.ref p] ∧ WebAt C H p l ms ∧
  ∀ q xs H', Same H H' → H q = none → H' q = some (.lst xs) → PairsAt H' xs (tiesM ms) → Q (.ref q) H'
/-! ### calls by the promises -/
section
variable {K : PySem.W.Frag} {H : Hp} {Q : VK} {E : XK} {C eP eT eM eS p l : Addr} {ms : List Nat} {x y : V} {n m : String} {lo hi : Int}
theorem u_is_among (h : Th K H x n) (q : Q (.bl (among x lo hi)) H) : sp_is_among K [x, .int lo, .int hi] H Q E := ⟨x, lo, hi, n, rfl, h, q⟩
theorem u_points_in {m : Nat} (q : ∀ p, H p = none → Q (.ref p) (upd H p (.lst (msk (pts m))))) : sp_points_in [.int m] H Q E := ⟨m, rfl, q⟩
theorem u_many (h : WebAt C H p l ms) (q : Q (.int ms.length) H) : sp_Web_many C [.ref p] H Q E := ⟨p, l, ms, rfl, h, q⟩
theorem u_need_point (h : WebAt C H p l ms) (t : Th K H x n) (q : ∀ i : Nat, x = .int i → i < ms.length → Q .non H) (e : among x 0 ((ms.length : Int) - 1) = false → E (.ref eP) none H) : sp_Web_need_point K C eP [.ref p, x] H Q E := ⟨p, l, ms, x, n, rfl, h, t, q, e⟩
theorem u_need_ok {i : Nat} (h : WebAt C H p l ms) (hi : i < ms.length) (q : Q .non H) : sp_Web_need_point K C eP [.ref p, .int i] H Q E :=
  ⟨p, l, ms, _, _, rfl, h, .int _, fun _ _ _ => q, fun e => by rw [among_of hi] at e; cases e⟩
theorem u_has (h : WebAt C H p l ms) (t : Th K H x n) (u : Th K H y m) (q : ∀ i j : Nat, x = .int i → y = .int j → i < ms.length → j < ms.length → i ≠ j → Q (.bl ((ms.getD i 0).testBit j)) H) (e : good ms.length x y = false → E (.ref eP) none H) :
    sp_Web_has K C eP [.ref p, x, y] H Q E := ⟨p, l, ms, x, y, n, m, rfl, h, t, u, q, e⟩
theorem good_of {n i j : Nat} (hi : i < n) (hj : j < n) (ne : i ≠ j) : good n (.int i) (.int j) = true := by
  unfold good
  rw [among_of hi, among_of hj]
  simp
  omega
theorem u_has_ok {i j : Nat} (h : WebAt C H p l ms) (hi : i < ms.length) (hj : j < ms.length) (ne : i ≠ j) (q : Q (.bl ((ms.getD i 0).testBit j)) H) : sp_Web_has K C eP [.ref p, .int i, .int j] H Q E :=
  ⟨p, l, ms, _, _, _, _, rfl, h, .int _, .int _, fun a b ea eb _ _ _ => by
    injection ea with ea
    injection eb with eb
    have e1 : a = i := by omega
    have e2 : b = j := by omega
    subst e1 e2
    exact q, fun e => by rw [good_of hi hj ne] at e; cases e⟩
theorem u_change {i j : Nat} (h : WebAt C H p l ms) (hi : i < ms.length) (hj : j < ms.length) (q : Q .non (upd H l (.lst (msk (flip ms i j))))) : sp_Web_change C [.ref p, .int i, .int j] H Q E := ⟨p, l, ms, i, j, rfl, h, hi, hj, q⟩
theorem u_turn {was : Bool} {i j : Nat} (h : WebAt C H p l ms) (hi : i < ms.length) (hj : j < ms.length) (ne : i ≠ j) (b : (ms.getD i 0).testBit j = was) (q : Q .non (upd H l (.lst (msk (flip ms i j))))) : sp_Web_turn was K C eP eT [.ref p, .int i, .int j] H Q E :=
  ⟨p, l, ms, _, _, _, _, rfl, h, .int _, .int _, fun a c ea ec _ _ _ => by
    injection ea with ea
    injection ec with ec
    have e1 : a = i := by omega
    have e2 : c = j := by omega
    subst e1 e2
    exact ⟨fun _ => q, fun z => by rw [b] at z; cases was <;> cases z⟩, fun e => by rw [good_of hi hj ne] at e; cases e⟩
end
end J
namespace J
open PySem PySem.Spec L2
/-! ### the ties, one point after another -/
theorem pts_length (m : Nat) : (pts m).length ≤ 30 := Nat.le_trans (List.length_filter_le _ _) (by simp)
def tiesAt (ms : List Nat) (i : Nat) : List (Nat × Nat) := (pts (ms.getD i 0)).filterMap fun o => if i < o then some (i, o) else none
def tiesTo (ms : List Nat) (i : Nat) : List (Nat × Nat) := ((List.range i).map fun j => tiesAt ms j).flatten
theorem tiesTo_succ {ms : List Nat} {i : Nat} (_ : i < ms.length) : tiesTo ms (i + 1) = tiesTo ms i ++ (pts (ms.getD i 0)).filterMap fun o => if i < o then some (i, o) else none := by
  unfold tiesTo
  rw [List.range_succ, List.map_append, List.flatten_append]
  simp [tiesAt]
theorem tiesTo_length (ms : List Nat) : ∀ i, i ≤ 30 → (tiesTo ms i).length ≤ 30 * i
  | 0, _ => by simp [tiesTo]
  | i + 1, h => by
    have ih := tiesTo_length ms i (by omega)
    have a : (tiesAt ms i).length ≤ 30 := Nat.le_trans (List.length_filterMap_le _ _) (pts_length _)
    unfold tiesTo at ih ⊢
    rw [List.range_succ, List.map_append, List.flatten_append, List.length_append]
    simp only [List.map_cons, List.map_nil, List.flatten_cons, List.flatten_nil, List.append_nil]
    omega
theorem tiesTo_all (ms : List Nat) : tiesTo ms ms.length = tiesM ms := by
  unfold tiesTo tiesM
  congr 1
  apply List.ext_getElem
  · simp
  · intro i h1 h2
    simp only [List.length_map, List.length_range] at h1
    simp [tiesAt, h1]
/-! ### lists of points -/
/-- a list of at least so many unlike points of a web of n -/
def PtsOk (n : Nat) (least : Int) (xs : List V) : Prop := ∃ is : List Nat, xs = msk is ∧ (∀ i ∈ is, i < n) ∧ is.Nodup ∧ least ≤ is.length
def sp_Web_need_points (K : PySem.W.Frag) (C eP : Addr) : Sp := fun vs H Q E => ∃ (p l : Addr) (ms : List Nat) (x : V) (least : Int), vs = [.ref p, x, .int least] ∧ WebAt C H p l ms ∧
  ((∃ n, Th K H x n ∧ n ≠ "list" ∧ E (.ref eP) none H) ∨ (∃ a xs, x = .ref a ∧ H a = some (.lst xs) ∧ xs.length ≤ 1000 ∧ (∀ v ∈ xs, ∃ n, Th K H v n) ∧ (PtsOk ms.length least xs → Q .non H) ∧ (¬ PtsOk ms.length least xs → E (.ref eP) none H)))
theorem msk_ints (is : List Nat) : msk is = (is.map fun (m : Nat) => (m : Int)).map V.int := by
  unfold msk
  rw [List.map_map]
  rfl
theorem isB_list {n : String} (h : n ∈ kinds) : isB n "list" = decide (n = "list") := by
  simp only [kinds, List.mem_cons, List.not_mem_nil, or_false] at h
  rcases h with h | h | h | h | h | h | h <;> subst h <;> decide
theorem msk_inj {is js : List Nat} (h : msk is = msk js) : is = js := by
  unfold msk at h
  exact (List.map_inj_right fun a b e => by injection e with e; omega).mp h
theorem nodup_ints {is : List Nat} : (is.map fun (m : Nat) => (m : Int)).Nodup ↔ is.Nodup := by
  constructor
  · intro h
    unfold List.Nodup at h ⊢
    rw [List.pairwise_map] at h
    exact h.imp fun n e => n (by rw [e])
  · intro h
    exact List.Pairwise.map _ (fun a b (n : a ≠ b) e => n (by omega)) h
end J

/-! Joinside, loops and comprehensions: openers and closers. -/
namespace J
open PySem PySem.Spec L2
section
variable {K : PySem.W.Frag} {σ : Sl} {H H1 : Hp} {Q : VK} {wi : TI} {g : TG} {tt : TT} {te : TE} {tl : TE} {ta : TA} {vs : List Nat} {a D : Addr} {xs : List V} {R : It → Hp → Prop} {tb : TS} {En : Ends} {j k : Int}
theorem s_lc (q : wi σ H fun J H1 => ∀ D, H1 D = none → ∃ W : Nat → Nat → Hp → Prop, (∃ m, W 0 m (upd H1 D (.lst []))) ∧ ∀ i m H, W i m H →
  (J.stop i H ∧ Q (.ref D) H) ∨ (J.go i H ∧ ∃ Nx : Hp → Prop, (∀ H', Nx H' → ∃ m', m' < m ∧ W (i + 1) m' H') ∧ ∀ x H', J.yld i H x H' → g x (wipe σ vs) H' fun σ2 H2 => wipe σ2 vs = wipe σ vs ∧ tt σ2 H2 fun b H3 =>
    if b = true then te σ2 H3 fun y H4 => ∃ acc, H4 D = some (.lst acc) ∧ acc.length < sizeLine ∧ Nx (upd H4 D (.lst (acc ++ [y]))) else Nx H3)) : tLc wi g tt te vs σ H Q := q
theorem s_for (q : wi σ H fun J H1 => ∃ W : Nat → Nat → L2.St → Hp → Prop, (∃ m, W 0 m σ H1) ∧ ∀ i m σ H, W i m σ H →
  (J.stop i H ∧ En.nx σ H) ∨ (J.go i H ∧ ∃ N : L2.St → Hp → Prop, (∀ σ' H', N σ' H' → ∃ m', m' < m ∧ W (i + 1) m' σ' H') ∧ ∀ x H', J.yld i H x H' → g x σ H' fun σ2 H2 => tb { En with nx := N, ct := N, bk := En.nx } σ2 H2)) : tFor wi g tb En σ H := q
theorem s_rng1 (q : ta σ H fun vs H1 => ∃ j : Int, vs = [.int j] ∧ -(2 ^ 62) ≤ j ∧ j < 2 ^ 62 ∧ R (Itr 0 j.toNat) H1) : iRng1 ta σ H R := q
theorem s_rng1E {R : Int → Prop} (h1 : -(2 ^ 62) ≤ k) (h2 : k < 2 ^ 62) (q : R k) : ∃ j : Int, [V.int k] = [.int j] ∧ -(2 ^ 62) ≤ j ∧ j < 2 ^ 62 ∧ R j := ⟨k, rfl, h1, h2, q⟩
theorem s_rng2 (q : ta σ H fun vs H1 => ∃ i j : Int, vs = [.int i, .int j] ∧ (-(2 ^ 62) ≤ i ∧ i < 2 ^ 62 ∧ -(2 ^ 62) ≤ j ∧ j < 2 ^ 62) ∧ R (Itr i (j - i).toNat) H1) : iRng2 ta σ H R := q
theorem s_ienum (q : ta σ H fun vs H1 => ∃ a xs, vs = [.ref a] ∧ SqL K H1 a xs ∧ R (Ite K a) H1) : iEnum K ta σ H R := q
theorem s_ienumE {R : Addr → Prop} (h : SqL K H a xs) (q : R a) : ∃ b ys, [V.ref a] = [.ref b] ∧ SqL K H b ys ∧ R b := ⟨a, xs, rfl, h, q⟩
theorem s_ilist (q : tl σ H fun x H1 => ∃ a, x = .ref a ∧ (∃ xs, SqL K H1 a xs) ∧ R (Itl K a) H1) : iList K tl σ H R := q
theorem s_ilistE {R : Addr → Prop} (h : SqL K H a xs) (q : R a) : ∃ b, V.ref a = .ref b ∧ (∃ xs, SqL K H b xs) ∧ R b := ⟨a, rfl, ⟨xs, h⟩, q⟩
theorem s_itup (q : tl σ H fun x H1 => ∃ a, x = .ref a ∧ (∃ xs, SqT K H1 a xs) ∧ R (Itt K a) H1) : iTup K tl σ H R := q
theorem s_itupE {R : Addr → Prop} (h : SqT K H a xs) (q : R a) : ∃ b, V.ref a = .ref b ∧ (∃ xs, SqT K H b xs) ∧ R b := ⟨a, rfl, ⟨xs, h⟩, q⟩
/-- the list of a comprehension that touches nothing else grows, or not -/
theorem lc_yes {F : Nat → Option V} {i : Nat} {y : V} (hi : i < 100000) (e : F i = some y) : ∃ acc, upd H D (.lst ((List.range i).filterMap F)) D = some (.lst acc) ∧ acc.length < sizeLine ∧
    upd (upd H D (.lst ((List.range i).filterMap F))) D (.lst (acc ++ [y])) = upd H D (.lst ((List.range (i + 1)).filterMap F)) := by
  refine ⟨_, upd_same, ?_, ?_⟩
  · have h1 : ((List.range i).filterMap F).length ≤ i := Nat.le_trans (List.length_filterMap_le _ _) (by simp)
    exact Nat.lt_of_le_of_lt h1 (Nat.lt_of_lt_of_le hi (by decide))
  · rw [upd_upd, List.range_succ, List.filterMap_append]
    simp [e]
theorem lc_no {F : Nat → Option V} {i : Nat} (e : F i = none) : upd H D (.lst ((List.range i).filterMap F)) = upd H D (.lst ((List.range (i + 1)).filterMap F)) := by
  rw [List.range_succ, List.filterMap_append]
  simp [e]
theorem take_succ_of {α : Type} {l : List α} {i : Nat} {x : α} (h : l[i]? = some x) : l.take (i + 1) = l.take i ++ [x] := by
  rw [List.take_add_one, h]
  rfl
theorem lc_yesL {F : V → Option V} {i : Nat} {x y : V} (hx : xs[i]? = some x) (hi : i < 100000) (e : F x = some y) : ∃ acc, upd H D (.lst ((xs.take i).filterMap F)) D = some (.lst acc) ∧ acc.length < sizeLine ∧
    upd (upd H D (.lst ((xs.take i).filterMap F))) D (.lst (acc ++ [y])) = upd H D (.lst ((xs.take (i + 1)).filterMap F)) := by
  refine ⟨_, upd_same, ?_, ?_⟩
  · have h1 : ((xs.take i).filterMap F).length ≤ i := Nat.le_trans (List.length_filterMap_le _ _) (by simp; omega)
    exact Nat.lt_of_le_of_lt h1 (Nat.lt_of_lt_of_le hi (by decide))
  · rw [upd_upd, take_succ_of hx, List.filterMap_append]
    simp [e]
theorem lc_noL {F : V → Option V} {i : Nat} {x : V} (hx : xs[i]? = some x) (e : F x = none) : upd H D (.lst ((xs.take i).filterMap F)) = upd H D (.lst ((xs.take (i + 1)).filterMap F)) := by
  rw [take_succ_of hx, List.filterMap_append]
  simp [e]
end
theorem pts_fm (m : Nat) : msk (pts m) = (List.range 30).filterMap fun i => if m.testBit i = true then some (V.int (i : Int)) else none := by
  unfold msk pts
  induction (List.range 30) with
  | nil => rfl
  | cons x r ih =>
    rw [List.filter_cons, List.filterMap_cons]
    by_cases h : m.testBit x = true
    · rw [if_pos h, if_pos h, List.map_cons, ih]
    · rw [if_neg h, if_neg h, ih]
end J

/-! Joinside: rules with the written part named (so that they serve within a comprehension's block too). -/
namespace J
open PySem PySem.Spec PyProof.Rows L2
section
variable {X : Cx} {K : PySem.W.Frag}
theorem kEq (hu : X.A.units + 64 < cLine) (hK : X.K = K := by rfl) : OpR X (compareOp .Eq) (rEqA K) := by subst hK; exact op_eqA hu
theorem kNe (hu : X.A.units + 64 < cLine) (hK : X.K = K := by rfl) : OpR X (compareOp .NotEq) (rNeA K) := by subst hK; exact op_neA hu
theorem kAdd (hK : X.K = K := by rfl) : OpR X (binaryOp .Add) (rAddA K) := by subst hK; exact op_addA
theorem kMul (hK : X.K = K := by rfl) : OpR X (binaryOp .Mult) (rMulA K) := by subst hK; exact op_mulA
theorem kIs (hK : X.K = K := by rfl) : CallR X (.builtin "isinstance") (rIs K) := by subst hK; exact call_is
theorem kLen (hK : X.K = K := by rfl) : CallR X (.builtin "len") (rLenA K) := by subst hK; exact call_lenA
theorem kRepr (hG : X.A.guards = some []) (hu : X.A.units + 200 < cLine) (hK : X.K = K := by rfl) : CallR X (.builtin "repr") (rRepr K) := by subst hK; exact call_repr hG hu
theorem kIx (hK : X.K = K := by rfl) : IxR X (rIx K) := by subst hK; exact ix_seq
theorem kGet (hK : X.K = K := by rfl) : PGet X (rIxN K) := by subst hK; exact get_list
theorem kFld {e : Expr} {ta : TE} {f : Str} {pos : Pos} (he : PE X e ta) (hb : attributeBase e f X.env (eval e X.env) = eval e X.env := by rfl) (hK : X.K = K := by rfl) : PE X (.Attribute e f pos) (tFld K ta f) := by subst hK; exact pe_fld he hb
theorem kList {tg l : Expr} {tl : TE} (h : PE X l tl) (hK : X.K = K := by rfl) : PI X tg l (iList K tl) := by subst hK; exact pi_list h
theorem kTup {tg l : Expr} {tl : TE} (h : PE X l tl) (hK : X.K = K := by rfl) : PI X tg l (iTup K tl) := by subst hK; exact pi_tup h
theorem kEnum {e : Expr} {ta : TA} {p pos tpos : Pos} {elts : List Expr} {kk : Nat} (hg : Gl X "enumerate") (hm : X.mg "enumerate" = none) (ha : PA X [e] ta) (hs : starEach [e] X.env = [(false, eval e X.env)] := by rfl) (hK : X.K = K := by rfl) :
    PI X (.Tuple elts kk tpos) (.Call (.Name "enumerate" p) [e] [] pos) (iEnum K ta) := by subst hK; exact pi_enum hg hm ha hs
theorem kZip {e e2 : Expr} {ta : TA} {p pos tpos : Pos} {elts : List Expr} {kk : Nat} (hg : Gl X "zip") (hm : X.mg "zip" = none) (ha : PA X [e, e2] ta) (hs : starEach [e, e2] X.env = (false, eval e X.env) :: starEach [e2] X.env := by rfl)
    (hpl : (backTo pos (starEach [e2] X.env)).any (·.1) = false := by rfl) (hK : X.K = K := by rfl) : PI X (.Tuple elts kk tpos) (.Call (.Name "zip" p) [e, e2] [] pos) (iZip K ta) := by subst hK; exact pi_zip hg hm ha hs hpl
theorem kGtup {es : List Expr} {k : Nat} {t : TGs} {n : Nat} {pos : Pos} (hc : X.calm = true) (h : PGs X es t) (hn : (assignEach es X.env).length = n := by rfl) (hst : (assignEach es X.env).findIdx? (·.1) = none := by rfl) (hK : X.K = K := by rfl) :
    PG X (.Tuple es k pos) (gTup K n t) := by subst hK; exact pg_tup hc h hn hst
theorem s_cm1 {H : Hp} {a C dx : Addr} {fs : List (Str × V)} {m : Str} {sp : Sp} {R : Sp → Prop} (h : H a = some (.ins C dx fs)) (l : fs.lookup m = none) (q : R sp) : ∃ a' C' dx fs, V.ref a = .ref a' ∧ H a' = some (.ins C' dx fs) ∧ fs.lookup m = none ∧ ∃ sp', One C sp C' sp' ∧ R sp' := ⟨a, C, dx, fs, rfl, h, l, sp, ⟨rfl, rfl⟩, q⟩
theorem s_ixL {H : Hp} {Q : VK} {a : Addr} {xs : List V} {i : Int} {v : V} (h : SqL K H a xs) (e : atI xs i = some v) (q : Q v H) : rIx K (.ref a) (.int i) H Q := .inl ⟨a, xs, i, v, rfl, rfl, h, e, q⟩
theorem s_ixT {H : Hp} {Q : VK} {a : Addr} {xs : List V} {i : Int} {v : V} (h : SqT K H a xs) (e : atI xs i = some v) (q : Q v H) : rIx K (.ref a) (.int i) H Q := .inr (.inl ⟨a, xs, i, v, rfl, rfl, h, e, q⟩)
theorem s_ixS {H : Hp} {Q : VK} {z : Str} {i : Int} {c : Nat} (h : z.length ≤ sizeLine) (e : atI z.cps.toList i = some c) (q : Q (.str ⟨#[c]⟩) H) : rIx K (.str z) (.int i) H Q := .inr (.inr ⟨z, i, c, rfl, rfl, h, e, q⟩)
theorem s_ixN {H : Hp} {Q : VK} {a : Addr} {xs : List V} {i : Nat} {v : V} (h : SqL K H a xs) (e : xs[i]? = some v) (q : Q v H) : rIxN K (.ref a) (.int i) H Q := ⟨a, xs, i, v, rfl, rfl, h, e, q⟩
theorem s_setN {H : Hp} {R : Hp → Prop} {a : Addr} {xs : List V} {i : Nat} {v : V} (h : H a = some (.lst xs)) (hi : i < xs.length) (q : R (upd H a (.lst (xs.set i v)))) : rSetL (.ref a) (.int i) v H R :=
  ⟨a, xs, i, i, rfl, rfl, h, by unfold ixN; rw [if_pos (by omega), if_pos (by omega)]; rfl, q⟩
theorem s_append {H : Hp} {Q : VK} {a : Addr} {xs : List V} {v : V} (h : H a = some (.lst xs)) (hz : xs.length < sizeLine) (q : Q .non (upd H a (.lst (xs ++ [v])))) : rAppend (.ref a) [v] H Q := ⟨a, xs, v, rfl, rfl, h, hz, q⟩
theorem s_popN {H : Hp} {Q : VK} {a : Addr} {xs : List V} {i : Nat} {v : V} (h : H a = some (.lst xs)) (e : xs[i]? = some v) (q : Q v (upd H a (.lst (xs.eraseIdx i)))) (hz : i < 2 ^ 63 := by omega) : rPopAt (.ref a) [.int i] H Q := by
  have hi : i < xs.length := (List.getElem?_eq_some_iff.mp e).1
  refine ⟨a, xs, i, i, v, rfl, rfl, h, by omega, by omega, ?_, e, q⟩
  rw [seqIndex_of (by omega) (by omega), Int.toNat_natCast]
theorem s_listRg {σ : Sl} {H : Hp} {Q : VK} {te : TE} (q : te σ H fun x H1 => ∃ n, x = .int n ∧ RgOk 0 n ∧ ∀ q, H1 q = none → Q (.ref q) (upd H1 q (.lst (rgV 0 n)))) : tLstRg (tRg1 te) σ H Q := q
theorem rg_ok {k : Nat} (h : k ≤ 100000) : RgOk 0 (k : Int) := RgOk.of_le (by omega) (by omega) (by omega) (by omega)
theorem rgV_nat (k : Nat) : rgV 0 (k : Int) = msk (List.range k) := by
  unfold rgV msk
  rw [show ((k : Int) - 0).toNat = k by omega]
  simp only [Int.zero_add]
theorem s_extend {H : Hp} {Q : VK} {a b : Addr} {xs ys : List V} (h : H a = some (.lst xs)) (hb : H b = some (.lst ys)) (hz : xs.length + ys.length ≤ sizeLine) (q : Q .non (upd H a (.lst (xs ++ ys)))) : rExtend (.ref a) [.ref b] H Q := ⟨a, b, xs, ys, rfl, rfl, h, hb, hz, q⟩
theorem s_bm {T : String} {r : V → List V → Hp → VK → Prop} {to : TE} {t : TA} {σ : Sl} {H : Hp} {Q : VK} (q : to σ H fun x H1 => tyV K T x H1 ∧ t σ H1 fun xs H2 => r x xs H2 Q) : tBM K T r to t σ H Q := q
theorem s_bm0 {T : String} {r : V → List V → Hp → VK → Prop} {to : TE} {σ : Sl} {H : Hp} {Q : VK} (q : to σ H fun x H1 => tyV K T x H1 ∧ r x [] H1 Q) : tBM0 K T r to σ H Q := q
theorem s_tyL {H : Hp} {a : Addr} {xs : List V} {R : Prop} (h : SqL K H a xs) (q : R) : tyV K "list" (.ref a) H ∧ R := ⟨.inl ⟨rfl, xs, h⟩, q⟩
/-- a slice of a list, a text, a tuple -/
def rSl (K : PySem.W.Frag) : V → Option Int → Option Int → Hp → VK → Prop := fun x lo hi H Q => rSlL K x lo hi H Q ∨ rSlA K x lo hi H Q
theorem kSl (hK : X.K = K := by rfl) : SlR X (rSl K) := by subst hK; exact sl_list.or sl_tupA
theorem kListOf (hK : X.K = K := by rfl) : CallR X (.type "list") (fun xs H Q => ∃ p ys, xs = [.ref p] ∧ (SqL K H p ys ∨ SqT K H p ys) ∧ ∀ l, H l = none → Q (.ref l) (upd H l (.lst ys))) := by subst hK; exact call_list_of
theorem kTupleOf (hK : X.K = K := by rfl) : CallR X (.type "tuple") (fun xs H Q => ∃ p ys, xs = [.ref p] ∧ ((SqL K H p ys ∧ ∀ l, H l = none → Q (.ref l) (upd H l (.tup ys))) ∨ (SqT K H p ys ∧ Q (.ref p) H))) := by subst hK; exact call_tuple_of
def rListOf (K : PySem.W.Frag) : List V → Hp → VK → Prop := fun xs H Q => ∃ p ys, xs = [.ref p] ∧ (SqL K H p ys ∨ SqT K H p ys) ∧ ∀ l, H l = none → Q (.ref l) (upd H l (.lst ys))
def rTupleOf (K : PySem.W.Frag) : List V → Hp → VK → Prop := fun xs H Q => ∃ p ys, xs = [.ref p] ∧ ((SqL K H p ys ∧ ∀ l, H l = none → Q (.ref l) (upd H l (.tup ys))) ∨ (SqT K H p ys ∧ Q (.ref p) H))
theorem kListO (hK : X.K = K := by rfl) : CallR X (.type "list") (rListOf K) := kListOf hK
theorem kTupleO (hK : X.K = K := by rfl) : CallR X (.type "tuple") (rTupleOf K) := kTupleOf hK
theorem s_listO {H : Hp} {Q : VK} {p : Addr} {ys : List V} (h : SqL K H p ys ∨ SqT K H p ys) (q : ∀ l, H l = none → Q (.ref l) (upd H l (.lst ys))) : rListOf K [.ref p] H Q := ⟨p, ys, rfl, h, q⟩
theorem s_tupleO {H : Hp} {Q : VK} {p : Addr} {ys : List V} (h : SqL K H p ys) (q : ∀ l, H l = none → Q (.ref l) (upd H l (.tup ys))) : rTupleOf K [.ref p] H Q := ⟨p, ys, rfl, .inl ⟨h, q⟩⟩
def rInt1 : List V → Hp → VK → Prop := fun xs H Q => (∃ i, xs = [.int i] ∧ Q (.int i) H) ∨ ∃ k, xs = [.bl k] ∧ Q (.int (if k then 1 else 0)) H
theorem kInt1 : CallR X (.type "int") rInt1 := call_int1
theorem s_divN {H : Hp} {Q : VK} {i j : Nat} (h : 0 < j) (h2 : j < 1073741824) (q : Q (.int ((i / j : Nat) : Int)) H) : rI CDiv (fun i j => .int (i / j)) (.int i) (.int j) H Q := ⟨i, j, rfl, rfl, ⟨by omega, by omega⟩, q⟩
theorem s_modN {H : Hp} {Q : VK} {i j : Nat} (h : 0 < j) (q : Q (.int ((i % j : Nat) : Int)) H) : rI (fun _ j => 0 < j) (fun i j => .int (i % j)) (.int i) (.int j) H Q := ⟨i, j, rfl, rfl, by omega, q⟩
theorem s_slL {H : Hp} {Q : VK} {a : Addr} {xs : List V} {lo hi : Option Int} (h : SqL K H a xs) (q : ∀ p, H p = none → Q (.ref p) (upd H p (.lst (cutV xs lo hi)))) : rSl K (.ref a) lo hi H Q := .inl ⟨a, xs, rfl, h, q⟩
theorem cut_mid {xs : List V} {i j : Nat} (h : i ≤ j) (hj : j ≤ xs.length) : cutV xs (some i) (some j) = (xs.drop i).take (j - i) := by
  unfold cutV
  rw [HT.sIx_nat, HT.sIx_nat, Nat.min_eq_left hj, Nat.min_eq_left (Nat.le_trans h hj)]
theorem cut_to {xs : List V} {j : Nat} (hj : j ≤ xs.length) : cutV xs none (some j) = xs.take j := by
  unfold cutV
  rw [HT.sIx_nat, HT.sIx_none, Nat.min_eq_left hj]
  simp
theorem cut_from {xs : List V} {i : Nat} (hi : i ≤ xs.length) : cutV xs (some i) none = xs.drop i := by
  unfold cutV
  rw [HT.sIx_nat, HT.sIx_none, Nat.min_eq_left hi]
  rw [List.take_of_length_le (by rw [List.length_drop]; omega)]
theorem s_dnew {σ : Sl} {H : Hp} {Q : VK} (q : ∀ p, H p = none → Q (.ref p) (upd H p (.dK []))) : tDNewK σ H Q := q
def rIsN : R2 := fun x y H Q => y = .non ∧ Q (.bl (decide (x = .non))) H
def rNotN : R2 := fun x y H Q => y = .non ∧ Q (.bl (!decide (x = .non))) H
theorem op_isN1 : OpR X (compareOp .Is) rIsN := op_isN
theorem op_notN1 : OpR X (compareOp .IsNot) rNotN := op_notN
theorem s_isNN {H : Hp} {Q : VK} (q : Q (.bl true) H) : rIsN .non .non H Q := ⟨rfl, by rw [decide_eq_true rfl]; exact q⟩
theorem s_isNr {H : Hp} {Q : VK} {a : Addr} (q : Q (.bl false) H) : rIsN (.ref a) .non H Q := ⟨rfl, by rw [decide_eq_false (by intro z; cases z)]; exact q⟩
theorem s_isNi {H : Hp} {Q : VK} {a : Int} (q : Q (.bl false) H) : rIsN (.int a) .non H Q := ⟨rfl, by rw [decide_eq_false (by intro z; cases z)]; exact q⟩
theorem s_notNN {H : Hp} {Q : VK} (q : Q (.bl false) H) : rNotN .non .non H Q := ⟨rfl, by rw [decide_eq_true rfl]; exact q⟩
theorem s_notNr {H : Hp} {Q : VK} {a : Addr} (q : Q (.bl true) H) : rNotN (.ref a) .non H Q := ⟨rfl, by rw [decide_eq_false (by intro z; cases z)]; exact q⟩
theorem s_notNi {H : Hp} {Q : VK} {a : Int} (q : Q (.bl true) H) : rNotN (.int a) .non H Q := ⟨rfl, by rw [decide_eq_false (by intro z; cases z)]; exact q⟩
def rMin2 : List V → Hp → VK → Prop := fun xs H Q => ∃ i j, xs = [.int i, .int j] ∧ Q (.int (if j < i then j else i)) H
def rMax2 : List V → Hp → VK → Prop := fun xs H Q => ∃ i j, xs = [.int i, .int j] ∧ Q (.int (if j > i then j else i)) H
theorem kMin2 (hc : X.calm = true) : CallR X (.builtin "min") rMin2 := call_min2 hc
theorem kMax2 (hc : X.calm = true) : CallR X (.builtin "max") rMax2 := call_max2 hc
theorem s_min2 {H : Hp} {Q : VK} {i j : Nat} (q : Q (.int ((min i j : Nat) : Int)) H) : rMin2 [.int i, .int j] H Q := ⟨i, j, rfl, by rw [show (if (j : Int) < i then (j : Int) else i) = ((min i j : Nat) : Int) by split <;> omega]; exact q⟩
theorem s_max2 {H : Hp} {Q : VK} {i j : Nat} (q : Q (.int ((max i j : Nat) : Int)) H) : rMax2 [.int i, .int j] H Q := ⟨i, j, rfl, by rw [show (if (j : Int) > i then (j : Int) else i) = ((max i j : Nat) : Int) by split <;> omega]; exact q⟩
theorem s_intB {H : Hp} {Q : VK} {k : Bool} (q : Q (.int (if k then 1 else 0)) H) : rInt1 [.bl k] H Q := .inr ⟨k, rfl, q⟩
theorem s_intI {H : Hp} {Q : VK} {k : Int} (q : Q (.int k) H) : rInt1 [.int k] H Q := .inl ⟨k, rfl, q⟩
theorem s_m1 {r : V → List V → Hp → VK → Prop} {to te : TE} {σ : Sl} {H : Hp} {Q : VK} (q : to σ H fun x H1 => (∃ a, x = .str a) ∧ te σ H1 fun y H2 => r x [y] H2 Q) : tM1 r to te σ H Q := q
theorem s_m1E {x : Str} {R : Prop} (q : R) : (∃ a, V.str x = .str a) ∧ R := ⟨⟨x, rfl⟩, q⟩
theorem kSum (hc : X.calm = true) (hK : X.K = K := by rfl) : CallR X (.builtin "sum") (rSum K) := by subst hK; exact cr_sum hc
theorem kAll (hc : X.calm = true) (hK : X.K = K := by rfl) : CallR X (.builtin "all") (rAll K) := by subst hK; exact cr_all hc
theorem kIndex (hK : X.K = K := by rfl) : MtR X "list.index" (rIndex K) := by subst hK; exact mt_index
/-- sorted: of ints, of pairs of ints -/
def rSorted (K : PySem.W.Frag) : List V → Hp → VK → Prop := fun xs H Q => rSortedI K xs H Q ∨ rSortedPO K xs H Q
theorem kSorted (hK : X.K = K := by rfl) : CallR X (.builtin "sorted") (rSorted K) := by subst hK; exact cr_sortedI.or cr_sortedPO
/-- in: of flat things in a list or a tuple, of data in a list -/
def rInA (K : PySem.W.Frag) (neg : Bool) : R2 := fun x y H Q => rIn K neg x y H Q ∨ (if neg then rNotInD K x y H Q else rInD K x y H Q)
theorem kIn (hu : X.A.units + 65 < cLine) (hK : X.K = K := by rfl) : OpR X (compareOp .In) (rInA K false) := by subst hK; exact op_in_seq.or (op_inD hu)
theorem kNotIn (hu : X.A.units + 65 < cLine) (hK : X.K = K := by rfl) : OpR X (compareOp .NotIn) (rInA K true) := by subst hK; exact op_notIn_seq.or (op_notInD hu)
section
variable {H : Hp} {Q : VK} {x : V} {a : Addr} {xs : List V} {d : PyData} {ds : List PyData}
theorem s_inF (h : SqL K H a xs ∨ SqT K H a xs) (fx : flatV x = true) (fs : xs.all flatV = true) (q : Q (.bl (inV x xs)) H) : rInA K false x (.ref a) H Q := .inl ⟨a, xs, rfl, h, fx, fs, q⟩
theorem s_notInF (h : SqL K H a xs ∨ SqT K H a xs) (fx : flatV x = true) (fs : xs.all flatV = true) (q : Q (.bl (!inV x xs)) H) : rInA K true x (.ref a) H Q := .inl ⟨a, xs, rfl, h, fx, fs, q⟩
theorem s_inD (hx : Dp K H x d) (h : Dp K H (.ref a) (.list ds)) (s1 : SeqAt.shaped d = true) (s2 : SeqAt.shaped (.list ds) = true) (q : Q (.bl (ds.any fun z => PyData.eqv z d)) H) : rInA K false x (.ref a) H Q := .inr ⟨d, ds, hx, h, s1, s2, q⟩
theorem s_notInD (hx : Dp K H x d) (h : Dp K H (.ref a) (.list ds)) (s1 : SeqAt.shaped d = true) (s2 : SeqAt.shaped (.list ds) = true) (q : Q (.bl (!ds.any fun z => PyData.eqv z d)) H) : rInA K true x (.ref a) H Q := .inr ⟨d, ds, hx, h, s1, s2, q⟩
end
/-- sep.join(texts) -/
def rJoin (K : PySem.W.Frag) : V → List V → Hp → VK → Prop := fun x xs H Q => ∃ a p, ∃ ys : List Str, x = .str a ∧ xs = [.ref p] ∧ (SqL K H p (ys.map V.str) ∨ SqT K H p (ys.map V.str)) ∧ (ys.map (·.length)).sum + ys.length * a.length ≤ 16777216 ∧ Q (.str (Txt.join a ys)) H
theorem kJoin {o e : Expr} {to te : TE} {apos pos : Pos} (ho : PE X o to) (he : PE X e te) (hs : starEach [e] X.env = [(false, eval e X.env)] := by rfl) (hbase : attributeBase o "join" X.env (eval o X.env) = eval o X.env := by rfl) (hline : (apos.endLine == pos.line) = true := by rfl) (hK : X.K = K := by rfl) :
    PE X (.Call (.Attribute o "join" apos) [e] [] pos) (tM1 (rJoin K) to te) := by subst hK; exact pe_join ho he hs hbase hline
theorem s_join {H : Hp} {Q : VK} {x : Str} {p : Addr} {ys : List Str} (h : SqL K H p (ys.map V.str) ∨ SqT K H p (ys.map V.str)) (hz : (ys.map (·.length)).sum + ys.length * x.length ≤ 16777216) (q : Q (.str (Txt.join x ys)) H) : rJoin K (.str x) [.ref p] H Q := ⟨x, p, ys, rfl, rfl, h, hz, q⟩
theorem kSet {o value : Expr} {ta tv : TE} {f : Str} {pos pos' : Pos} (ha : PE X o ta) (hv : PE X value tv) (hs : swapsWith value (some (.Attribute o f pos')) pos.line X.env = pure false) (hK : X.K = K := by rfl) : PS X (.Assign [.Attribute o f pos'] value pos) (sFld K ta tv f) := by subst hK; exact ps_fld ha hv hs
theorem kTry {c : Value} {i j : Nat} {x n m : Str} {body : List Stmt} {np pos pos' pm pn2 pa : Pos} {tb : WX → TS} {Wout : WX} (hs : X.stack = X.env :: X.outer) (hf : X.env.frame = some X.env.locals) (hex : X.ex = []) (hN : X.N.Nodup)
    (hi : X.N[i]? = some n) (hln : X.env.kindOf n = some .local) (hj : X.N[j]? = some m) (hlm : X.env.kindOf m = some .local) (hij : i ≠ j) (hc : Names X x c) (tk : Takes X Wout)
    (hsw : swapsWith (.Name n pn2) (some (.Name m pm)) pa.line X.env = pure false)
    (hb : ∀ (W : WX) (pn : List (Addr × Obj)) (xe : Value → Shared → Prop), Takes (X.tr pn xe) W → PassesOwn (model X.prog X.w) X.A X.env xe → PSs (X.tr pn xe) body (tb W))
    (hdn : (n == ("__debug__" : Str)) = false := by decide) (hcn : (n == ("__classdict__" : Str)) = false := by decide) (hK : X.K = K := by rfl) :
    PS X (.Try body [.ExceptHandler (some (.Name x np)) (some n) [.Assign [.Name m pm] (.Name n pn2) pa] pos'] [] [] pos) (tTryK K c i j Wout tb) := by subst hK; exact ps_try_keep hs hf hex hN hi hln hj hlm hij hc tk hsw hb hdn hcn
end
end J

/-! Joinside, len(set(xs)) of a list of ints, unlike ones or not. -/
namespace J
open PySem PySem.Spec PyProof.Rows L2
theorem met_le (f : Nat → Int) : ∀ n, (firstMet f n).length ≤ n
  | 0 => Nat.le_refl _
  | n + 1 => by
    have ih := met_le f n
    rw [firstMet_succ]; unfold step_dedup
    split
    · omega
    · rw [List.length_append, List.length_singleton]; omega
theorem met_full (f : Nat → Int) : ∀ n, (firstMet f n).length = n → firstMet f n = (List.range n).map f ∧ (firstMet f n).Nodup
  | 0, _ => ⟨rfl, List.nodup_nil⟩
  | n + 1, h => by
    have le := met_le f n
    rw [firstMet_succ] at h ⊢; unfold step_dedup at h ⊢
    split at h
    · omega
    · rename_i no
      rw [if_neg no]
      rw [List.length_append, List.length_singleton] at h
      obtain ⟨e, nd⟩ := met_full f n (by omega)
      refine ⟨by rw [List.range_succ, List.map_append, e]; rfl, ?_⟩
      rw [List.nodup_append]
      refine ⟨nd, by simp, ?_⟩
      intro a ha b hb
      rw [List.mem_singleton] at hb
      subst hb
      intro z
      subst z
      exact no (List.any_eq_true.mpr ⟨_, ha, beq_self_eq_true _⟩)
theorem met_nd (f : Nat → Int) : ∀ n, ((List.range n).map f).Nodup → firstMet f n = (List.range n).map f
  | 0, _ => rfl
  | n + 1, h => by
    rw [List.range_succ, List.map_append, List.nodup_append] at h
    obtain ⟨h1, _, h2⟩ := h
    have ih := met_nd f n h1
    rw [firstMet_succ, ih]; unfold step_dedup
    have no : ¬ (((List.range n).map f).any (· == f n)) = true := by
      intro z
      obtain ⟨x, hx, e⟩ := List.any_eq_true.mp z
      exact h2 x hx (f n) (by simp) (beq_iff_eq.mp e)
    rw [if_neg no, List.range_succ, List.map_append]
    rfl
theorem range_getD (ns : List Int) : (List.range ns.length).map (fun i => ns.getD i 0) = ns := by
  apply List.ext_getElem
  · simp
  · intro i h1 h2
    simp [h2]
theorem met_iff (ns : List Int) : (firstMet (fun i => ns.getD i 0) ns.length).length = ns.length ↔ ns.Nodup := by
  constructor
  · intro h
    obtain ⟨e, nd⟩ := met_full _ _ h
    rw [e, range_getD] at nd
    exact nd
  · intro h
    rw [met_nd _ _ (by rw [range_getD]; exact h), range_getD]
theorem ints_vals : ∀ {ns : List Int} {us : List Value}, Vals (ns.map V.int) us → IntsAre us ns
  | [], _, .nil => .nil
  | n :: ns, _, .cons r t => by
    obtain ⟨k, rfl⟩ := r
    exact .cons n k (ints_vals t)
def tLenSet (K : PySem.W.Frag) (ta : TE) : TE := fun σ H Q => ta σ H fun x H1 => ∃ (l : Addr) (ns : List Int), x = .ref l ∧ SqL K H1 l (ns.map V.int) ∧ ns.length ≤ 1000 ∧ ∀ k : Nat, k ≤ ns.length → (k = ns.length ↔ ns.Nodup) → Q (.int k) H1
theorem pe_lenSetA {X : Cx} {a : Expr} {ta : TE} {p p2 q pos : Pos} (hg : Gl X "len") (hm : X.mg "len" = none) (hg2 : Gl X "set") (hm2 : X.mg "set" = none) (ha : PE X a ta) {K : PySem.W.Frag} (hc : X.calm = true := by rfl)
    (na : starEach [a] X.env = (false, eval a X.env) :: starEach [] X.env := by rfl) (hK : X.K = K := by rfl) : PE X (.Call (.Name "len" p) [.Call (.Name "set" p2) [a] [] q] [] pos) (tLenSet K ta) := by
  subst hK
  refine ⟨fun pins s σ H Q I h => Call_ (ld_blt I hg hm boot_len ?_)⟩
  refine callWith_builtin1 (args_cons ?_ rfl) rfl rfl
  refine Call_ (ld_blt I hg2 hm2 boot_set ?_)
  refine callWith_type1 (args_cons (thn (ha.run pins s σ H _ I h) fun v s1 got => args_nil ?_) na) na rfl
  obtain ⟨x, H1, I1, r1, l, ns, rfl, hq, hl, q1⟩ := got
  cases r1
  obtain ⟨its, r, pl, hz⟩ := I1.list hq
  have size_is : its.toArray.size = ns.length := by rw [List.size_toArray, ← r.length, List.length_map]
  refine call_set_list (ns := ns) (I1.ok.hd hc) pl.isList (by simpa using ints_vals r) (Nat.lt_of_le_of_lt (m := 1001) (by omega) (by decide)) fun h' tk hS hk => args_nil ?_
  rw [size_is] at hS
  obtain ⟨o, es, ep, t, ho, hex, hd, _, _, _, hf, hn⟩ := hS
  have le := met_le (fun i => ns.getD i 0) ns.length
  have I2 : Inv X pins σ H1 { s1 with heap := h', toks := tk } := I1.kept fun b o e => hk b o (Heap.lt_size e) e
  refine call_len_set ho hex hd hf (by rw [hn] <;> omega) ⟨.int ((firstMet (fun i => ns.getD i 0) ns.length).length : Nat), H1, I2.tok _, ⟨_, by rw [hn]⟩, q1 _ le (met_iff ns)⟩
theorem s_lset {K : PySem.W.Frag} {ta : TE} {σ : Sl} {H : Hp} {Q : VK} (q : ta σ H fun x H1 => ∃ (l : Addr) (ns : List Int), x = .ref l ∧ SqL K H1 l (ns.map V.int) ∧ ns.length ≤ 1000 ∧ ∀ k : Nat, k ≤ ns.length → (k = ns.length ↔ ns.Nodup) → Q (.int k) H1) : tLenSet K ta σ H Q := q
end J

/-! Joinside, webs as relations: masks made of a relation, its ties in order; lists of pairs, sorted. -/
namespace J
open PySem PySem.Spec L2
abbrev Rel := Nat → Nat → Bool
def bitsOf (f : Nat → Bool) : Nat → Nat
  | 0 => 0
  | n + 1 => bitsOf f n ^^^ (if f n = true then 2 ^ n else 0)
theorem bitsOf_bit (f : Nat → Bool) (j : Nat) : ∀ n, (bitsOf f n).testBit j = (decide (j < n) && f j)
  | 0 => by simp [bitsOf]
  | n + 1 => by
    rw [bitsOf, Nat.testBit_xor, bitsOf_bit f j n]
    by_cases e : j = n
    · subst e
      cases h : f j <;> simp
    · by_cases l : j < n
      · cases h : f n <;> simp [Nat.testBit_two_pow, l, show j < n + 1 by omega, show ¬ n = j by omega]
      · cases h : f n <;> simp [Nat.testBit_two_pow, l, show ¬ j < n + 1 by omega, show ¬ n = j by omega]
theorem bitsOf_congr {f g : Nat → Bool} {n m : Nat} (h : ∀ j, (decide (j < n) && f j) = (decide (j < m) && g j)) : bitsOf f n = bitsOf g m :=
  Nat.eq_of_testBit_eq fun j => by rw [bitsOf_bit, bitsOf_bit, h]
/-- the masks of a relation on n points -/
def webM (n : Nat) (R : Rel) : List Nat := (List.range n).map fun i => bitsOf (R i) n
theorem webM_len (n : Nat) (R : Rel) : (webM n R).length = n := by simp [webM]
theorem webM_getD {n i : Nat} {R : Rel} (h : i < n) : (webM n R).getD i 0 = bitsOf (R i) n := by simp [webM, h]
theorem webM_bit {n i j : Nat} {R : Rel} (hi : i < n) (hj : j < n) : ((webM n R).getD i 0).testBit j = R i j := by rw [webM_getD hi, bitsOf_bit]; simp [hj]
theorem webM_congr {n : Nat} {R S : Rel} (h : ∀ i j, i < n → j < n → R i j = S i j) : webM n R = webM n S := by
  apply List.map_congr_left
  intro i hi
  refine bitsOf_congr fun j => ?_
  by_cases l : j < n
  · rw [h i j (List.mem_range.mp hi) l]
  · simp [l]
theorem ext_masks {ms ns : List Nat} (hl : ms.length = ns.length) (h : ∀ i j, i < ms.length → (ms.getD i 0).testBit j = (ns.getD i 0).testBit j) : ms = ns := by
  apply List.ext_getElem hl
  intro i h1 h2
  apply Nat.eq_of_testBit_eq
  intro j
  have q := h i j h1
  simpa [List.getD_eq_getElem?_getD, h1, h2] using q
/-- a relation with the tie of i and j turned -/
def togg (R : Rel) (i j : Nat) : Rel := fun a b => if (a = i ∧ b = j) ∨ (a = j ∧ b = i) then !R a b else R a b
theorem flip_webM {n i j : Nat} {R : Rel} (hi : i < n) (hj : j < n) (ne : i ≠ j) : flip (webM n R) i j = webM n (togg R i j) := by
  apply ext_masks
  · rw [flip_length, webM_len, webM_len]
  intro a b ha
  rw [flip_length, webM_len] at ha
  rw [webM_getD ha, bitsOf_bit]
  have li : i < (webM n R).length := by rw [webM_len]; exact hi
  have lj : j < (webM n R).length := by rw [webM_len]; exact hj
  have la : a < (webM n R).length := by rw [webM_len]; exact ha
  have e0 : ((webM n R).set i ((webM n R).getD i 0 ^^^ 2 ^ j)).getD j 0 = (webM n R).getD j 0 := by
    simp [List.getD_eq_getElem?_getD, List.getElem?_set, ne]
  unfold flip
  rw [e0]
  by_cases h1 : a = j
  · subst h1
    have e1 : (((webM n R).set i ((webM n R).getD i 0 ^^^ 2 ^ a)).set a ((webM n R).getD a 0 ^^^ 2 ^ i)).getD a 0 = (webM n R).getD a 0 ^^^ 2 ^ i := by
      simp [List.getD_eq_getElem?_getD, List.getElem?_set, lj]
    rw [e1, webM_getD ha, Nat.testBit_xor, bitsOf_bit, Nat.testBit_two_pow]
    unfold togg
    by_cases h2 : b = i
    · subst h2
      simp [hi]
    · simp [h2, Ne.symm ne, show ¬ i = b by omega]
  · by_cases h2 : a = i
    · subst h2
      have e1 : (((webM n R).set a ((webM n R).getD a 0 ^^^ 2 ^ j)).set j ((webM n R).getD j 0 ^^^ 2 ^ a)).getD a 0 = (webM n R).getD a 0 ^^^ 2 ^ j := by
        simp [List.getD_eq_getElem?_getD, List.getElem?_set, la, Ne.symm ne]
      rw [e1, webM_getD ha, Nat.testBit_xor, bitsOf_bit, Nat.testBit_two_pow]
      unfold togg
      by_cases h3 : b = j
      · subst h3
        simp [hj]
      · simp [h3, h1, show ¬ j = b by omega]
    · have e1 : (((webM n R).set i ((webM n R).getD i 0 ^^^ 2 ^ j)).set j ((webM n R).getD j 0 ^^^ 2 ^ i)).getD a 0 = (webM n R).getD a 0 := by
        simp [List.getD_eq_getElem?_getD, List.getElem?_set, show ¬ j = a by omega, show ¬ i = a by omega]
      rw [e1, webM_getD ha, bitsOf_bit]
      unfold togg
      simp [h1, h2]
theorem webM_none (n : Nat) : List.replicate n 0 = webM n (fun _ _ => false) := by
  apply ext_masks
  · rw [List.length_replicate, webM_len]
  intro i j hi
  rw [List.length_replicate] at hi
  rw [webM_getD hi, bitsOf_bit]
  simp [hi]
theorem webM_grow {n : Nat} {R : Rel} : webM n R ++ [0] = webM (n + 1) (fun a b => decide (a < n) && decide (b < n) && R a b) := by
  apply ext_masks
  · rw [List.length_append, webM_len, webM_len]; rfl
  intro i j hi
  rw [List.length_append, webM_len, List.length_singleton] at hi
  rw [webM_getD hi, bitsOf_bit]
  by_cases e : i < n
  · have e1 : (webM n R ++ [0]).getD i 0 = (webM n R).getD i 0 := by
      simp [List.getD_eq_getElem?_getD, List.getElem?_append_left (show i < (webM n R).length by rw [webM_len]; exact e)]
    rw [e1, webM_getD e, bitsOf_bit]
    by_cases l : j < n
    · simp [l, e, show j < n + 1 by omega]
    · simp [l]
  · have e2 : i = n := by omega
    subst e2
    have e1 : (webM i R ++ [0]).getD i 0 = 0 := by
      have : (webM i R).length = i := webM_len i R
      simp [List.getD_eq_getElem?_getD, List.getElem?_append_right, this]
    rw [e1]
    simp
/-! ### ties in order -/
def tiesR (n : Nat) (R : Rel) : List (Nat × Nat) := (List.range n).flatMap fun i => ((List.range n).filter fun o => decide (i < o) && R i o).map fun o => (i, o)
theorem pts_bits {f : Nat → Bool} {n : Nat} (h : n ≤ 30) : pts (bitsOf f n) = (List.range n).filter f := by
  obtain ⟨d, hd⟩ : ∃ d, 30 = n + d := ⟨30 - n, by omega⟩
  unfold pts
  rw [hd, List.range_add, List.filter_append]
  have e1 : (List.range n).filter (fun j => (bitsOf f n).testBit j) = (List.range n).filter f := by
    apply List.filter_congr
    intro j hj
    rw [bitsOf_bit]
    simp [List.mem_range.mp hj]
  have e2 : ((List.range d).map (n + ·)).filter (fun j => (bitsOf f n).testBit j) = [] := by
    rw [List.filter_eq_nil_iff]
    intro j hj
    obtain ⟨k, _, rfl⟩ := List.mem_map.mp hj
    rw [bitsOf_bit]
    simp only [Nat.not_lt.mpr (Nat.le_add_right n k), decide_false, Bool.false_and, Bool.false_eq_true, not_false_eq_true]
  rw [e1, e2, List.append_nil]
theorem fm_filter {α β : Type} (p : α → Prop) [DecidablePred p] (g : α → β) (l : List α) : (l.filterMap fun o => if p o then some (g o) else none) = (l.filter fun o => decide (p o)).map g := by
  induction l with
  | nil => rfl
  | cons x r ih =>
    by_cases h : p x
    · simp [h, ih]
    · simp [h, ih]
theorem ties_webM {n : Nat} {R : Rel} (h : n ≤ 30) : tiesM (webM n R) = tiesR n R := by
  rw [← tiesTo_all, webM_len]
  unfold tiesTo tiesR
  rw [List.flatMap_def]
  congr 1
  apply List.map_congr_left
  intro i hi
  unfold tiesAt
  rw [webM_getD (List.mem_range.mp hi), pts_bits h, fm_filter, List.filter_filter]
theorem mem_tiesR {n a b : Nat} {R : Rel} : (a, b) ∈ tiesR n R ↔ a < b ∧ b < n ∧ R a b = true := by
  unfold tiesR
  simp only [List.mem_flatMap, List.mem_range, List.mem_map, List.mem_filter, Bool.and_eq_true, decide_eq_true_eq, Prod.mk.injEq]
  constructor
  · rintro ⟨i, hi, o, ⟨ho, hl, hr⟩, rfl, rfl⟩
    exact ⟨hl, ho, hr⟩
  · rintro ⟨h1, h2, h3⟩
    exact ⟨a, by omega, b, ⟨h2, h1, h3⟩, rfl, rfl⟩
def lexLt (p q : Nat × Nat) : Prop := p.1 < q.1 ∨ (p.1 = q.1 ∧ p.2 < q.2)
theorem tiesR_lex (n : Nat) (R : Rel) : (tiesR n R).Pairwise lexLt := by
  unfold tiesR
  rw [List.flatMap_def, List.pairwise_flatten]
  constructor
  · intro l hl
    obtain ⟨i, _, rfl⟩ := List.mem_map.mp hl
    rw [List.pairwise_map]
    refine (List.pairwise_lt_range.filter _).imp ?_
    intro a b h
    exact .inr ⟨rfl, h⟩
  · rw [List.pairwise_map]
    refine List.pairwise_lt_range.imp ?_
    intro a b h x hx y hy
    obtain ⟨c, _, rfl⟩ := List.mem_map.mp hx
    obtain ⟨d, _, rfl⟩ := List.mem_map.mp hy
    exact .inl h
theorem tiesR_nodup (n : Nat) (R : Rel) : (tiesR n R).Nodup := (tiesR_lex n R).imp fun h e => by
  subst e
  rcases h with h | h <;> omega
theorem tiesR_congr {n : Nat} {R S : Rel} (h : ∀ i j, i < j → j < n → R i j = S i j) : tiesR n R = tiesR n S := by
  unfold tiesR
  rw [List.flatMap_def, List.flatMap_def]
  congr 1
  apply List.map_congr_left
  intro i hi
  congr 1
  apply List.filter_congr
  intro j hj
  by_cases l : i < j
  · rw [h i j l (List.mem_range.mp hj)]
  · simp [l]
theorem tiesR_le (n : Nat) (R : Rel) (h : n ≤ 30) : (tiesR n R).length ≤ 900 := by
  rw [← ties_webM h, ← tiesTo_all]
  have := tiesTo_length (webM n R) (webM n R).length (by rw [webM_len]; exact h)
  rw [webM_len] at this ⊢
  omega
/-- an ordered list of the same pairs is the one list -/
theorem lex_uniq {l m : List (Nat × Nat)} (p : l.Perm m) (hl : l.Pairwise lexLt) (hm : m.Pairwise lexLt) : l = m :=
  List.Perm.eq_of_pairwise (le := lexLt) (fun a b _ _ h1 h2 => by
    rcases h1 with h1 | h1 <;> rcases h2 with h2 | h2 <;> (first | omega)) hl hm p
/-! ### pairs as data -/
def pairD (q : Nat × Nat) : PyData := .tuple [.int q.1, .int q.2]
def pairsD (qs : List (Nat × Nat)) : List PyData := qs.map pairD
theorem pairs_lay : ∀ qs : List (Nat × Nat), PyData.canLayAll0 (pairsD qs) = true ∧ PyData.depthAll (pairsD qs) ≤ 1
  | [] => ⟨rfl, by decide⟩
  | q :: qs => by
    obtain ⟨h1, h2⟩ := pairs_lay qs
    refine ⟨?_, ?_⟩
    · show (PyData.canLayAll0 (pairD q :: pairsD qs)) = true
      simp only [PyData.canLayAll0, h1, pairD, PyData.canLay0, Bool.and_self]
    · show PyData.depthAll (pairD q :: pairsD qs) ≤ 1
      simp only [PyData.depthAll, pairD, PyData.depth]
      omega
theorem shaped_pairs (qs : List (Nat × Nat)) : SeqAt.shaped (.list (pairsD qs)) = true := by
  obtain ⟨h1, h2⟩ := pairs_lay qs
  unfold SeqAt.shaped
  rw [Bool.and_eq_true]
  refine ⟨h1, decide_eq_true ?_⟩
  simp only [PyData.depth]
  omega
theorem shaped_pair (q : Nat × Nat) : SeqAt.shaped (pairD q) = true := by
  unfold SeqAt.shaped
  rw [Bool.and_eq_true]
  refine ⟨rfl, decide_eq_true ?_⟩
  simp only [pairD, PyData.depth, PyData.depthAll]
  omega
theorem eqv_pair (p q : Nat × Nat) : PyData.eqv (pairD p) (pairD q) = decide (p = q) := by
  obtain ⟨a, b⟩ := p
  obtain ⟨c, d⟩ := q
  unfold pairD
  simp only [PyData.eqv, PyData.eqvAll, Bool.and_true, Prod.mk.injEq]
  rw [Bool.eq_iff_iff]
  simp only [Bool.and_eq_true, beq_iff_eq, decide_eq_true_eq]
  omega
theorem any_pair (qs : List (Nat × Nat)) (q : Nat × Nat) : ((pairsD qs).any fun z => PyData.eqv z (pairD q)) = decide (q ∈ qs) := by
  rw [Bool.eq_iff_iff, List.any_eq_true, decide_eq_true_eq]
  constructor
  · rintro ⟨x, hx, e⟩
    obtain ⟨p, hp, rfl⟩ := List.mem_map.mp hx
    rw [eqv_pair, decide_eq_true_eq] at e
    exact e ▸ hp
  · intro h
    exact ⟨_, List.mem_map.mpr ⟨q, h, rfl⟩, by rw [eqv_pair]; simp⟩
theorem eqv_pairs (ps qs : List (Nat × Nat)) : PyData.eqvAll (pairsD ps) (pairsD qs) = decide (ps = qs) := by
  induction ps generalizing qs with
  | nil => cases qs <;> simp [pairsD, PyData.eqvAll]
  | cons p ps ih =>
    cases qs with
    | nil => simp [pairsD, PyData.eqvAll]
    | cons q qs =>
      show PyData.eqvAll (pairD p :: pairsD ps) (pairD q :: pairsD qs) = _
      simp only [PyData.eqvAll]
      rw [eqv_pair, ih, Bool.eq_iff_iff]
      simp
section
variable {K : PySem.W.Frag} {H : Hp} {Q : VK} {x : V} {q : Nat × Nat} {a b : Addr} {xs ys : List V} {qs rs : List (Nat × Nat)}
theorem PairAt.dp (h : PairAt H x q) : Dp K H x (pairD q) := by
  obtain ⟨t, rfl, e⟩ := h
  exact .tup (SqT.of e) (.cons (.int _) (.cons (.int _) .nil))
theorem PairsAt.dp (h : PairsAt H xs qs) : DpAll K H xs (pairsD qs) := by
  induction h with
  | nil => exact .nil
  | cons p _ ih => exact .cons p.dp ih
theorem s_inP (hx : PairAt H x q) (h : SqL K H a xs) (hp : PairsAt H xs qs) (k : Q (.bl (decide (q ∈ qs))) H) : rInA K false x (.ref a) H Q :=
  s_inD hx.dp (.lst h hp.dp) (shaped_pair q) (shaped_pairs qs) (by rw [any_pair]; exact k)
theorem s_notInP (hx : PairAt H x q) (h : SqL K H a xs) (hp : PairsAt H xs qs) (k : Q (.bl (!decide (q ∈ qs))) H) : rInA K true x (.ref a) H Q :=
  s_notInD hx.dp (.lst h hp.dp) (shaped_pair q) (shaped_pairs qs) (by rw [any_pair]; exact k)
theorem s_eqP (h : SqL K H a xs) (hp : PairsAt H xs qs) (h' : SqL K H b ys) (hp' : PairsAt H ys rs) (k : Q (.bl (decide (qs = rs))) H) : rEqA K (.ref a) (.ref b) H Q :=
  s_eqD (.lst h hp.dp) (.lst h' hp'.dp) (shaped_pairs qs) (shaped_pairs rs) (by simp only [PyData.eqv]; rw [eqv_pairs]; exact k)
theorem s_neP (h : SqL K H a xs) (hp : PairsAt H xs qs) (h' : SqL K H b ys) (hp' : PairsAt H ys rs) (k : Q (.bl (!decide (qs = rs))) H) : rNeA K (.ref a) (.ref b) H Q :=
  s_neD (.lst h hp.dp) (.lst h' hp'.dp) (shaped_pairs qs) (shaped_pairs rs) (by simp only [PyData.eqv]; rw [eqv_pairs]; exact k)
/-! ### sorted pairs -/
/-- the pair that stands at a value -/
noncomputable def pairOf (H : Hp) (x : V) : Nat × Nat := open Classical in if h : ∃ q, PairAt H x q then h.choose else (0, 0)
theorem pairOf_eq (h : PairAt H x q) : pairOf H x = q := by
  have e : ∃ q, PairAt H x q := ⟨q, h⟩
  unfold pairOf
  rw [dif_pos e]
  obtain ⟨t, e1, e2⟩ := e.choose_spec
  obtain ⟨t', rfl, e3⟩ := h
  injection e1 with e1
  subst e1
  rw [e3] at e2
  injection e2 with e2
  injection e2 with e2
  injection e2 with e4 e5
  injection e4 with e4
  injection e5 with e5 _
  injection e5 with e5
  have h1 : e.choose.1 = q.1 := by omega
  have h2 : e.choose.2 = q.2 := by omega
  exact Prod.ext h1 h2
theorem PairsAt.map (h : PairsAt H xs qs) : xs.map (pairOf H) = qs := by
  induction h with
  | nil => rfl
  | cons p _ ih => rw [List.map_cons, ih, pairOf_eq p]
theorem PairsAt.all (h : PairsAt H xs qs) : ∀ x ∈ xs, PairAt H x (pairOf H x) := by
  induction h with
  | nil => intro x hx; cases hx
  | cons p _ ih =>
    intro x hx
    rcases List.mem_cons.mp hx with e | hx
    · subst e; rw [pairOf_eq p]; exact p
    · exact ih x hx
theorem PairsAt.of_all : ∀ {xs : List V}, (∀ x ∈ xs, PairAt H x (pairOf H x)) → PairsAt H xs (xs.map (pairOf H))
  | [], _ => .nil
  | x :: xs, h => .cons (h x List.mem_cons_self) (PairsAt.of_all fun y hy => h y (List.mem_cons_of_mem _ hy))
/-- sorted: the list of the same pairs in order -/
theorem s_sortP {ts : List (Nat × Nat)} (h : SqL K H a xs) (hp : PairsAt H xs qs) (pm : qs.Perm ts) (od : ts.Pairwise lexLt) (k : ∀ p ys, H p = none → PairsAt (upd H p (.lst ys)) ys ts → Q (.ref p) (upd H p (.lst ys))) : rSorted K [.ref a] H Q := by
  refine .inr ⟨a, xs, fun x => (((pairOf H x).1 : Int), ((pairOf H x).2 : Int)), rfl, h, fun x hx => ?_, fun ys p srt stb hn => ?_⟩
  · obtain ⟨t, e, e2⟩ := hp.all x hx
    exact ⟨t, e, e2⟩
  · refine k p ys hn ?_
    have all : ∀ x ∈ ys, PairAt H x (pairOf H x) := fun x hx => hp.all x (stb.perm.mem_iff.mp hx)
    have e0 : PairsAt H ys (ys.map (pairOf H)) := PairsAt.of_all all
    have pm2 : (ys.map (pairOf H)).Perm ts := by
      refine List.Perm.trans ?_ pm
      rw [← hp.map]
      exact stb.perm.map _
    have nd : (ys.map (pairOf H)).Nodup := pm2.nodup_iff.mpr (od.imp fun h e => by subst e; rcases h with h | h <;> omega)
    have sl : (ys.map (pairOf H)).Pairwise fun p q => ¬ lexLt q p := by
      rw [List.pairwise_map]
      refine List.Pairwise.imp ?_ srt
      intro x y hxy hl
      have := SrtO.lexB_no.mp hxy
      unfold lexLt at hl
      apply this
      dsimp only
      omega
    have sl2 : (ys.map (pairOf H)).Pairwise lexLt := by
      refine (List.pairwise_and_iff.mpr ⟨sl, nd⟩).imp ?_
      rintro ⟨a, b⟩ ⟨c, d⟩ ⟨h1, h2⟩
      unfold lexLt at h1 ⊢
      dsimp only at h1 ⊢
      by_cases e : a = c ∧ b = d
      · exact absurd (by rw [e.1, e.2]) h2
      · omega
    rw [lex_uniq pm2 sl2 od] at e0
    exact e0.same (Same.new hn)
end
end J

/-! Joinside, webs made of webs: new ones, parts, opposites. -/
namespace J
open PySem PySem.Spec L2
/-- a relation of ties -/
structure Sym (R : Rel) : Prop where
  sy : ∀ a b, R a b = R b a
  ir : ∀ a, R a a = false
/-- a relation up to a place -/
def fillTo (F : Rel) (i j : Nat) : Rel := fun a b => (decide (max a b < i) || (decide (max a b = i) && decide (min a b < j))) && F a b
theorem fill_start (F : Rel) (m : Nat) : webM m (fun _ _ => false) = webM m (fillTo F 0 0) := webM_congr fun a b _ _ => by simp [fillTo]
theorem fill_end (F : Rel) (m : Nat) : webM m (fillTo F m 0) = webM m F := webM_congr fun a b ha hb => by simp [fillTo, show max a b < m by omega]
theorem fill_next {F : Rel} (S : Sym F) (i m : Nat) : webM m (fillTo F i i) = webM m (fillTo F (i + 1) 0) := webM_congr fun a b ha hb => by
  unfold fillTo
  by_cases e : a = b
  · subst e; simp [S.ir]
  · have h1 : (max a b = i ∧ min a b < i) ↔ max a b = i := by omega
    have h2 : (decide (max a b < i) || (decide (max a b = i) && decide (min a b < i))) = (decide (max a b < i + 1) || (decide (max a b = i + 1) && decide (min a b < 0))) := by
      rw [Bool.eq_iff_iff]
      simp only [Bool.or_eq_true, Bool.and_eq_true, decide_eq_true_eq]
      omega
    rw [h2]
theorem fill_bit {F : Rel} {i j : Nat} (h : j < i) : fillTo F i j j i = false := by
  unfold fillTo
  have : ¬ max j i < i := by omega
  have h2 : ¬ min j i < j := by omega
  simp [h2]
  omega
theorem fill_no {F : Rel} {i j m : Nat} (S : Sym F) (h : j < i) (e : F j i = false) : webM m (fillTo F i j) = webM m (fillTo F i (j + 1)) := webM_congr fun a b ha hb => by
  unfold fillTo
  by_cases q : max a b = i ∧ min a b = j
  · have : F a b = false := by
      by_cases w : a < b
      · rw [show a = j by omega, show b = i by omega]; exact e
      · rw [show a = i by omega, show b = j by omega, S.sy]; exact e
    rw [this, Bool.and_false, Bool.and_false]
  · congr 1
    rw [Bool.eq_iff_iff]
    simp only [Bool.or_eq_true, Bool.and_eq_true, decide_eq_true_eq]
    omega
theorem fill_yes {F : Rel} {i j m : Nat} (S : Sym F) (h : j < i) (e : F j i = true) : webM m (togg (fillTo F i j) j i) = webM m (fillTo F i (j + 1)) := webM_congr fun a b ha hb => by
  unfold togg
  by_cases q : (a = j ∧ b = i) ∨ (a = i ∧ b = j)
  · rw [if_pos q]
    have f : F a b = true := by
      rcases q with ⟨rfl, rfl⟩ | ⟨rfl, rfl⟩
      · exact e
      · rw [S.sy]; exact e
    have h1 : fillTo F i j a b = false := by
      unfold fillTo
      have : ¬ max a b < i := by omega
      have h2 : ¬ min a b < j := by omega
      rw [decide_eq_false this, decide_eq_false h2]
      simp
    rw [h1]
    unfold fillTo
    have h3 : max a b = i := by omega
    have h4 : min a b < j + 1 := by omega
    rw [decide_eq_true h3, decide_eq_true h4, f]
    simp
  · rw [if_neg q]
    unfold fillTo
    congr 1
    rw [Bool.eq_iff_iff]
    simp only [Bool.or_eq_true, Bool.and_eq_true, decide_eq_true_eq]
    omega
def partR (R : Rel) (is : List Nat) : Rel := fun a b => R (is.getD a 0) (is.getD b 0)
theorem Sym.part {R : Rel} (S : Sym R) (is : List Nat) : Sym (partR R is) := ⟨fun _ _ => S.sy _ _, fun _ => S.ir _⟩
def oppR (R : Rel) : Rel := fun a b => decide (a ≠ b) && !R a b
theorem Sym.opp {R : Rel} (S : Sym R) : Sym (oppR R) := ⟨fun a b => by unfold oppR; rw [S.sy a b]; congr 1; rw [Bool.eq_iff_iff]; simp only [decide_eq_true_eq]; omega, fun a => by simp [oppR]⟩
theorem Sym.togg {R : Rel} {i j : Nat} (S : Sym R) (h : i ≠ j) : Sym (togg R i j) := by
  constructor
  · intro a b
    unfold J.togg
    rw [S.sy a b]
    have : ((a = i ∧ b = j) ∨ (a = j ∧ b = i)) ↔ ((b = i ∧ a = j) ∨ (b = j ∧ a = i)) := by omega
    simp only [this]
  · intro a
    unfold J.togg
    rw [if_neg (by omega), S.ir]
theorem nodup_ne {is : List Nat} (nd : is.Nodup) {i j : Nat} (hi : i < is.length) (hj : j < is.length) (ne : i ≠ j) : is.getD i 0 ≠ is.getD j 0 := by
  rw [List.getD_eq_getElem?_getD, List.getD_eq_getElem?_getD, List.getElem?_eq_getElem hi, List.getElem?_eq_getElem hj]
  intro e
  exact ne ((List.getElem_inj nd).mp e)
theorem getD_mem {l : List Nat} {j : Nat} (h : j < l.length) : l.getD j 0 ∈ l := List.mem_of_getElem? (getD_at h)
def sp_part (K : PySem.W.Frag) (C eP : Addr) : Sp := fun vs H Q E => ∃ (p l : Addr) (n : Nat) (R : Rel) (x : V), vs = [.ref p, x] ∧ WebAt C H p l (webM n R) ∧ n ≤ 30 ∧ Sym R ∧
  ((∃ nm, Th K H x nm ∧ nm ≠ "list" ∧ E (.ref eP) none H) ∨ (∃ a xs, x = .ref a ∧ H a = some (.lst xs) ∧ xs.length ≤ 1000 ∧ (∀ v ∈ xs, ∃ n, Th K H v n) ∧
    (∀ is : List Nat, xs = msk is → (∀ i ∈ is, i < n) → is.Nodup → 1 ≤ is.length → is.length ≤ 30 → ∀ p2 l2 H', Same H H' → H p2 = none → H l2 = none → WebAt C H' p2 l2 (webM is.length (partR R is)) → Q (.ref p2) H') ∧ (¬ PtsOk n 1 xs → E (.ref eP) none H)))
def sp_opposite (C : Addr) : Sp := fun vs H Q E => ∃ (p l : Addr) (n : Nat) (R : Rel), vs = [.ref p] ∧ WebAt C H p l (webM n R) ∧ 1 ≤ n ∧ n ≤ 30 ∧ Sym R ∧
  ∀ p2 l2 H', Same H H' → H p2 = none → H l2 = none → WebAt C H' p2 l2 (webM n (oppR R)) → Q (.ref p2) H'
theorem pts_le : ∀ {n : Nat} {is : List Nat}, is.Nodup → (∀ i ∈ is, i < n) → is.length ≤ n
  | 0, [], _, _ => Nat.le_refl _
  | 0, i :: _, _, h => absurd (h i List.mem_cons_self) (Nat.not_lt_zero _)
  | n + 1, is, nd, h => by
    have ih := pts_le (n := n) (is := is.erase n) (nd.erase n) fun i hi => by
      have := nd.mem_erase_iff.mp hi
      have := h i this.2
      omega
    rw [List.length_erase] at ih
    split at ih <;> omega
section
variable {K : PySem.W.Frag} {H : Hp} {Q : VK} {E : XK} {C eS eP : Addr} {n : Nat} {p l : Addr} {R : Rel} {i j : Nat} {Z : Addr → Hp → Prop}
theorem u_newWeb (h1 : 1 ≤ n) (h2 : n ≤ 30) (q : ∀ p l H', H p = none → H l = none → Same H H' → WebAt C H' p l (webM n fun _ _ => false) → Z p H') :
    ∀ x dx, H x = none → H dx = none → dx ≠ x → sp_Web_init K C eS [.ref x, .int n] (upd (upd H dx (.own x)) x (.ins C dx [])) (fun v H2 => v = .non ∧ Z x H2) E := by
  intro x dx hx hd ne
  refine ⟨x, dx, .int n, "int", rfl, upd_same, .int _, ?_, ?_⟩
  · intro k ek _ _ l H' hl same hW
    injection ek with ek
    have : k = n := by omega
    subst this
    rw [webM_none] at hW
    refine ⟨rfl, q x l H' hx (free_of (free_of hl)) ?_ hW⟩
    intro b o e
    refine same b o (ne_of_none e hx) ?_
    exact up_ne (ne_of_none e hx) (up_ne (ne_of_none e hd) e)
  · intro e
    rw [among_int, Bool.and_eq_false_iff, decide_eq_false_iff_not, decide_eq_false_iff_not] at e
    omega
theorem u_newWebE {x : V} {m : String} (t : Th K H x m) (h : among x 1 30 = false) (q : ∀ H', Same H H' → E (.ref eS) none H') :
    ∀ y dx, H y = none → H dx = none → dx ≠ y → sp_Web_init K C eS [.ref y, x] (upd (upd H dx (.own y)) y (.ins C dx [])) (fun v H2 => v = .non ∧ Z y H2) E := by
  intro y dx hy hd ne
  have S : Same H (upd (upd H dx (.own y)) y (.ins C dx [])) := Same.more (Same.new hd) (up_free (Ne.symm ne) hy)
  refine ⟨y, dx, x, m, rfl, upd_same, t.same S, ?_, fun _ => q _ S⟩
  rintro k rfl k1 k2
  rw [among_int, Bool.and_eq_false_iff, decide_eq_false_iff_not, decide_eq_false_iff_not] at h
  omega
theorem u_hasR (h : WebAt C H p l (webM n R)) (hi : i < n) (hj : j < n) (ne : i ≠ j) (q : Q (.bl (R i j)) H) : sp_Web_has K C eP [.ref p, .int i, .int j] H Q E :=
  u_has_ok h (by rw [webM_len]; exact hi) (by rw [webM_len]; exact hj) ne (by rw [webM_bit hi hj]; exact q)
theorem u_turnR {was : Bool} {eT : Addr} (h : WebAt C H p l (webM n R)) (hi : i < n) (hj : j < n) (ne : i ≠ j) (b : R i j = was) (q : WebAt C (upd H l (.lst (msk (webM n (togg R i j))))) p l (webM n (togg R i j)) → Q .non (upd H l (.lst (msk (webM n (togg R i j)))))) : sp_Web_turn was K C eP eT [.ref p, .int i, .int j] H Q E := by
  refine u_turn h (by rw [webM_len]; exact hi) (by rw [webM_len]; exact hj) ne (by rw [webM_bit hi hj]; exact b) ?_
  rw [flip_webM hi hj ne]
  exact q (h.put (by rw [webM_len]; have := h.sz; rw [webM_len] at this; exact this))
theorem u_manyR (h : WebAt C H p l (webM n R)) (q : Q (.int n) H) : sp_Web_many C [.ref p] H Q E := u_many h (by rw [webM_len]; exact q)
theorem u_tiesR (h : WebAt C H p l (webM n R)) (q : ∀ q xs H', Same H H' → H q = none → H' q = some (.lst xs) → PairsAt H' xs (tiesR n R) → Q (.ref q) H') : sp_Web_ties C [.ref p] H Q E := by
  have hn : n ≤ 30 := by have := h.sz; rw [webM_len] at this; exact this
  refine ⟨p, l, _, rfl, h, ?_⟩
  rw [ties_webM hn]
  exact q
end
end J

/-! Joinside, the laws' own lists of ties. -/
namespace J
open PySem PySem.Spec L2
/-- the list has each tie of the relation once -/
structure Tell (L : List (Nat × Nat)) (n : Nat) (R : Rel) : Prop where
  nd : L.Nodup
  me : ∀ a b, (a, b) ∈ L ↔ a < b ∧ b < n ∧ R a b = true
theorem perm_of {α : Type} [DecidableEq α] : ∀ {l m : List α}, l.Nodup → m.Nodup → (∀ x, x ∈ l ↔ x ∈ m) → l.Perm m
  | [], m, _, _, h => by
    cases m with
    | nil => exact .refl _
    | cons x r => exact absurd ((h x).mpr List.mem_cons_self) (by simp)
  | x :: l, m, hl, hm, h => by
    have hx : x ∈ m := (h x).mp List.mem_cons_self
    obtain ⟨nx, nl⟩ := List.nodup_cons.mp hl
    have ih := perm_of (l := l) (m := m.erase x) nl (hm.erase x) fun y => by
      rw [hm.mem_erase_iff, ← h y, List.mem_cons]
      constructor
      · intro hy
        exact ⟨fun e => nx (e ▸ hy), .inr hy⟩
      · rintro ⟨h1, h2 | h2⟩
        · exact absurd h2 h1
        · exact h2
    exact (ih.cons x).trans (List.perm_cons_erase hx).symm
theorem Tell.perm {L : List (Nat × Nat)} {n : Nat} {R : Rel} (h : Tell L n R) : L.Perm (tiesR n R) := perm_of h.nd (tiesR_nodup n R) fun ⟨a, b⟩ => by rw [h.me, mem_tiesR]
theorem Tell.len {L : List (Nat × Nat)} {n : Nat} {R : Rel} (h : Tell L n R) (hn : n ≤ 30) : L.length ≤ 900 := by rw [h.perm.length_eq]; exact tiesR_le n R hn
theorem tell_R (n : Nat) (R : Rel) : Tell (tiesR n R) n R := ⟨tiesR_nodup n R, fun a b => mem_tiesR⟩
theorem tell_nil (n : Nat) : Tell [] n (fun _ _ => false) := ⟨List.nodup_nil, fun a b => by simp⟩
theorem Tell.put {L : List (Nat × Nat)} {n a b : Nat} {R : Rel} (h : Tell L n R) (S : Sym R) (ha : a < n) (hb : b < n) (ne : a ≠ b) (no : R a b = false) : Tell (L ++ [(min a b, max a b)]) n (togg R a b) := by
  have nR : R (min a b) (max a b) = false := by
    by_cases q : a ≤ b
    · rw [Nat.min_eq_left q, Nat.max_eq_right q]; exact no
    · rw [Nat.min_eq_right (by omega), Nat.max_eq_left (by omega), S.sy]; exact no
  have nL : (min a b, max a b) ∉ L := fun z => by
    have := ((h.me _ _).mp z).2.2
    rw [nR] at this
    cases this
  constructor
  · rw [List.nodup_append]
    refine ⟨h.nd, by simp, fun x hx y hy => ?_⟩
    rw [List.mem_singleton] at hy
    subst hy
    exact fun e => nL (e ▸ hx)
  · intro x y
    rw [List.mem_append, List.mem_singleton, h.me, Prod.mk.injEq]
    unfold togg
    by_cases q : (x = a ∧ y = b) ∨ (x = b ∧ y = a)
    · rw [if_pos q]
      have e : R x y = false := by rcases q with ⟨rfl, rfl⟩ | ⟨rfl, rfl⟩; exact no; rw [S.sy]; exact no
      rw [e]
      simp only [Bool.false_eq_true, and_false, false_or, Bool.not_false, and_true]
      omega
    · rw [if_neg q]
      constructor
      · rintro (h | h)
        · exact h
        · omega
      · intro h
        exact .inl h
theorem nd_erase {α : Type} [BEq α] [LawfulBEq α] : ∀ {l : List α} {i : Nat} {x : α}, l.Nodup → l[i]? = some x → l.eraseIdx i = l.erase x
  | y :: r, 0, x, _, h => by
    have e : y = x := by simpa using h
    subst e
    simp
  | y :: r, i + 1, x, nd, h => by
    have hr : r[i]? = some x := by simpa using h
    obtain ⟨n1, n2⟩ := List.nodup_cons.mp nd
    have ne : y ≠ x := fun e => n1 (e ▸ List.mem_of_getElem? hr)
    rw [List.eraseIdx_cons_succ, nd_erase n2 hr, List.erase_cons_tail (by simpa using ne)]
theorem Tell.drop {L : List (Nat × Nat)} {n i a b : Nat} {R : Rel} (h : Tell L n R) (S : Sym R) (hi : L[i]? = some (a, b)) : Tell (L.eraseIdx i) n (togg R a b) ∧ a < b ∧ b < n ∧ R a b = true := by
  obtain ⟨hl, he⟩ := List.getElem?_eq_some_iff.mp hi
  have ab := (h.me a b).mp (List.mem_of_getElem? hi)
  refine ⟨⟨h.nd.eraseIdx _, fun x y => ?_⟩, ab⟩
  have e1 : (x, y) ∈ L.eraseIdx i ↔ (x, y) ≠ (a, b) ∧ (x, y) ∈ L := by
    have : L.eraseIdx i = L.erase (a, b) := by
      exact nd_erase h.nd hi
    rw [this, h.nd.mem_erase_iff]
  rw [e1, h.me]
  unfold togg
  by_cases q : (x = a ∧ y = b) ∨ (x = b ∧ y = a)
  · rw [if_pos q]
    rcases q with ⟨rfl, rfl⟩ | ⟨rfl, rfl⟩
    · rw [ab.2.2]; simp
    · rw [S.sy, ab.2.2]
      simp
      omega
  · rw [if_neg q]
    constructor
    · exact fun z => z.2
    · intro z
      refine ⟨fun e => q (.inl ?_), z⟩
      injection e with e1 e2
      exact ⟨e1, e2⟩
theorem Tell.in {L : List (Nat × Nat)} {n a b : Nat} {R : Rel} (h : Tell L n R) (S : Sym R) (ha : a < n) (hb : b < n) (ne : a ≠ b) : decide ((min a b, max a b) ∈ L) = R a b := by
  rw [Bool.eq_iff_iff, decide_eq_true_eq, h.me]
  by_cases q : a ≤ b
  · rw [Nat.min_eq_left q, Nat.max_eq_right q]
    exact ⟨fun z => z.2.2, fun z => ⟨by omega, hb, z⟩⟩
  · rw [Nat.min_eq_right (by omega), Nat.max_eq_left (by omega), S.sy]
    exact ⟨fun z => z.2.2, fun z => ⟨by omega, ha, z⟩⟩
/-! ### the other ties, one point after another -/
def othAt (n : Nat) (R : Rel) (i : Nat) : List (Nat × Nat) := ((List.range (n - (i + 1))).map (i + 1 + ·)).filterMap fun o => if oppR R i o = true then some (i, o) else none
def othTo (n : Nat) (R : Rel) (i : Nat) : List (Nat × Nat) := (List.range i).flatMap (othAt n R)
theorem othTo_succ {n i : Nat} {R : Rel} (_ : i < n) : othTo n R (i + 1) = othTo n R i ++ othAt n R i := by
  unfold othTo
  rw [List.range_succ, List.flatMap_append]
  simp
theorem othAt_eq {n i : Nat} {R : Rel} (h : i < n) : othAt n R i = ((List.range n).filter fun o => decide (i < o) && oppR R i o).map fun o => (i, o) := by
  unfold othAt
  rw [fm_filter]
  congr 1
  obtain ⟨d, rfl⟩ : ∃ d, n = (i + 1) + d := ⟨n - (i + 1), by omega⟩
  rw [List.range_add, List.filter_append, show i + 1 + d - (i + 1) = d by omega]
  have e1 : (List.range (i + 1)).filter (fun o => decide (i < o) && oppR R i o) = [] := by
    rw [List.filter_eq_nil_iff]
    intro o ho
    have := List.mem_range.mp ho
    rw [decide_eq_false (by omega)]
    simp
  rw [e1, List.nil_append]
  apply List.filter_congr
  intro o ho
  obtain ⟨k, _, rfl⟩ := List.mem_map.mp ho
  rw [decide_eq_true (show i < i + 1 + k by omega), Bool.true_and]
  simp
theorem othTo_all (n : Nat) (R : Rel) : othTo n R n = tiesR n (oppR R) := by
  unfold othTo tiesR
  rw [List.flatMap_def, List.flatMap_def]
  congr 1
  apply List.map_congr_left
  intro i hi
  exact othAt_eq (List.mem_range.mp hi)
theorem othAt_le (n : Nat) (R : Rel) (i : Nat) : (othAt n R i).length ≤ n := by
  unfold othAt
  refine Nat.le_trans (List.length_filterMap_le _ _) ?_
  simp
theorem othTo_le (n : Nat) (R : Rel) : ∀ i, (othTo n R i).length ≤ n * i
  | 0 => by simp [othTo]
  | i + 1 => by
    have ih := othTo_le n R i
    have a := othAt_le n R i
    unfold othTo at ih ⊢
    rw [List.range_succ, List.flatMap_append, List.length_append, Nat.mul_succ]
    simp only [List.flatMap_cons, List.flatMap_nil, List.append_nil]
    omega
/-- a list of the pairs of F below a place -/
structure TellTo (L : List (Nat × Nat)) (F : Rel) (i j : Nat) : Prop where
  nd : L.Nodup
  me : ∀ b a, (b, a) ∈ L ↔ b < a ∧ (a < i ∨ (a = i ∧ b < j)) ∧ F b a = true
theorem tellTo_nil (F : Rel) : TellTo [] F 0 0 := ⟨List.nodup_nil, fun b a => by simp⟩
theorem TellTo.next {L : List (Nat × Nat)} {F : Rel} {i : Nat} (h : TellTo L F i i) : TellTo L F (i + 1) 0 := ⟨h.nd, fun b a => by rw [h.me]; constructor <;> (rintro ⟨h1, h2, h3⟩; exact ⟨h1, by omega, h3⟩)⟩
theorem TellTo.no {L : List (Nat × Nat)} {F : Rel} {i j : Nat} (h : TellTo L F i j) (e : F j i = false) : TellTo L F i (j + 1) := ⟨h.nd, fun b a => by
  rw [h.me]
  constructor
  · rintro ⟨h1, h2, h3⟩
    exact ⟨h1, by omega, h3⟩
  · rintro ⟨h1, h2, h3⟩
    refine ⟨h1, ?_, h3⟩
    by_cases q : b = j ∧ a = i
    · obtain ⟨rfl, rfl⟩ := q
      rw [e] at h3
      cases h3
    · omega⟩
theorem TellTo.yes {L : List (Nat × Nat)} {F : Rel} {i j : Nat} (h : TellTo L F i j) (l : j < i) (e : F j i = true) : TellTo (L ++ [(j, i)]) F i (j + 1) := by
  constructor
  · rw [List.nodup_append]
    refine ⟨h.nd, by simp, fun x hx y hy => ?_⟩
    rw [List.mem_singleton] at hy
    subst hy
    intro z
    subst z
    have := ((h.me _ _).mp hx).2.1
    omega
  · intro b a
    rw [List.mem_append, List.mem_singleton, h.me, Prod.mk.injEq]
    constructor
    · rintro (⟨h1, h2, h3⟩ | ⟨rfl, rfl⟩)
      · exact ⟨h1, by omega, h3⟩
      · exact ⟨l, by omega, e⟩
    · rintro ⟨h1, h2, h3⟩
      by_cases q : b = j ∧ a = i
      · exact .inr q
      · exact .inl ⟨h1, by omega, h3⟩
theorem TellTo.tell {L : List (Nat × Nat)} {F : Rel} {m : Nat} (h : TellTo L F m 0) : Tell L m F := ⟨h.nd, fun a b => by
  rw [h.me]
  constructor
  · rintro ⟨h1, h2, h3⟩
    exact ⟨h1, by omega, h3⟩
  · rintro ⟨h1, h2, h3⟩
    exact ⟨h1, by omega, h3⟩⟩
theorem togg_comm (R : Rel) (i j : Nat) : togg R i j = togg R j i := by
  funext a b
  unfold togg
  have : ((a = i ∧ b = j) ∨ (a = j ∧ b = i)) ↔ ((a = j ∧ b = i) ∨ (a = i ∧ b = j)) := by omega
  simp only [this]
theorem Tell.congr {L : List (Nat × Nat)} {n : Nat} {R S : Rel} (h : Tell L n R) (e : ∀ a b, a < b → b < n → R a b = S a b) : Tell L n S := ⟨h.nd, fun a b => by
  rw [h.me]
  constructor
  · rintro ⟨h1, h2, h3⟩
    exact ⟨h1, h2, by rw [← e a b h1 h2]; exact h3⟩
  · rintro ⟨h1, h2, h3⟩
    exact ⟨h1, h2, by rw [e a b h1 h2]; exact h3⟩⟩
theorem tell_opp2 {L : List (Nat × Nat)} {n : Nat} {R : Rel} (h : Tell L n R) : Tell L n (oppR (oppR R)) := h.congr fun a b h1 _ => by
  unfold oppR
  rw [decide_eq_true (by omega : a ≠ b)]
  simp
theorem Tell.of_perm {L M : List (Nat × Nat)} {n : Nat} {R : Rel} (h : Tell L n R) (p : M.Perm L) : Tell M n R := ⟨p.nodup_iff.mpr h.nd, fun a b => by rw [p.mem_iff, h.me]⟩
theorem perm_eraseAt {α : Type} {l : List α} {j : Nat} {x : α} (h : l[j]? = some x) : (x :: l.eraseIdx j).Perm l := by
  induction l generalizing j with
  | nil => cases h
  | cons y r ih =>
    cases j with
    | zero =>
      have e : y = x := by simpa using h
      subst e
      exact List.Perm.refl _
    | succ j =>
      have q := ih (j := j) (by simpa using h)
      rw [List.eraseIdx_cons_succ]
      exact (List.Perm.swap y x _).trans (q.cons y)
theorem Tell.back {L : List (Nat × Nat)} {n j : Nat} {q : Nat × Nat} {R : Rel} (h : Tell L n R) (hj : L[j]? = some q) : Tell (L.eraseIdx j ++ [q]) n R := by
  refine h.of_perm ?_
  refine (List.perm_append_comm).trans ?_
  exact perm_eraseAt hj
theorem PairsAt.at : ∀ {H : Hp} {xs : List V} {L : List (Nat × Nat)} {j : Nat}, PairsAt H xs L → j < L.length → ∃ x q, xs[j]? = some x ∧ L[j]? = some q ∧ PairAt H x q
  | _, _, _, 0, .cons a _, _ => ⟨_, _, rfl, rfl, a⟩
  | _, _, _, j + 1, .cons _ b, h => by
    obtain ⟨x, q, h1, h2, h3⟩ := PairsAt.at (j := j) b (by simpa using h)
    exact ⟨x, q, by simpa using h1, by simpa using h2, h3⟩
  | _, _, _, _, .nil, h => absurd h (by simp)
theorem PairsAt.erase : ∀ {H : Hp} {xs : List V} {L : List (Nat × Nat)} {j : Nat}, PairsAt H xs L → PairsAt H (xs.eraseIdx j) (L.eraseIdx j)
  | _, _, _, 0, .cons _ b => b
  | _, _, _, j + 1, .cons a b => .cons a (PairsAt.erase (j := j) b)
  | _, _, _, _, .nil => .nil
end J

/-! Joinside, dicts of pairs: sorted(d), d.pop(k), what stands in them. -/
namespace J
open PySem PySem.Spec PyProof.Rows L2
section
variable {prog : Program} {w : World} {d : Addr} {o : Obj} {es : Array DictEntry} {ep : Nat}
theorem raw_walks {A : Around} (hh : A.handled = none) (I : Addr) (hne : d ≠ I) (hdt : o.data = .dict es ep) :
    Walks prog w A I [I, d] [I] es.size (fun i v => ∃ en, es[i]? = some en ∧ en.key = v) (fun i h => h.IsKeyIter I d i es.size ep ∧ h.get? d = some o) where
  sub := fun b hb => by rw [List.mem_singleton] at hb; subst hb; exact List.mem_cons_self
  frame := fun i h h' st hk => ⟨st.1.at fun q e => hk I List.mem_cons_self q e, hk d (by simp) _ st.2⟩
  item := fun i s Q E hi st hQ => by
    obtain ⟨en, hen⟩ : ∃ en, es[i]? = some en := ⟨es[i], Array.getElem?_eq_getElem hi⟩
    refine next_key_item st.1 st.2 hdt rfl hen fun h' st' sb => ?_
    exact hQ en.key h' s.toks ⟨en, hen, rfl⟩ ⟨st', (sb.2 d hne).trans st.2⟩ fun b q hb e => (sb.2 b fun z => hb (List.mem_singleton.mpr z)).trans e
  done := fun s Q E st hQ => next_key_end hh st.1 st.2 hdt rfl (Nat.le_refl _) fun h' eb => hQ h' s.toks fun b q hb e => eb b q (fun z => hb (List.mem_singleton.mpr z)) e
  self := fun i s Q E st hQ => wpAny_pyIter_keyiter st.1 hQ
theorem raw_src (lo : (d == sysModules) = false) (hx : o.ExactDict) (hdt : o.data = .dict es ep) : PySem.W.KdlSrc prog w "dict" d d es.size (fun i v => ∃ en, es[i]? = some en ∧ en.key = v) (fun h => h.get? d = some o) where
  type := fun _ hm => ⟨o, hm, hx.1⟩
  there := fun _ hm => ⟨Heap.lt_size hm, Heap.lt_size hm⟩
  keep := fun _ _ hm hk => hk d (.inl rfl) o hm
  notList := by decide
  notTuple := by decide
  hint := fun _ _ s _ hm hq => PySem.W.kdl_hint_dict ⟨o, hm, hx.1⟩ hq
  iter := fun A s hh hm => ⟨_, _, (fun _ _ hq => iter_keys lo hm hx hdt hq), raw_walks hh _ (Nat.ne_of_lt (Heap.lt_size hm)) hdt, ⟨⟨_, Heap.get?_push_size _ rfl, rfl, rfl⟩, Heap.get?_push_of_some _ hm⟩⟩
end
/-- the entries of a dict of ties -/
def tieK (q : Nat × Nat) : List Key := [.inl (q.1 : Int), .inl (q.2 : Int)]
def rSortDT : List V → Hp → VK → Prop := fun xs H Q => ∃ (a : Addr) (kvs : List (List Key × V)) (qs ts : List (Nat × Nat)), xs = [.ref a] ∧ H a = some (.dT kvs) ∧ kvs.map (·.1) = qs.map tieK ∧ qs.Perm ts ∧ ts.Pairwise lexLt ∧
  ∀ p ys, H p = none → PairsAt (upd H p (.lst ys)) ys ts → Q (.ref p) (upd H p (.lst ys))
theorem kt_pairs {H : Hp} : ∀ {kvs : List (List Key × V)} {xs : List (List Key × Addr × Value)} {qs : List (Nat × Nat)}, KT H kvs xs → kvs.map (·.1) = qs.map tieK → PairsAt H (xs.map fun x => V.ref x.2.1) qs
  | _, _, [], .nil, _ => .nil
  | _, _, _ :: _, .nil, h => by cases h
  | _, _, [], .cons _ _, h => by cases h
  | kv :: kvs, x :: xs, q :: qs, .cons a b, h => by
    simp only [List.map_cons, List.cons.injEq] at h
    refine .cons ⟨x.2.1, rfl, ?_⟩ (kt_pairs b h.2)
    rw [a.2.1, h.1]
    rfl
theorem PairAt.isPair {X : Cx} {pins : List (Addr × Obj)} {σ : L2.St} {H : Hp} {s : Shared} {t : Addr} {q : Nat × Nat} (I : Inv X pins σ H s) (h : PairAt H (.ref t) q) : Srt.IsPair s.heap (.ref t) q.1 q.2 := by
  obtain ⟨t', e, ht⟩ := h
  cases e
  obtain ⟨_, its2, r2, o, ho, hc, n, hd⟩ := I.hok _ _ ht
  obtain ⟨u1, u2, rfl, ri, rj⟩ := vals2 r2
  obtain ⟨t1, rfl⟩ := ri
  obtain ⟨t2, rfl⟩ := rj
  exact ⟨t, o, t1, t2, n, rfl, ho, hc, hd⟩
def refV (xs : List (List Key × Addr × Value)) : List Value := xs.map fun x => Value.ref x.2.1
theorem kSortDT {X : Cx} (hcalm : X.calm = true) : CallR X (.builtin "sorted") rSortDT := by
  intro pins s σ H xs us Q I r q
  obtain ⟨a, kvs, qs, ts, rfl, ha, hks, pm, od, q⟩ := q
  obtain ⟨u, rfl, rx⟩ := vals1 r
  cases rx
  obtain ⟨z, lo, xs', rel, dd⟩ := dt_of I.hok ha
  obtain ⟨o, es, ep, ho, hx, hdt, he, _, _⟩ := dd
  have pairs : PairsAt H (xs'.map fun x => V.ref x.2.1) qs := kt_pairs rel hks
  have size_es : es.size = xs'.length := size_of_entries he
  have size_xs : xs'.length = kvs.length := (Paired.length rel).symm
  refine Calls.call_function_entry kind_sorted plain_sorted entry_sorted (args_sorted1 _) ?_
  unfold Builtin.«sorted»
  refine wpAny_bind (m := checkCount "sorted" 1 1 _) (wpAny_pure ?_)
  refine wpAny_bind (PySem.W.kdu_collect (A := X.A.in1) (raw_src lo hx hdt) (I.ok.hd hcalm) ho (by rw [size_es, size_xs]; exact z) fun h' tk acc hk hacc => ?_)
  have acc_is : acc.toList = refV xs' := by
    apply List.ext_getElem
    · rw [Array.length_toList, hacc.1, size_es, refV, List.length_map]
    · intro j h1 h2
      rw [Array.length_toList] at h1
      obtain ⟨en, e1, e2⟩ := hacc.2 j acc[j] (by simp [h1])
      have e3 := entry_at he j
      rw [e1] at e3
      have hj : j < xs'.length := by rw [refV, List.length_map] at h2; exact h2
      rw [List.getElem?_eq_getElem hj] at e3
      have e4 : en = entryOfKey (tupleKind (mixKind X.prog X.w)) xs'[j] := Option.some.inj e3
      rw [Array.getElem_toList, ← e2, e4]
      simp [refV, entryOfKey]
  rw [acc_is]
  have len_is : (refV xs').length ≤ sizeLine := by rw [refV, List.length_map, size_xs]; exact z
  have I1 : Inv X pins σ H { s with heap := h', toks := tk } := I.kept hk
  have pv : ∀ v ∈ refV xs', Srt.IsPair h' v ((fun u => ((pairOf H (backV u)).1 : Int)) v) ((fun u => ((pairOf H (backV u)).2 : Int)) v) := by
    intro v hv
    obtain ⟨x, hxm, rfl⟩ := List.mem_map.mp hv
    exact PairAt.isPair I1 (pairs.all _ (List.mem_map.mpr ⟨x, hxm, rfl⟩))
  refine wpAny_bind (wpAny_newList ?_ len_is)
  have hoL : (h'.push (seqObj "list" (refV xs').toArray 0)).get? h'.objs.size = some (seqObj "list" (refV xs').toArray 0) := Heap.get?_push_size _ rfl
  show wpAny _ _ _ _ _ { s with heap := h'.push (seqObj "list" (refV xs').toArray 0), toks := tk }
  refine wpAny_bind (wpAny_holding (wpAny_call_entry slot_list_sort ⟨_, hoL, rfl⟩ entry_list_sort
    (SrtO.list_sort_ord (s := { s with heap := h'.push (seqObj "list" (refV xs').toArray 0), toks := tk }) (SrtO.swo_lex fun u => (((pairOf H (backV u)).1 : Int), ((pairOf H (backV u)).2 : Int))) hoL len_is (fun h2 => ?_) fun out srt stb => ⟨_, rfl, ?_⟩) (args_list_sort _)))
  · refine SrtO.pairs_sortableO (by omega) (fun v hm => (pv v hm).keeps fun b o e _ => Heap.get?_push_of_some _ e) fun o e c => ?_
    rw [hoL] at e
    cases e
    exact absurd (Value.type.inj c) (by decide)
  · obtain ⟨e', he'⟩ := sortedHeap_at (vs := refV xs') (out := out.toArray) hoL
    have refs : ∀ u ∈ out, ∃ a, u = Value.ref a := fun u hu => by
      obtain ⟨x, _, e⟩ := List.mem_map.mp (stb.perm.mem_iff.mp hu)
      exact ⟨_, e.symm⟩
    have perm : (out.map backV).Perm (xs'.map fun x => V.ref x.2.1) := by
      have := stb.perm.map backV
      rwa [refV, List.map_map] at this
    have all : ∀ x ∈ out.map backV, PairAt H x (pairOf H x) := fun x hx => pairs.all x (perm.mem_iff.mp hx)
    have e0 : PairsAt H (out.map backV) ((out.map backV).map (pairOf H)) := PairsAt.of_all all
    have pm2 : ((out.map backV).map (pairOf H)).Perm ts := by
      refine List.Perm.trans ?_ pm
      rw [← pairs.map]
      exact perm.map _
    have nd : ((out.map backV).map (pairOf H)).Nodup := pm2.nodup_iff.mpr (od.imp fun h e => by subst e; rcases h with h | h <;> omega)
    have sl : ((out.map backV).map (pairOf H)).Pairwise fun p q => ¬ lexLt q p := by
      rw [List.pairwise_map, List.pairwise_map]
      refine List.Pairwise.imp ?_ srt
      intro x y hxy hl
      have := SrtO.lexB_no.mp hxy
      unfold lexLt at hl
      apply this
      dsimp only
      omega
    have sl2 : ((out.map backV).map (pairOf H)).Pairwise lexLt := by
      refine (List.pairwise_and_iff.mpr ⟨sl, nd⟩).imp ?_
      rintro ⟨a, b⟩ ⟨c, d⟩ ⟨h1, h2⟩
      unfold lexLt at h1 ⊢
      dsimp only at h1 ⊢
      by_cases e : a = c ∧ b = d
      · exact absurd (by rw [e.1, e.2]) h2
      · omega
    rw [lex_uniq pm2 sl2 od] at e0
    have hf : H h'.objs.size = none := I1.hok.fresh (Nat.le_refl _)
    refine wpAny_pure ⟨_, rfl, .ref h'.objs.size, upd H h'.objs.size (.lst (out.map backV)), I1.laid (t' := tk) (fun b u e => ?_) (Nat.le_refl _) ⟨?_, out, e', vals_back refs, he'⟩, rfl, q _ _ hf (e0.same (Same.new hf))⟩
    · have hb : b < h'.objs.size := Heap.lt_size e
      rw [sortedHeap_old (Nat.ne_of_lt hb) (by rw [size_push']; exact Nat.lt_succ_of_lt hb)]
      exact Heap.get?_push_of_some _ e
    · rw [List.length_map, stb.perm.length_eq]
      exact len_is
/-! ### d.pop(k), k a tuple that is there -/
def rPop1T : V → List V → Hp → VK → Prop := fun x xs H Q => ∃ (a : Addr) (kvs : List (List Key × V)) (k : List Key) (b : Addr) (v : V), x = .ref a ∧ xs = [.ref b] ∧ H a = some (.dT kvs) ∧ H b = some (.tup (k.map kV)) ∧ valV kvs k = some v ∧
  Q v (upd H a (.dT (dropK kvs k)))
theorem kPop1T {X : Cx} (hu : X.A.units + 1 < cLine) : MtR X "dict.pop" rPop1T := by
  intro pins s σ H x xs v us Q I rx rxs h
  obtain ⟨a, kvs, k, b, v0, rfl, rfl, ha, hb, ev, q⟩ := h
  cases rx
  obtain ⟨u1, rfl, r1⟩ := vals1 rxs
  cases r1
  obtain ⟨z, hd, xs', rel, dd⟩ := dt_of I.hok ha
  have r := rel.val k
  rw [ev] at r
  obtain ⟨p, hp, rv⟩ : ∃ p, atKey xs' k = some p ∧ RelV v0 p.2 := by
    cases e : atKey xs' k with
    | none => rw [e] at r; exact (show False from r).elim
    | some p => rw [e] at r; exact ⟨p, rfl, r⟩
  refine call_pop_heap (more := []) (.inl rfl) (PySem.F.args_dict_pop_2 _ _) (tupleKind_room_in1 hu) (key_of I.hok hb) hd dd hp (fun h' dd' hs => ?_) (by rw [← Paired.length rel]; exact z)
  obtain ⟨o, es, ep, hq, h2, h3, h4, _, h5⟩ := dd'
  have I2 : L2.Inv X pins σ (upd H a (.dT (dropK kvs k))) { s with heap := h', toks := s.toks + (tupleKind (mixKind X.prog X.w)).draws k } :=
    d_write I (by rw [ha]; exact True.intro) hs ⟨o, hq⟩ ⟨Nat.le_trans (dropK_le kvs k) z, hd, _, (DX.KT_drop k rel).keeps (fun c ys ec => by rw [upd_ne (ne_of ec ha (fun z => nomatch z))]; exact ec), o, es, ep, hq, h2, h3, h4, h5⟩
  exact ⟨v0, _, I2, rv, q⟩
end J

/-! Joinside, what the laws' own small defs promise: mixed numbers, orders, kinds of refusals. -/
namespace J
open PySem PySem.Spec L2
/-! ### mixed numbers -/
def mixA (c k : Int) : Int := (c % 1000000007 + 7919 * k * k + 31 * k + 17) * 48271 % 2147483647
def mixI (c k : Int) : Int := mixA c k * (mixA c k % 65521 + 16807) % 2147483629 / 4
def mixN (c k : Int) : Nat := (mixI c k).toNat
theorem mixA_bd (c k : Int) : 0 ≤ mixA c k ∧ mixA c k < 2147483647 := ⟨Int.emod_nonneg _ (by decide), Int.emod_lt_of_pos _ (by decide)⟩
theorem mixI_nn (c k : Int) : 0 ≤ mixI c k := Int.ediv_nonneg (Int.emod_nonneg _ (by decide)) (by decide)
theorem mixN_eq (c k : Int) : ((mixN c k : Nat) : Int) = mixI c k := Int.toNat_of_nonneg (mixI_nn c k)
theorem mixN_lt (c k : Int) : mixN c k < 536870908 := by
  have a := mixN_eq c k
  have b : mixA c k * (mixA c k % 65521 + 16807) % 2147483629 < 2147483629 := Int.emod_lt_of_pos _ (by decide)
  have d : mixI c k < 536870908 := by unfold mixI; omega
  omega
/-- the law itself: a list of at most 63 numbers; it answers True -/
def sp_law (K : PySem.W.Frag) : Sp := fun vs H Q _ => ∃ (a : Addr) (ns : List Int), vs = [.ref a] ∧ SqL K H a (ns.map V.int) ∧ ns.length ≤ 63 ∧ ∀ H', Q (.bl true) H'
def sp__law_mixed : Sp := fun vs H Q _ => ∃ (c k : Int), vs = [.int c, .int k] ∧ -1000000 ≤ k ∧ k ≤ 1000000 ∧ Q (.int (mixN c k)) H
/-- the script's number for a place -/
def numC (ns : List Int) (k : Nat) : Int := if ns = [] then 0 else ns.getD (k % ns.length) 0
def numN (ns : List Int) (k : Nat) : Nat := mixN (numC ns k) k
theorem numN_lt (ns : List Int) (k : Nat) : numN ns k < 536870908 := mixN_lt _ _
def sp__law_number (K : PySem.W.Frag) : Sp := fun vs H Q _ => ∃ (a : Addr) (ns : List Int) (k : Nat), vs = [.ref a, .int k] ∧ SqL K H a (ns.map V.int) ∧ k ≤ 1000000 ∧ Q (.int (numN ns k)) H
/-! ### a drawn order: the state behind i turns -/
structure OrdS where
  left : List Nat
  found : List Nat
  num : Nat
def ordS (n num : Nat) : Nat → OrdS
  | 0 => ⟨List.range n, [], num⟩
  | i + 1 => let s := ordS n num i
             ⟨s.left.eraseIdx (s.num % s.left.length), s.found ++ [s.left.getD (s.num % s.left.length) 0], mixN s.num i⟩
def ordN (n num : Nat) : List Nat := (ordS n num n).found
theorem ordS_left (n num : Nat) : ∀ i, i ≤ n → (ordS n num i).left.length = n - i
  | 0, _ => by simp [ordS]
  | i + 1, h => by
    have ih := ordS_left n num i (by omega)
    have hl : (ordS n num i).num % (ordS n num i).left.length < (ordS n num i).left.length := Nat.mod_lt _ (by omega)
    simp only [ordS]
    rw [List.length_eraseIdx_of_lt hl]
    omega
theorem ordS_found (n num : Nat) : ∀ i, (ordS n num i).found.length = i
  | 0 => rfl
  | i + 1 => by simp [ordS, ordS_found n num i]
theorem perm_erase {l : List Nat} {j : Nat} (h : j < l.length) : (l.getD j 0 :: l.eraseIdx j).Perm l := by
  induction l generalizing j with
  | nil => cases h
  | cons x r ih =>
    cases j with
    | zero => exact List.Perm.refl _
    | succ j =>
      have q := ih (j := j) (by simpa using h)
      simp only [List.getD_cons_succ, List.eraseIdx_cons_succ]
      exact (List.Perm.swap x _ _).trans (q.cons x)
theorem ordS_perm (n num : Nat) : ∀ i, i ≤ n → ((ordS n num i).found ++ (ordS n num i).left).Perm (List.range n)
  | 0, _ => by simp [ordS]
  | i + 1, h => by
    have ih := ordS_perm n num i (by omega)
    have hl : (ordS n num i).num % (ordS n num i).left.length < (ordS n num i).left.length := Nat.mod_lt _ (by rw [ordS_left n num i (by omega)]; omega)
    simp only [ordS, List.append_assoc, List.singleton_append]
    exact ((perm_erase hl).append_left _).trans ih
theorem ordN_perm (n num : Nat) : (ordN n num).Perm (List.range n) := by
  have h := ordS_perm n num n (Nat.le_refl _)
  have e : (ordS n num n).left = [] := List.eq_nil_of_length_eq_zero (by rw [ordS_left n num n (Nat.le_refl _)]; omega)
  rw [e, List.append_nil] at h
  exact h
theorem ordN_length (n num : Nat) : (ordN n num).length = n := by rw [(ordN_perm n num).length_eq, List.length_range]
theorem ordN_nodup (n num : Nat) : (ordN n num).Nodup := (ordN_perm n num).nodup_iff.mpr List.nodup_range
theorem ordN_lt {n num x : Nat} (h : x ∈ ordN n num) : x < n := List.mem_range.mp ((ordN_perm n num).mem_iff.mp h)
def sp__law_order : Sp := fun vs H Q _ => ∃ (n num : Nat), vs = [.int n, .int num] ∧ n ≤ 30 ∧ ∀ p H', Same H H' → H p = none → H' p = some (.lst (msk (ordN n num))) → Q (.ref p) H'
/-! ### kinds of refusals -/
def kwS (b : Bool) (s : Str) : List Str := if b = true then [s] else []
def kindS (b1 b2 b3 b4 b5 b6 b7 b8 bv : Bool) : List Str := kwS b1 "size" ++ kwS b2 "point" ++ (kwS b3 "twice") ++ kwS b4 "no tie" ++ (kwS b5 "many") ++ kwS b6 "row" ++ (kwS b7 "tree") ++ kwS b8 "text" ++ kwS (!bv) "base"
def kindT (b1 b2 b3 b4 b5 b6 b7 b8 bv : Bool) : Str := Txt.join "/" (kindS b1 b2 b3 b4 b5 b6 b7 b8 bv)
/-- an exception at a, of a class for which isinstance answers by bs -/
structure ExcAt (K : PySem.W.Frag) (H : Hp) (a : Addr) (cs : List Addr) (bs : List Bool) : Prop where
  ex : ∃ D, H a = some (ExR (.ref D) none a) ∧ ExcC K D ∧ (∀ (i : Nat) (c : Addr) (b : Bool), cs[i]? = some c → bs[i]? = some b → PySem.W.kitOne K (.ref D) (.ref c) = some b) ∧ PySem.W.kitOne K (.ref D) (.type "ValueError") = some true
theorem ExcAt.same {K : PySem.W.Frag} {H H' : Hp} {a : Addr} {cs : List Addr} {bs : List Bool} (s : Same H H') (h : ExcAt K H a cs bs) : ExcAt K H' a cs bs := by
  obtain ⟨D, e, r⟩ := h.ex
  exact ⟨D, s _ _ e, r⟩
def sp__law_kind (K : PySem.W.Frag) (cs : List Addr) : Sp := fun vs H Q _ => ∃ (a : Addr) (b1 b2 b3 b4 b5 b6 b7 b8 : Bool), vs = [.ref a] ∧ ExcAt K H a cs [b1, b2, b3, b4, b5, b6, b7, b8] ∧ ∀ H', Same H H' → Q (.str (kindT b1 b2 b3 b4 b5 b6 b7 b8 true)) H'
def KitL (K : PySem.W.Frag) (D : Addr) : List Addr → List Bool → Prop
  | [], [] => True
  | c :: cs, b :: bs => PySem.W.kitOne K (.ref D) (.ref c) = some b ∧ KitL K D cs bs
  | _, _ => False
theorem KitL.at {K : PySem.W.Frag} {D : Addr} : ∀ {cs : List Addr} {bs : List Bool}, KitL K D cs bs → ∀ (i : Nat) (c : Addr) (b : Bool), cs[i]? = some c → bs[i]? = some b → PySem.W.kitOne K (.ref D) (.ref c) = some b
  | c :: cs, b :: bs, ⟨h, _⟩, 0, c', b', h1, h2 => by
    simp only [List.getElem?_cons_zero, Option.some.injEq] at h1 h2
    subst h1 h2
    exact h
  | _ :: _, _ :: _, ⟨_, h⟩, i + 1, c', b', h1, h2 => h.at i c' b' (by simpa using h1) (by simpa using h2)
theorem ExcAt.of {K : PySem.W.Frag} {H : Hp} {a D : Addr} {cs : List Addr} {bs : List Bool} (e : H a = some (ExR (.ref D) none a)) (x : ExcC K D) (k : KitL K D cs bs) (v : PySem.W.kitOne K (.ref D) (.type "ValueError") = some true) : ExcAt K H a cs bs := ⟨D, e, x, k.at, v⟩
theorem kw_rep (k : Bool) (s : Str) : (List.replicate (Int.toNat (if k then 1 else 0)) [V.str s]).flatten = (kwS k s).map V.str := by cases k <;> rfl
theorem kw_len (k : Bool) (s : Str) : (kwS k s).length ≤ 1 := by cases k <;> simp [kwS]
theorem kw_list {H : Hp} {Q : VK} {p : Addr} {b : Bool} {s : Str} (hp : H p = some (.lst [V.str s])) {K : PySem.W.Frag} (q : ∀ p, H p = none → Q (.ref p) (upd H p (.lst ((kwS b s).map V.str)))) : rMulA K (.ref p) (.int (if b then 1 else 0)) H Q :=
  s_mulL hp (by cases b <;> decide) (by cases b <;> decide) (by cases b <;> exact Nat.le_trans (m := 1) (by simp) (by decide)) (by rw [kw_rep]; exact q)
theorem kw_word {K : PySem.W.Frag} {σ : Sl} {H : Hp} {Q : VK} {a C D : Addr} {b : Bool} {s : Str} {i : Nat} (hv : σ[i]? = some (some (.ref a))) (eD : H a = some (ExR (.ref D) none a)) (xD : ExcC K D) (k : PySem.W.kitOne K (.ref D) (.ref C) = some b)
    (q : ∀ p H', Same H H' → H p = none → H' p = some (.lst ((kwS b s).map V.str)) → Q (.ref p) H') :
    tOp (rMulA K) (tLst (tCons (tC (.str s)) tNil)) (tCB rInt1 (tCons (tCB (rIs K) (tCons (tVar i) (tCons (tC (.ref C)) tNil))) tNil)) σ H Q := by
  refine ⟨by show 1 ≤ sizeLine; decide, fun p hp => ?_⟩
  refine ⟨.ref a, hv, ?_⟩
  refine s_isExc (up_old hp eD) xD (.own C) k ?_
  refine s_nil ?_
  refine s_intB ?_
  refine kw_list upd_same fun p2 hp2 => ?_
  exact q p2 _ ((Same.new hp).trans (Same.new hp2)) (free_of hp2) upd_same
theorem kw_plus {K : PySem.W.Frag} {H : Hp} {Q : VK} {p q : Addr} {xs ys : List Str} (hp : H p = some (.lst (xs.map V.str))) (hq : H q = some (.lst (ys.map V.str))) (h1 : xs.length ≤ 100) (h2 : ys.length ≤ 100)
    (k : ∀ r, H r = none → Q (.ref r) (upd H r (.lst ((xs ++ ys).map V.str)))) : rAddA K (.ref p) (.ref q) H Q :=
  s_addL hp hq (by rw [List.length_map, List.length_map]; exact Nat.le_trans (m := 200) (by omega) (by decide)) (by rw [← List.map_append]; exact k)
/-- an expression that gives a list of texts -/
def TxtL (te : TE) (σ : Sl) (H : Hp) (xs : List Str) : Prop := ∀ Q : VK, (∀ p H', Same H H' → H' p = some (.lst (xs.map V.str)) → Q (.ref p) H') → te σ H Q
theorem kw_acc {K : PySem.W.Frag} {σ : Sl} {H : Hp} {a C D : Addr} {b : Bool} {s : Str} {i : Nat} {te : TE} {xs : List Str} (he : TxtL te σ H xs) (hl : xs.length ≤ 20) (hv : σ[i]? = some (some (.ref a))) (eD : H a = some (ExR (.ref D) none a)) (xD : ExcC K D) (k : PySem.W.kitOne K (.ref D) (.ref C) = some b) :
    TxtL (tOp (rAddA K) te (tOp (rMulA K) (tLst (tCons (tC (.str s)) tNil)) (tCB rInt1 (tCons (tCB (rIs K) (tCons (tVar i) (tCons (tC (.ref C)) tNil))) tNil)))) σ H (xs ++ kwS b s) := by
  intro Q q
  refine he _ fun p1 H1 S1 e1 => ?_
  refine kw_word hv (S1 _ _ eD) xD k fun p2 H2 S2 f2 e2 => ?_
  refine kw_plus (S2 _ _ e1) e2 (by omega) (Nat.le_trans (kw_len _ _) (by decide)) fun r hr => ?_
  exact q r _ ((S1.trans S2).trans (Same.new hr)) upd_same
theorem kw_one {K : PySem.W.Frag} {σ : Sl} {H : Hp} {a C D : Addr} {b : Bool} {s : Str} {i : Nat} (hv : σ[i]? = some (some (.ref a))) (eD : H a = some (ExR (.ref D) none a)) (xD : ExcC K D) (k : PySem.W.kitOne K (.ref D) (.ref C) = some b) :
    TxtL (tOp (rMulA K) (tLst (tCons (tC (.str s)) tNil)) (tCB rInt1 (tCons (tCB (rIs K) (tCons (tVar i) (tCons (tC (.ref C)) tNil))) tNil))) σ H (kwS b s) := by
  intro Q q
  exact kw_word hv eD xD k fun p H1 S1 _ e1 => q p H1 S1 e1
theorem kw_var {σ : Sl} {H : Hp} {p : Addr} {j : Nat} {xs : List Str} (hv : σ[j]? = some (some (.ref p))) (e : H p = some (.lst (xs.map V.str))) : TxtL (tVar j) σ H xs := fun Q q => ⟨.ref p, hv, q p H (Same.refl H) e⟩
theorem kw_lenA (xs : List Str) (b : Bool) (s : Str) {n : Nat} (h : xs.length ≤ n) : (xs ++ kwS b s).length ≤ n + 1 := by
  have := kw_len b s
  rw [List.length_append]
  omega
theorem kw_sumA (xs : List Str) (b : Bool) (s : Str) {n : Nat} (h : (xs.map (·.length)).sum ≤ n) (hs : s.length ≤ 10) : ((xs ++ kwS b s).map (·.length)).sum ≤ n + 10 := by
  have : ((kwS b s).map (·.length)).sum ≤ s.length := by cases b <;> simp [kwS]
  rw [List.map_append, List.sum_append]
  omega
theorem kw_sum (b : Bool) (s : Str) : ((kwS b s).map (·.length)).sum ≤ s.length := by cases b <;> simp [kwS]
theorem kw_base {K : PySem.W.Frag} {σ : Sl} {H : Hp} {a D : Addr} {b : Bool} {s : Str} {i : Nat} {te : TE} {xs : List Str} (he : TxtL te σ H xs) (hl : xs.length ≤ 20) (hv : σ[i]? = some (some (.ref a))) (eD : H a = some (ExR (.ref D) none a)) (xD : ExcC K D) (k : PySem.W.kitOne K (.ref D) (.type "ValueError") = some b) :
    TxtL (tOp (rAddA K) te (tOp (rMulA K) (tLst (tCons (tC (.str s)) tNil)) (tCB rInt1 (tCons (tNotV (tCB (rIs K) (tCons (tVar i) (tCons (tC (.ty "ValueError")) tNil)))) tNil)))) σ H (xs ++ kwS (!b) s) := by
  intro Q q
  refine he _ fun p1 H1 S1 e1 => ?_
  refine ⟨by show 1 ≤ sizeLine; decide, fun p hp => ?_⟩
  refine ⟨.ref a, hv, ?_⟩
  refine s_isExc (K := K) (up_old hp (S1 _ _ eD)) xD (.ty _) k ?_
  refine s_blV ?_
  refine s_nil ?_
  refine s_intB ?_
  refine kw_list (b := !b) upd_same fun p2 hp2 => ?_
  refine kw_plus (up_old hp2 (up_old hp e1)) upd_same (by omega) (Nat.le_trans (kw_len _ _) (by decide)) fun r hr => ?_
  exact q r _ (((S1.trans (Same.new hp)).trans (Same.new hp2)).trans (Same.new hr)) upd_same
theorem kw_fin {K : PySem.W.Frag} {σ : Sl} {H : Hp} {te : TE} {xs : List Str} {Q : VK} (he : TxtL te σ H xs) (hl : xs.length ≤ 100) (hz : (xs.map (·.length)).sum ≤ 1000) (q : ∀ H', Same H H' → Q (.str (Txt.join "/" xs)) H') : tM1 (rJoin K) (tC (.str "/")) te σ H Q := by
  refine ⟨⟨_, rfl⟩, he _ fun p H1 S1 e1 => ?_⟩
  refine s_join (.inl (SqL.of e1)) ?_ (q _ S1)
  have : ("/" : Str).length = 1 := rfl
  rw [this]
  refine Nat.le_trans (m := 1100) (by omega) (by decide)
theorem kind_size (b1 b2 b3 b4 b5 b6 b7 b8 bv : Bool) : (kindS b1 b2 b3 b4 b5 b6 b7 b8 bv).length ≤ 9 ∧ ((kindS b1 b2 b3 b4 b5 b6 b7 b8 bv).map (·.length)).sum ≤ 90 := by
  unfold kindS
  constructor
  · exact kw_lenA _ _ _ (kw_lenA _ _ _ (kw_lenA _ _ _ (kw_lenA _ _ _ (kw_lenA _ _ _ (kw_lenA _ _ _ (kw_lenA _ _ _ (kw_lenA _ _ _ (kw_len _ _))))))))
  · exact kw_sumA _ _ _ (kw_sumA _ _ _ (kw_sumA _ _ _ (kw_sumA _ _ _ (kw_sumA _ _ _ (kw_sumA _ _ _ (kw_sumA _ _ _ (kw_sumA _ _ _ (Nat.le_trans (kw_sum _ _) (by decide)) (by decide)) (by decide)) (by decide)) (by decide)) (by decide)) (by decide)) (by decide)) (by decide)
/-! ### what a try keeps -/
theorem s_tryK {K : PySem.W.Frag} {c : Value} {i j : Nat} {Wout : WX} {tb : WX → TS} {D : Ends} {σ : Sl} {H : Hp} (q : tb (wKeep K c i j Wout D) D σ H) : tTryK K c i j Wout tb D σ H := q
theorem s_keep {K : PySem.W.Frag} {c cls : Value} {d : Option Addr} {i j : Nat} {Wout : WX} {D : Ends} {σ : Sl} {H : Hp} (h : PySem.W.exmOne K cls c = some true) (q : ∀ a, H a = none → D.nx ((σ.set j (some (.ref a))).set i none) (upd H a (ExR cls d a))) : wKeep K c i j Wout D cls d σ H :=
  ⟨true, h, fun _ => q, fun z => by cases z⟩
/-! ### ties of the laws -/
def sp__law_is (K : PySem.W.Frag) (C : Addr) : Sp := fun vs H Q _ => ∃ (p l : Addr) (n : Nat) (R : Rel) (a : Addr) (xs : List V) (L : List (Nat × Nat)), vs = [.ref p, .int n, .ref a] ∧ WebAt C H p l (webM n R) ∧ SqL K H a xs ∧ PairsAt H xs L ∧ Tell L n R ∧ ∀ H', Same H H' → Q (.bl true) H'
def sp__law_part (K : PySem.W.Frag) : Sp := fun vs H Q _ => ∃ (a b : Addr) (xs : List V) (L : List (Nat × Nat)) (n : Nat) (R : Rel) (is : List Nat), vs = [.ref a, .ref b] ∧ SqL K H a xs ∧ PairsAt H xs L ∧ Tell L n R ∧ Sym R ∧ n ≤ 30 ∧ SqL K H b (msk is) ∧ (∀ i ∈ is, i < n) ∧ is.Nodup ∧
  ∀ q ys H', Same H H' → H q = none → H' q = some (.lst ys) → PairsAt H' ys (tiesR is.length (partR R is)) → Q (.ref q) H'
def sp__law_others (K : PySem.W.Frag) : Sp := fun vs H Q _ => ∃ (a : Addr) (xs : List V) (L : List (Nat × Nat)) (n : Nat) (R : Rel), vs = [.ref a, .int n] ∧ SqL K H a xs ∧ PairsAt H xs L ∧ Tell L n R ∧ Sym R ∧ n ≤ 30 ∧
  ∀ q ys H', Same H H' → H q = none → H' q = some (.lst ys) → PairsAt H' ys (tiesR n (oppR R)) → Q (.ref q) H'
def sp__law_web (K : PySem.W.Frag) (C : Addr) : Sp := fun vs H Q _ => ∃ (a : Addr) (ns : List Int) (n : Nat), vs = [.ref a, .int n] ∧ SqL K H a (ns.map V.int) ∧ ns.length ≤ 63 ∧ 1 ≤ n ∧ n ≤ 30 ∧
  ∀ (t p l la : Addr) (R : Rel) (xs : List V) (L : List (Nat × Nat)) (H' : Hp), Same H H' → H p = none → H l = none → H la = none → H' t = some (.tup [.ref p, .ref la]) → la ≠ l → WebAt C H' p l (webM n R) → Sym R → H' la = some (.lst xs) → PairsAt H' xs L → Tell L n R → Q (.ref t) H'
/-- a thing that is no list of unlike points -/
def BadAt (K : PySem.W.Frag) (H : Hp) (n : Nat) (x : V) : Prop := (∃ nm, Th K H x nm ∧ nm ≠ "list") ∨ ∃ a xs, x = .ref a ∧ H a = some (.lst xs) ∧ xs.length ≤ 1000 ∧ (∀ v ∈ xs, ∃ m, Th K H v m) ∧ ¬ PtsOk n 1 xs
theorem bad_mem {n : Nat} {least : Int} {xs : List V} {v : V} (h : v ∈ xs) (nv : ∀ j : Nat, v = .int j → ¬ j < n) : ¬ PtsOk n least xs := by
  rintro ⟨js, rfl, lt, _, _⟩
  obtain ⟨j, hj, rfl⟩ := List.mem_map.mp h
  exact nv j rfl (lt j hj)
theorem bad_twice {n : Nat} {least : Int} {is : List Nat} {i : Nat} (h : i ∈ is) : ¬ PtsOk n least (msk is ++ [.int i]) := by
  rintro ⟨js, e, _, nd, _⟩
  rw [msk_app] at e
  have := msk_inj e
  subst this
  rw [List.nodup_append] at nd
  exact nd.2.2 i h i (by simp) rfl
theorem th_msk {K : PySem.W.Frag} {H : Hp} {is : List Nat} : ∀ v ∈ msk is, ∃ m, Th K H v m := by
  intro v hv
  obtain ⟨j, _, rfl⟩ := List.mem_map.mp hv
  exact ⟨_, .int _⟩
theorem BadAt.lst {K : PySem.W.Frag} {H : Hp} {n : Nat} {a : Addr} {xs : List V} (e : H a = some (.lst xs)) (hz : xs.length ≤ 1000) (ht : ∀ v ∈ xs, ∃ m, Th K H v m) (no : ¬ PtsOk n 1 xs) : BadAt K H n (.ref a) := .inr ⟨a, xs, rfl, e, hz, ht, no⟩
def sp__law_spoilt (K : PySem.W.Frag) : Sp := fun vs H Q _ => ∃ (a : Addr) (is : List Nat) (c n : Nat), vs = [.ref a, .int c, .int n] ∧ H a = some (.lst (msk is)) ∧ 1 ≤ is.length ∧ is.length ≤ 30 ∧ c ≤ 1000000000 ∧ n ≤ 30 ∧ (∀ i ∈ is, i < n) ∧ is.Nodup ∧
  ∀ x H', Same H H' → BadAt K H' n x → Q x H'
def sp__law_refused (K : PySem.W.Frag) (C : Addr) : Sp := fun vs H Q _ => ∃ (p l : Addr) (n : Nat) (R : Rel) (x : V), vs = [.ref p, x] ∧ WebAt C H p l (webM n R) ∧ n ≤ 30 ∧ Sym R ∧ BadAt K H n x ∧ ∀ H', Same H H' → Q (.bl true) H'
section
variable {K : PySem.W.Frag} {H : Hp} {Q : VK} {E : XK} {a b p l C : Addr} {n : Nat} {R : Rel} {xs ys : List V} {L : List (Nat × Nat)} {is : List Nat}
theorem u__law_kind {cs : List Addr} {b1 b2 b3 b4 b5 b6 b7 b8 : Bool} (h : ExcAt K H a cs [b1, b2, b3, b4, b5, b6, b7, b8]) (q : ∀ H', Same H H' → Q (.str (kindT b1 b2 b3 b4 b5 b6 b7 b8 true)) H') : sp__law_kind K cs [.ref a] H Q E := ⟨a, b1, b2, b3, b4, b5, b6, b7, b8, rfl, h, q⟩
theorem u__law_is (hW : WebAt C H p l (webM n R)) (h : SqL K H a xs) (hp : PairsAt H xs L) (t : Tell L n R) (q : ∀ H', Same H H' → Q (.bl true) H') : sp__law_is K C [.ref p, .int n, .ref a] H Q E := ⟨p, l, n, R, a, xs, L, rfl, hW, h, hp, t, q⟩
theorem u__law_part (h : SqL K H a xs) (hp : PairsAt H xs L) (t : Tell L n R) (S : Sym R) (hn : n ≤ 30) (hb : SqL K H b (msk is)) (lt : ∀ i ∈ is, i < n) (nd : is.Nodup)
    (q : ∀ q ys H', Same H H' → H q = none → H' q = some (.lst ys) → PairsAt H' ys (tiesR is.length (partR R is)) → Q (.ref q) H') : sp__law_part K [.ref a, .ref b] H Q E := ⟨a, b, xs, L, n, R, is, rfl, h, hp, t, S, hn, hb, lt, nd, q⟩
theorem u__law_others (h : SqL K H a xs) (hp : PairsAt H xs L) (t : Tell L n R) (S : Sym R) (hn : n ≤ 30)
    (q : ∀ q ys H', Same H H' → H q = none → H' q = some (.lst ys) → PairsAt H' ys (tiesR n (oppR R)) → Q (.ref q) H') : sp__law_others K [.ref a, .int n] H Q E := ⟨a, xs, L, n, R, rfl, h, hp, t, S, hn, q⟩
end
section
variable {K : PySem.W.Frag} {H : Hp} {Q : VK} {E : XK} {a : Addr}
theorem u__law_mixed {c k : Int} (h1 : -1000000 ≤ k) (h2 : k ≤ 1000000) (q : Q (.int (mixN c k)) H) : sp__law_mixed [.int c, .int k] H Q E := ⟨c, k, rfl, h1, h2, q⟩
theorem u__law_number {ns : List Int} {k : Nat} (h : SqL K H a (ns.map V.int)) (hk : k ≤ 1000000) (q : Q (.int (numN ns k)) H) : sp__law_number K [.ref a, .int k] H Q E := ⟨a, ns, k, rfl, h, hk, q⟩
theorem u__law_order {n num : Nat} (h : n ≤ 30) (q : ∀ p H', Same H H' → H p = none → H' p = some (.lst (msk (ordN n num))) → Q (.ref p) H') : sp__law_order [.int n, .int num] H Q E := ⟨n, num, rfl, h, q⟩
end
/-! ### the law's calls -/
theorem msk_take {is : List Nat} {j : Nat} : (msk is).take j = msk (is.take j) := by unfold msk; rw [List.map_take]
theorem WebAt.off {C p l q : Addr} {H : Hp} {ms : List Nat} {o : HO} (h : WebAt C H p l ms) (hp : p ≠ q) (hl : l ≠ q) : WebAt C (upd H q o) p l ms := by
  obtain ⟨dx, e⟩ := h.ob
  exact ⟨⟨dx, up_ne hp e⟩, up_ne hl h.li, h.sz⟩
def intD (is : List Nat) : PyData := .list (is.map fun (m : Nat) => .int (m : Int))
theorem intD_lay : ∀ is : List Nat, PyData.canLayAll0 (is.map fun (m : Nat) => PyData.int (m : Int)) = true ∧ PyData.depthAll (is.map fun (m : Nat) => PyData.int (m : Int)) ≤ 0
  | [] => ⟨rfl, by decide⟩
  | i :: is => by
    obtain ⟨h1, h2⟩ := intD_lay is
    constructor
    · rw [List.map_cons]; simp only [PyData.canLayAll0, PyData.canLay0, h1, Bool.and_self]
    · rw [List.map_cons]; simp only [PyData.depthAll, PyData.depth]; omega
theorem shaped_ints (is : List Nat) : SeqAt.shaped (intD is) = true := by
  obtain ⟨h1, h2⟩ := intD_lay is
  unfold SeqAt.shaped
  rw [Bool.and_eq_true]
  refine ⟨h1, decide_eq_true ?_⟩
  simp only [intD, PyData.depth]
  omega
theorem dp_ints {K : PySem.W.Frag} {H : Hp} : ∀ is : List Nat, DpAll K H (msk is) (is.map fun (m : Nat) => PyData.int (m : Int))
  | [] => .nil
  | _ :: is => .cons (.int _) (dp_ints is)
def growR (n : Nat) (R : Rel) : Rel := fun a b => decide (a < n) && decide (b < n) && R a b
theorem Sym.grow {R : Rel} {n : Nat} (S : Sym R) : Sym (growR n R) := ⟨fun a b => by unfold growR; rw [S.sy a b]; congr 1; exact Bool.and_comm _ _, fun a => by unfold growR; rw [S.ir]; simp⟩
section
variable {K : PySem.W.Frag} {H : Hp} {Q : VK} {E : XK} {C p l a b eP eM : Addr} {n : Nat} {R : Rel} {is : List Nat} {xs : List V} {x : V}
theorem s_slTo {j : Nat} (h : SqL K H a (msk is)) (hj : j ≤ is.length) (q : ∀ p H', H p = none → Same H H' → H' p = some (.lst (msk (is.take j))) → Q (.ref p) H') : rSl K (.ref a) none (some (j : Int)) H Q :=
  s_slL h fun p hp => by rw [cut_to (by rw [msk_length]; exact hj), msk_take]; exact q p _ hp (Same.new hp) upd_same
theorem s_listOn (h : SqL K H a xs ∨ SqT K H a xs) (q : ∀ p H', H p = none → Same H H' → H' p = some (.lst xs) → Q (.ref p) H') : rListOf K [.ref a] H Q := s_listO h fun p hp => q p _ hp (Same.new hp) upd_same
theorem s_clearL (h : H a = some (.lst xs)) (q : Q .non (upd H a (.lst []))) : rClear (.ref a) [] H Q := ⟨a, xs, rfl, rfl, h, q⟩
theorem s_neMsk (h : SqL K H a (msk is)) (h' : SqL K H b (msk is)) (q : Q (.bl false) H) : rNeA K (.ref a) (.ref b) H Q :=
  s_neD (.lst h (dp_ints is)) (.lst h' (dp_ints is)) (shaped_ints is) (shaped_ints is) (by rw [show PyData.eqv (.list _) (.list _) = true from SeqAt.eqv_refl (intD is) (SeqAt.canLay_of_shaped (shaped_ints is))]; exact q)
theorem u_partOk (hW : WebAt C H p l (webM n R)) (hn : n ≤ 30) (hR : Sym R) (e : H a = some (.lst (msk is))) (lt : ∀ i ∈ is, i < n) (nd : is.Nodup) (h1 : 1 ≤ is.length)
    (q : ∀ p2 l2 H', Same H H' → H p2 = none → H l2 = none → WebAt C H' p2 l2 (webM is.length (partR R is)) → Q (.ref p2) H') : sp_part K C eP [.ref p, .ref a] H Q E := by
  have l30 := Nat.le_trans (pts_le nd lt) hn
  refine ⟨p, l, n, R, _, rfl, hW, hn, hR, .inr ⟨a, _, rfl, e, by rw [msk_length]; omega, th_msk, fun js ej _ _ _ _ => ?_, fun no => absurd ⟨is, rfl, lt, nd, by omega⟩ no⟩⟩
  have := msk_inj ej
  subst this
  exact q
theorem u_opposite (hW : WebAt C H p l (webM n R)) (h1 : 1 ≤ n) (hn : n ≤ 30) (hR : Sym R) (q : ∀ p2 l2 H', Same H H' → H p2 = none → H l2 = none → WebAt C H' p2 l2 (webM n (oppR R)) → Q (.ref p2) H') : sp_opposite C [.ref p] H Q E := ⟨p, l, n, R, rfl, hW, h1, hn, hR, q⟩
theorem u_growR (hW : WebAt C H p l (webM n R)) (hn : n < 30) (q : WebAt C (upd H l (.lst (msk (webM (n + 1) (growR n R))))) p l (webM (n + 1) (growR n R)) → Q (.int n) (upd H l (.lst (msk (webM (n + 1) (growR n R)))))) : sp_Web_grow C eM [.ref p] H Q E := by
  refine ⟨p, l, _, rfl, hW, fun _ => ?_, fun h => by rw [webM_len] at h; omega⟩
  rw [webM_len, webM_grow]
  exact q (hW.put (by rw [webM_len]; omega))
theorem u__law_spoilt {c : Nat} (e : H a = some (.lst (msk is))) (h1 : 1 ≤ is.length) (hl : is.length ≤ 30) (hc : c ≤ 1000000000) (hn : n ≤ 30) (lt : ∀ i ∈ is, i < n) (nd : is.Nodup) (q : ∀ x H', Same H H' → BadAt K H' n x → Q x H') : sp__law_spoilt K [.ref a, .int c, .int n] H Q E :=
  ⟨a, is, c, n, rfl, e, h1, hl, hc, hn, lt, nd, q⟩
theorem u__law_refused (hW : WebAt C H p l (webM n R)) (hn : n ≤ 30) (hR : Sym R) (hB : BadAt K H n x) (q : ∀ H', Same H H' → Q (.bl true) H') : sp__law_refused K C [.ref p, x] H Q E := ⟨p, l, n, R, x, rfl, hW, hn, hR, hB, q⟩
end
end J

/-! Joinside, law k01: the law's own account of a web, what a deed brings. -/
namespace J
open PySem PySem.Spec L2
def tieKV (L : List (Nat × Nat)) : List (List Key × V) := L.map fun q => (tieK q, V.bl true)
theorem tieK_inj {p q : Nat × Nat} (h : tieK p = tieK q) : p = q := by
  unfold tieK at h
  injection h with h1 h2
  injection h2 with h2 _
  injection h1 with h1
  injection h2 with h2
  exact Prod.ext (by omega) (by omega)
theorem tieKV_val (L : List (Nat × Nat)) (q : Nat × Nat) : valV (tieKV L) (tieK q) = if q ∈ L then some (V.bl true) else none := by
  induction L with
  | nil => rfl
  | cons p r ih =>
    by_cases e : p = q
    · subst e
      rw [if_pos List.mem_cons_self]
      exact valV_pos rfl
    · have ne : ¬ tieK p = tieK q := fun z => e (tieK_inj z)
      have e1 : valV (tieKV (p :: r)) (tieK q) = valV (tieKV r) (tieK q) := valV_neg ne
      rw [e1, ih]
      simp [Ne.symm e]
theorem tieKV_put {L : List (Nat × Nat)} {q : Nat × Nat} (h : q ∉ L) : putK (tieKV L) (tieK q) (V.bl true) = tieKV (L ++ [q]) := by
  rw [putK_new _ (by rw [tieKV_val, if_neg h])]
  simp [tieKV]
theorem tieKV_drop (L : List (Nat × Nat)) (q : Nat × Nat) : dropK (tieKV L) (tieK q) = tieKV (L.filter fun p => decide (p ≠ q)) := by
  unfold dropK tieKV
  rw [List.filter_map]
  congr 1
  apply List.filter_congr
  intro p _
  simp only [Function.comp]
  rw [decide_eq_decide]
  exact ⟨fun h e => h (by rw [e]), fun h e => h (tieK_inj e)⟩
theorem tieKV_keys (L : List (Nat × Nat)) : (tieKV L).map (·.1) = L.map tieK := by
  unfold tieKV
  rw [List.map_map]
  rfl
theorem tieKV_len (L : List (Nat × Nat)) : (tieKV L).length = L.length := by simp [tieKV]
def ownK (n : Nat) (td : Addr) : List (Key × V) := [(.inr "many", .int n), (.inr "ties", .ref td)]
theorem ownK_many (n : Nat) (td : Addr) : valV (ownK n td) (.inr "many") = some (.int n) := valV_pos rfl
theorem key_ne : ¬ ((.inr "many" : Key) = (.inr "ties" : Key)) := by decide +kernel
theorem ownK_ties (n : Nat) (td : Addr) : valV (ownK n td) (.inr "ties") = some (.ref td) := by
  have e1 : valV (ownK n td) (.inr "ties") = valV [((.inr "ties" : Key), V.ref td)] (.inr "ties") := valV_neg key_ne
  rw [e1]
  exact valV_pos rfl
theorem ownK_put (n : Nat) (td : Addr) : putK (ownK n td) (.inr "many") (.int ((n : Int) + 1)) = ownK (n + 1) td := by
  have ne : ((.inr "ties" : Key) = .inr "many") = False := by
    apply propext
    exact ⟨fun z => key_ne z.symm, False.elim⟩
  unfold putK ownK
  simp [ne]
structure OwnAt (H : Hp) (ow td : Addr) (n : Nat) (L : List (Nat × Nat)) : Prop where
  ob : H ow = some (.dK (ownK n td))
  ti : H td = some (.dT (tieKV L))
theorem OwnAt.same {H H' : Hp} {ow td : Addr} {n : Nat} {L : List (Nat × Nat)} (s : Same H H') (h : OwnAt H ow td n L) : OwnAt H' ow td n L := ⟨s _ _ h.ob, s _ _ h.ti⟩
theorem OwnAt.off {H : Hp} {ow td q : Addr} {n : Nat} {L : List (Nat × Nat)} {o : HO} (h : OwnAt H ow td n L) (h1 : ow ≠ q) (h2 : td ≠ q) : OwnAt (upd H q o) ow td n L := ⟨up_ne h1 h.ob, up_ne h2 h.ti⟩
theorem OwnAt.ne {H : Hp} {ow td : Addr} {n : Nat} {L : List (Nat × Nat)} (h : OwnAt H ow td n L) : ow ≠ td := ne_of h.ob h.ti (by intro z; cases z)
theorem Tell.filt {L : List (Nat × Nat)} {n a b : Nat} {R : Rel} (h : Tell L n R) (S : Sym R) (ha : a < n) (hb : b < n) (ne : a ≠ b) (yes : R a b = true) : Tell (L.filter fun p => decide (p ≠ (min a b, max a b))) n (togg R a b) := by
  refine ⟨h.nd.sublist List.filter_sublist, fun x y => ?_⟩
  rw [List.mem_filter, h.me, decide_eq_true_eq]
  unfold togg
  have e : (x, y) = (min a b, max a b) ↔ x = min a b ∧ y = max a b := by rw [Prod.mk.injEq]
  rw [Ne, e]
  by_cases q : (x = a ∧ y = b) ∨ (x = b ∧ y = a)
  · rw [if_pos q]
    have r : R x y = true := by rcases q with ⟨rfl, rfl⟩ | ⟨rfl, rfl⟩; exact yes; rw [S.sy]; exact yes
    rw [r]
    constructor
    · rintro ⟨⟨h1, h2, _⟩, h3⟩
      exact absurd (by omega) h3
    · rintro ⟨_, _, h3⟩
      cases h3
  · rw [if_neg q]
    constructor
    · rintro ⟨h1, _⟩
      exact h1
    · intro h1
      exact ⟨h1, fun h3 => q (by omega)⟩
theorem Tell.grow {L : List (Nat × Nat)} {n : Nat} {R : Rel} (h : Tell L n R) : Tell L (n + 1) (growR n R) := ⟨h.nd, fun a b => by
  rw [h.me]
  unfold growR
  simp only [Bool.and_eq_true, decide_eq_true_eq]
  constructor
  · rintro ⟨h1, h2, h3⟩
    exact ⟨h1, by omega, ⟨by omega, h2⟩, h3⟩
  · rintro ⟨h1, _, ⟨_, h2⟩, h3⟩
    exact ⟨h1, h2, h3⟩⟩
/-! ### what a deed brings -/
inductive Out where
  | err (k : Fin 4)
  | ok (v : V) (n : Nat) (R : Rel)
/-- 0: no point, 1: twice, 2: no tie, 3: too many -/
def outc (n : Nat) (R : Rel) (word : Str) (x y : V) : Out :=
  if word = "grow" then (if n = 30 then .err 3 else .ok (.int n) (n + 1) (growR n R))
  else if good n x y = true then
    match x, y with
    | .int a, .int b =>
      if word = "put" then (if R a.toNat b.toNat = true then .err 1 else .ok .non n (togg R a.toNat b.toNat))
      else if word = "take" then (if R a.toNat b.toNat = true then .ok .non n (togg R a.toNat b.toNat) else .err 2)
      else .ok (.bl (R a.toNat b.toNat)) n R
    | _, _ => .err 0
  else .err 0
def outK : Out → Str
  | .err 0 => "point"
  | .err 1 => "twice"
  | .err 2 => "no tie"
  | .err 3 => "many"
  | .ok _ _ _ => ""
theorem good_nat {n : Nat} {x y : V} (h : good n x y = true) : ∃ i j : Nat, x = .int i ∧ y = .int j ∧ i < n ∧ j < n ∧ i ≠ j := by
  unfold good at h
  rw [Bool.and_eq_true, Bool.and_eq_true] at h
  obtain ⟨⟨h1, h2⟩, h3⟩ := h
  obtain ⟨i, rfl, hi⟩ := among_nat h1
  obtain ⟨j, rfl, hj⟩ := among_nat h2
  refine ⟨i, j, rfl, rfl, hi, hj, fun e => ?_⟩
  subst e
  simp at h3
theorem upd_id {H : Hp} {a : Addr} {o : HO} (h : H a = some o) : upd H a o = H := by
  funext b
  by_cases e : b = a
  · subst e; rw [upd_same, h]
  · rw [upd_ne e]
theorem outc_grow {n : Nat} {R : Rel} {x y : V} : outc n R "grow" x y = if n = 30 then .err 3 else .ok (.int n) (n + 1) (growR n R) := by unfold outc; rw [if_pos rfl]
theorem outc_bad {n : Nat} {R : Rel} {w : Str} {x y : V} (h : w ≠ "grow") (b : good n x y = false) : outc n R w x y = .err 0 := by unfold outc; rw [if_neg h, b]; rfl
theorem w_pg : ("put" : Str) ≠ "grow" := by decide +kernel
theorem w_tg : ("take" : Str) ≠ "grow" := by decide +kernel
theorem w_hg : ("has" : Str) ≠ "grow" := by decide +kernel
theorem w_tp : ("take" : Str) ≠ "put" := by decide +kernel
theorem w_hp : ("has" : Str) ≠ "put" := by decide +kernel
theorem w_ht : ("has" : Str) ≠ "take" := by decide +kernel
section
variable {n : Nat} {R : Rel} {i j : Nat}
theorem outc_put (hi : i < n) (hj : j < n) (ne : i ≠ j) : outc n R "put" (.int i) (.int j) = if R i j = true then .err 1 else .ok .non n (togg R i j) := by
  unfold outc
  rw [if_neg w_pg, if_pos (good_of hi hj ne)]
  simp only [Int.toNat_natCast]
  rw [if_pos trivial]
theorem outc_take (hi : i < n) (hj : j < n) (ne : i ≠ j) : outc n R "take" (.int i) (.int j) = if R i j = true then .ok .non n (togg R i j) else .err 2 := by
  unfold outc
  rw [if_neg w_tg, if_pos (good_of hi hj ne)]
  simp only [Int.toNat_natCast]
  rw [if_neg w_tp, if_pos trivial]
theorem outc_has (hi : i < n) (hj : j < n) (ne : i ≠ j) : outc n R "has" (.int i) (.int j) = .ok (.bl (R i j)) n R := by
  unfold outc
  rw [if_neg w_hg, if_pos (good_of hi hj ne)]
  simp only [Int.toNat_natCast]
  rw [if_neg w_hp, if_neg w_ht]
end
def eAt (a b c d : Addr) : Fin 4 → Addr
  | 0 => a
  | 1 => b
  | 2 => c
  | 3 => d
def wholeB : V → Bool
  | .int _ => true
  | _ => false
def wordOk (w : Str) : Prop := w = "put" ∨ w = "take" ∨ w = "has" ∨ w = "grow"
def sp__law_whole (K : PySem.W.Frag) : Sp := fun vs H Q _ => ∃ (x : V) (m : String), vs = [x] ∧ Th K H x m ∧ Q (.bl (wholeB x)) H
def sp__law_is_point (K : PySem.W.Frag) : Sp := fun vs H Q _ => ∃ (ow td : Addr) (n : Nat) (L : List (Nat × Nat)) (x : V) (m : String), vs = [.ref ow, x] ∧ OwnAt H ow td n L ∧ Th K H x m ∧ Q (.bl (among x 0 ((n : Int) - 1))) H
def sp__law_due (K : PySem.W.Frag) : Sp := fun vs H Q _ => ∃ (ow td : Addr) (n : Nat) (R : Rel) (L : List (Nat × Nat)) (w : Str) (x y : V) (m m' : String), vs = [.ref ow, .str w, x, y] ∧ OwnAt H ow td n L ∧ Tell L n R ∧ Sym R ∧ wordOk w ∧ Th K H x m ∧ Th K H y m' ∧
  ∀ H', Same H H' → Q (.str (outK (outc n R w x y))) H'
def sp__law_call (K : PySem.W.Frag) (C : Addr) (es : Fin 4 → Addr) : Sp := fun vs H Q E => ∃ (p l : Addr) (n : Nat) (R : Rel) (w : Str) (x y : V) (m m' : String), vs = [.ref p, .str w, x, y] ∧ WebAt C H p l (webM n R) ∧ n ≤ 30 ∧ wordOk w ∧ Th K H x m ∧ Th K H y m' ∧
  match outc n R w x y with
  | .err k => E (.ref (es k)) none H
  | .ok v n' R' => WebAt C (upd H l (.lst (msk (webM n' R')))) p l (webM n' R') → Q v (upd H l (.lst (msk (webM n' R'))))
def sp__law_said (K : PySem.W.Frag) (C : Addr) : Sp := fun vs H Q _ => ∃ (p l : Addr) (n : Nat) (R : Rel) (w : Str) (x y : V) (m m' : String), vs = [.ref p, .str w, x, y] ∧ WebAt C H p l (webM n R) ∧ n ≤ 30 ∧ wordOk w ∧ Th K H x m ∧ Th K H y m' ∧
  match outc n R w x y with
  | .err k => ∀ t H', Same H H' → H' t = some (.tup [.str (outK (.err k)), .non]) → Q (.ref t) H'
  | .ok v n' R' => ∀ t H', Same (upd H l (.lst (msk (webM n' R')))) H' → WebAt C H' p l (webM n' R') → H' t = some (.tup [.str "", v]) → Q (.ref t) H'
/-- the law's account and the web, told alike -/
structure Both (C : Addr) (H : Hp) (p l ow td : Addr) (n : Nat) (R : Rel) (L : List (Nat × Nat)) : Prop where
  web : WebAt C H p l (webM n R)
  own : OwnAt H ow td n L
  tell : Tell L n R
  sym : Sym R
  le : n ≤ 30
  pos : 1 ≤ n
theorem Both.same {C : Addr} {H H' : Hp} {p l ow td : Addr} {n : Nat} {R : Rel} {L : List (Nat × Nat)} (s : Same H H') (h : Both C H p l ow td n R L) : Both C H' p l ow td n R L := ⟨h.web.same s, h.own.same s, h.tell, h.sym, h.le, h.pos⟩
/-- all but three addresses stay -/
def Stay (A : List Addr) (H H' : Hp) : Prop := ∀ b o, b ∉ A → H b = some o → H' b = some o
theorem Stay.same {A : List Addr} {H H' : Hp} (s : Same H H') : Stay A H H' := fun b o _ e => s b o e
theorem Stay.trans {A : List Addr} {H H1 H2 : Hp} (s : Stay A H H1) (t : Stay A H1 H2) : Stay A H H2 := fun b o n e => t b o n (s b o n e)
theorem Stay.upd {A : List Addr} {H : Hp} {a : Addr} {o : HO} (h : a ∈ A) : Stay A H (upd H a o) := fun b u n e => up_ne (fun z => n (z ▸ h)) e
theorem outK_err (k : Fin 4) : (!decide (outK (.err k) = Str.ofString "")) = true := by
  match k with
  | 0 => decide +kernel
  | 1 => decide +kernel
  | 2 => decide +kernel
  | 3 => decide +kernel
def sp__law_done (K : PySem.W.Frag) (C : Addr) : Sp := fun vs H Q _ => ∃ (p l ow td : Addr) (n : Nat) (R : Rel) (L : List (Nat × Nat)) (w : Str) (x y : V) (m m' : String), vs = [.ref p, .ref ow, .str w, x, y] ∧ Both C H p l ow td n R L ∧ wordOk w ∧ Th K H x m ∧ Th K H y m' ∧
  ∀ (n' : Nat) (R' : Rel) (L' : List (Nat × Nat)) (H' : Hp), n ≤ n' → Stay [l, ow, td] H H' → Both C H' p l ow td n' R' L' → Q (.bl true) H'
/-- a told thing: an int, or a pair of ints -/
def Told (H : Hp) (x : V) : Prop := (∃ i : Int, x = .int i) ∨ ∃ q, PairAt H x q
/-- two lists that hold the same, both none of A -/
def HeldAt (H : Hp) (A : List Addr) (x : V) : Prop := ∃ (t f g : Addr) (xs : List V), x = .ref t ∧ H t = some (.tup [.ref f, .ref g]) ∧ H f = some (.lst xs) ∧ H g = some (.lst xs) ∧ f ∉ A ∧ g ∉ A ∧ ∀ y ∈ xs, Told H y
def sp__law_looked (K : PySem.W.Frag) (C : Addr) : Sp := fun vs H Q _ => ∃ (p l ow td : Addr) (n : Nat) (R : Rel) (L : List (Nat × Nat)) (i : Nat) (he : Addr) (hs : List V) (A : List Addr), vs = [.ref p, .ref ow, .int i, .ref he] ∧ Both C H p l ow td n R L ∧ i < n ∧
  (H he = some (.lst hs) ∧ hs.length ≤ 1000 ∧ (∀ q ∈ A, H q ≠ none) ∧ he ∈ A ∧ he ≠ l ∧ ∀ x ∈ hs, HeldAt H A x) ∧
  ∀ (hs' : List V) (H' : Hp), Stay [he] H H' → H' he = some (.lst hs') → hs'.length = hs.length + 2 → (∀ x ∈ hs', HeldAt H' A x) → Q (.bl true) H'
def sp__law_beside_refused (K : PySem.W.Frag) (C : Addr) : Sp := fun vs H Q _ => ∃ (p l : Addr) (n : Nat) (R : Rel) (x : V) (m : String), vs = [.ref p, x] ∧ WebAt C H p l (webM n R) ∧ Th K H x m ∧ among x 0 ((n : Int) - 1) = false ∧ ∀ H', Same H H' → Q (.bl true) H'
def sp__law_size_refused (K : PySem.W.Frag) : Sp := fun vs H Q _ => ∃ (x : V) (m : String), vs = [x] ∧ Th K H x m ∧ among x 1 30 = false ∧ ∀ H', Same H H' → Q (.bl true) H'
section
variable {K : PySem.W.Frag} {H : Hp} {Q : VK} {E : XK} {a b : Addr} {x : V} {m : String} {n : Nat} {L : List (Nat × Nat)} {kvs : List (Key × V)} {kts : List (List Key × V)}
theorem u__law_whole (t : Th K H x m) (q : Q (.bl (wholeB x)) H) : sp__law_whole K [x] H Q E := ⟨x, m, rfl, t, q⟩
theorem u__law_is_point {ow td : Addr} (o : OwnAt H ow td n L) (t : Th K H x m) (q : Q (.bl (among x 0 ((n : Int) - 1))) H) : sp__law_is_point K [.ref ow, x] H Q E := ⟨ow, td, n, L, x, m, rfl, o, t, q⟩
/-! ### dicts, read and written -/
theorem s_dget {td ty : TE} {σ : Sl} (q : td σ H fun x H1 => ty σ H1 fun y H2 => ∃ a v, x = .ref a ∧ DGet H2 a y (some v) ∧ Q v H2) : tDGet td ty σ H Q := q
theorem s_dgetS {R : V → Prop} {z : Str} {v : V} (e : H a = some (.dK kvs)) (h : valV kvs (.inr z) = some v) (q : R v) : ∃ b v, V.ref a = .ref b ∧ DGet H b (.str z) (some v) ∧ R v := ⟨a, v, rfl, by rw [← h]; exact DGet.k (k := .inr z) e, q⟩
theorem s_din {td ty : TE} {σ : Sl} (q : ty σ H fun y H1 => td σ H1 fun x H2 => ∃ a o, x = .ref a ∧ DGet H2 a y o ∧ Q (.bl o.isSome) H2) : tDIn ty td σ H Q := q
theorem s_dinT {R : Option V → Prop} {t : Addr} {q : Nat × Nat} (e : H a = some (.dT (tieKV L))) (et : H t = some (.tup [.int q.1, .int q.2])) (k1 : q ∈ L → R (some (.bl true))) (k2 : q ∉ L → R none) : ∃ b o, V.ref a = .ref b ∧ DGet H b (.ref t) o ∧ R o :=
  ⟨a, valV (tieKV L) (tieK q), rfl, DGet.t e et, by
    rw [tieKV_val]
    by_cases h : q ∈ L
    · rw [if_pos h]; exact k1 h
    · rw [if_neg h]; exact k2 h⟩
theorem s_dput {td ty tv : TE} {D : Ends} {σ : Sl} (q : tv σ H fun v H1 => td σ H1 fun x H2 => ty σ H2 fun y H3 => ∃ a H4, x = .ref a ∧ DPut H3 a y v H4 ∧ D.nx σ H4) : sDPut td ty tv D σ H := q
theorem s_dputS {R : Hp → Prop} {z : Str} {v : V} (e : H a = some (.dK kvs)) (hl : kvs.length < sizeLine) (q : R (upd H a (.dK (putK kvs (.inr z) v)))) : ∃ b H4, V.ref a = .ref b ∧ DPut H b (.str z) v H4 ∧ R H4 := ⟨a, _, rfl, DPut.k (k := .inr z) e hl, q⟩
theorem s_dputT {R : Hp → Prop} {t : Addr} {q : Nat × Nat} {v : V} (e : H a = some (.dT kts)) (et : H t = some (.tup [.int q.1, .int q.2])) (hl : kts.length < sizeLine) (k : R (upd H a (.dT (putK kts (tieK q) v)))) : ∃ b H4, V.ref a = .ref b ∧ DPut H b (.ref t) v H4 ∧ R H4 := ⟨a, _, rfl, DPut.t (k := tieK q) e et hl, k⟩
theorem s_pop1T {t : Addr} {q : Nat × Nat} (e : H a = some (.dT (tieKV L))) (et : H t = some (.tup [.int q.1, .int q.2])) (hq : q ∈ L) (k : Q (.bl true) (upd H a (.dT (tieKV (L.filter fun p => decide (p ≠ q)))))) : rPop1T (.ref a) [.ref t] H Q :=
  ⟨a, _, tieK q, t, .bl true, rfl, rfl, e, et, by rw [tieKV_val, if_pos hq], by rw [tieKV_drop]; exact k⟩
theorem s_tyDT {R : Prop} (h : H a = some (.dT kts)) (q : R) : tyV K "dict" (.ref a) H ∧ R := ⟨by unfold tyV; simp [h], q⟩
theorem s_sortDT {ts : List (Nat × Nat)} (e : H a = some (.dT (tieKV L))) (pm : L.Perm ts) (od : ts.Pairwise lexLt) (k : ∀ p ys, H p = none → PairsAt (upd H p (.lst ys)) ys ts → Q (.ref p) (upd H p (.lst ys))) : rSortDT [.ref a] H Q :=
  ⟨a, _, L, ts, rfl, e, tieKV_keys L, pm, od, k⟩
end
end J

/-! Joinside, law k01: what is looked at: texts of lists, the ties beside a point. -/
namespace J
open PySem PySem.Spec L2
theorem small_int {i : Nat} (h : i < 1000) : PyData.leavesShort 13 (.int (i : Int)) = true ∧ PyData.weight (.int (i : Int)) ≤ 10 ∧ PyData.showable (.int (i : Int)) = true := by
  have hn : ((i : Int)).natAbs = i := Int.natAbs_natCast i
  have hl : i.log2 < 10 := by
    by_cases z : i = 0
    · subst z; decide
    · exact (Nat.log2_lt z).mpr (by omega)
  refine ⟨?_, ?_, ?_⟩
  · simp only [PyData.leavesShort, decide_eq_true_eq]
    exact PyData.shown_int_le (by rw [hn]; exact Nat.lt_of_lt_of_le h (by decide))
  · simp only [PyData.weight, hn]
    split <;> omega
  · simp only [PyData.showable, hn, decide_eq_true_eq]
    omega
def Small (q : Nat × Nat) : Prop := q.1 < 1000 ∧ q.2 < 1000
theorem pairs_show : ∀ qs : List (Nat × Nat), (∀ q ∈ qs, Small q) → PyData.leavesShortAll 13 (pairsD qs) = true ∧ PyData.weightAll (pairsD qs) ≤ 23 * qs.length ∧ PyData.showableAll (pairsD qs) = true
  | [], _ => ⟨rfl, Nat.le_refl _, rfl⟩
  | q :: qs, h => by
    obtain ⟨h1, h2, h3⟩ := pairs_show qs fun p hp => h p (List.mem_cons_of_mem _ hp)
    obtain ⟨s1, s2⟩ := h q List.mem_cons_self
    obtain ⟨a1, a2, a3⟩ := small_int s1
    obtain ⟨b1, b2, b3⟩ := small_int s2
    refine ⟨?_, ?_, ?_⟩
    · show PyData.leavesShortAll 13 (pairD q :: pairsD qs) = true
      simp only [PyData.leavesShortAll, pairD]
      rw [PyData.leavesShort]
      simp only [PyData.leavesShortAll, a1, b1, h1, Bool.and_self]
    · show PyData.weightAll (pairD q :: pairsD qs) ≤ _
      have e : PyData.weight (pairD q) = PyData.weight (.int (q.1 : Int)) + 1 + (PyData.weight (.int (q.2 : Int)) + 1 + 0) := by
        unfold pairD
        rw [PyData.weight]
        simp only [PyData.weightAll]
      rw [PyData.weightAll, e, List.length_cons]
      omega
    · show PyData.showableAll (pairD q :: pairsD qs) = true
      simp only [PyData.showableAll, pairD]
      rw [PyData.showable]
      simp only [PyData.showableAll, a3, b3, h3, Bool.and_self]
theorem ints_show : ∀ is : List Nat, (∀ i ∈ is, i < 1000) → PyData.leavesShortAll 13 (is.map fun (m : Nat) => PyData.int (m : Int)) = true ∧ PyData.weightAll (is.map fun (m : Nat) => PyData.int (m : Int)) ≤ 11 * is.length ∧ PyData.showableAll (is.map fun (m : Nat) => PyData.int (m : Int)) = true
  | [], _ => ⟨rfl, Nat.le_refl _, rfl⟩
  | i :: is, h => by
    obtain ⟨h1, h2, h3⟩ := ints_show is fun p hp => h p (List.mem_cons_of_mem _ hp)
    obtain ⟨a1, a2, a3⟩ := small_int (h i List.mem_cons_self)
    rw [List.map_cons]
    refine ⟨?_, ?_, ?_⟩
    · rw [PyData.leavesShortAll, a1, h1]; rfl
    · rw [PyData.weightAll, List.length_cons]; omega
    · rw [PyData.showableAll, a3, h3]; rfl
section
variable {K : PySem.W.Frag} {H : Hp} {Q : VK} {a : Addr} {xs : List V} {qs : List (Nat × Nat)} {is : List Nat}
theorem s_reprP (h : SqL K H a xs) (hp : PairsAt H xs qs) (sm : ∀ q ∈ qs, Small q) (hl : qs.length ≤ 1000) (k : Q (.str (PyData.list (pairsD qs)).shown) H) : rRepr K [.ref a] H Q := by
  obtain ⟨h1, h2, h3⟩ := pairs_show qs sm
  have d := (pairs_lay qs).2
  refine s_repr (.lst h hp.dp) (by rw [PyData.showable]; exact h3) (by simp only [PyData.depth]; omega) ?_ k
  refine PyData.shown_fits (B := 13) (by decide) (by decide) (by rw [PyData.leavesShort]; exact h1) ?_
  rw [PyData.weight]
  exact Nat.le_trans (m := 23000) (by omega) (by decide)
theorem s_reprI (h : SqL K H a (msk is)) (sm : ∀ i ∈ is, i < 1000) (hl : is.length ≤ 1000) (k : Q (.str (intD is).shown) H) : rRepr K [.ref a] H Q := by
  obtain ⟨h1, h2, h3⟩ := ints_show is sm
  have d := (intD_lay is).2
  refine s_repr (d := intD is) (.lst h (dp_ints is)) (by unfold intD; rw [PyData.showable]; exact h3) (by unfold intD; simp only [PyData.depth]; omega) ?_ k
  refine PyData.shown_fits (B := 13) (by decide) (by decide) (by unfold intD; rw [PyData.leavesShort]; exact h1) ?_
  unfold intD
  rw [PyData.weight]
  exact Nat.le_trans (m := 23000) (by omega) (by decide)
end
/-! ### the points beside a point, told by the ties -/
def nearN (i : Nat) (L : List (Nat × Nat)) : List Nat := L.filterMap fun q => if i = q.1 ∨ i = q.2 then some (q.1 + q.2 - i) else none
theorem near_mem {i n x : Nat} {R : Rel} {L : List (Nat × Nat)} (h : Tell L n R) (S : Sym R) (hi : i < n) : x ∈ nearN i L ↔ x < n ∧ R i x = true := by
  unfold nearN
  rw [List.mem_filterMap]
  constructor
  · rintro ⟨⟨a, b⟩, hq, e⟩
    have m := (h.me a b).mp hq
    dsimp only at e
    by_cases c : i = a ∨ i = b
    · rw [if_pos c] at e
      have e' : a + b - i = x := Option.some.inj e
      rcases c with rfl | rfl
      · rw [show x = b by omega]; exact ⟨m.2.1, m.2.2⟩
      · rw [show x = a by omega, S.sy]; exact ⟨by omega, m.2.2⟩
    · rw [if_neg c] at e; cases e
  · rintro ⟨hx, hr⟩
    have ne : i ≠ x := fun e => by subst e; rw [S.ir] at hr; cases hr
    by_cases c : i < x
    · exact ⟨(i, x), (h.me _ _).mpr ⟨c, hx, hr⟩, by dsimp only; rw [if_pos (.inl rfl)]; congr 1; omega⟩
    · exact ⟨(x, i), (h.me _ _).mpr ⟨by omega, hi, by rw [S.sy]; exact hr⟩, by dsimp only; rw [if_pos (.inr rfl)]; congr 1; omega⟩
theorem near_nd {i n : Nat} {L : List (Nat × Nat)} (h : ∀ q ∈ L, q.1 < q.2 ∧ q.2 < n) (nd : L.Nodup) : (nearN i L).Nodup := by
  unfold nearN
  refine List.Pairwise.filterMap _ ?_ (List.pairwise_and_iff.mpr ⟨nd, List.Pairwise.imp_mem.mpr (List.pairwise_of_forall fun p q hp hq => (⟨h p hp, h q hq⟩ : (p.1 < p.2 ∧ p.2 < n) ∧ (q.1 < q.2 ∧ q.2 < n)))⟩)
  rintro ⟨a, b⟩ ⟨c, d⟩ ⟨ne, hp, hq⟩ x hx y hy e
  subst e
  dsimp only at hp hq
  by_cases c1 : i = a ∨ i = b
  · by_cases c2 : i = c ∨ i = d
    · simp only [c1, c2, if_true, Option.some.injEq] at hx hy
      exact ne (by rw [Prod.mk.injEq]; omega)
    · simp [c2] at hy
  · simp [c1] at hx
theorem near_perm {i n : Nat} {R : Rel} {L : List (Nat × Nat)} (h : Tell L n R) (S : Sym R) (hi : i < n) : (nearN i L).Perm ((List.range n).filter (R i)) := by
  refine perm_of (near_nd (n := n) (fun q hq => ?_) h.nd) (List.nodup_range.sublist List.filter_sublist) fun x => ?_
  · have := (h.me q.1 q.2).mp hq
    exact ⟨this.1, this.2.1⟩
  · rw [near_mem h S hi, List.mem_filter, List.mem_range]
theorem filt_le {n : Nat} {f : Nat → Bool} : ((List.range n).filter f).Pairwise (· ≤ ·) := (List.pairwise_lt_range.filter _).imp fun h => Nat.le_of_lt h
theorem near_take {i j : Nat} {L : List (Nat × Nat)} {q : Nat × Nat} (h : L[j]? = some q) : nearN i (L.take (j + 1)) = nearN i (L.take j) ++ (if i = q.1 ∨ i = q.2 then [q.1 + q.2 - i] else []) := by
  unfold nearN
  rw [take_succ_of h, List.filterMap_append]
  congr 1
  by_cases c : i = q.1 ∨ i = q.2 <;> simp [c]
theorem lock_back {H : Hp} {d D : Addr} {u f o : HO} (h : H d = some u) (ne : D ≠ d) : upd (upd (upd H d f) D o) d u = upd H D o := by
  funext b
  by_cases e : b = d
  · subst e; rw [upd_same, upd_ne (Ne.symm ne), h]
  · rw [upd_ne e]
    by_cases e2 : b = D
    · subst e2; rw [upd_same, upd_same]
    · rw [upd_ne e2, upd_ne e2, upd_ne e]
section
variable {K : PySem.W.Frag} {H : Hp} {Q : VK} {a : Addr} {σ : Sl}
theorem s_sortI {is ts : List Nat} (h : SqL K H a (msk is)) (pm : is.Perm ts) (od : ts.Pairwise (· ≤ ·)) (k : ∀ p, H p = none → Q (.ref p) (upd H p (.lst (msk ts)))) : rSorted K [.ref a] H Q := by
  refine .inl ⟨a, is.map fun (m : Nat) => (m : Int), rfl, by rw [← msk_ints]; exact h, fun ns' p pm2 od2 hp => ?_⟩
  have e : ns' = ts.map fun (m : Nat) => (m : Int) := by
    refine List.Perm.eq_of_pairwise (le := fun (x y : Int) => x ≤ y) (fun a b _ _ h1 h2 => by omega) od2 ?_ (pm2.trans (pm.map _))
    rw [List.pairwise_map]
    exact od.imp fun h => by omega
  rw [e, ← msk_ints]
  exact k p hp
theorem s_ikeys {td : TE} {R : It → Hp → Prop} (q : td σ H fun x H1 => ∃ d o, x = .ref d ∧ ((∃ kvs, H1 d = some (.frz o (.dK kvs)) ∧ R (Itk d o kvs) H1) ∨ ∃ kvs, H1 d = some (.frz o (.dT kvs)) ∧ R (Itkt d o kvs) H1)) : iKeys td σ H R := q
theorem s_ikeysT {R : It → Prop} {o : Obj} {kvs : List (List Key × V)} (e : H a = some (.frz o (.dT kvs))) (q : R (Itkt a o kvs)) : ∃ d o, V.ref a = .ref d ∧ ((∃ kvs, H d = some (.frz o (.dK kvs)) ∧ R (Itk d o kvs)) ∨ ∃ kvs, H d = some (.frz o (.dT kvs)) ∧ R (Itkt d o kvs)) := ⟨a, o, rfl, .inr ⟨kvs, e, q⟩⟩
theorem s_izip {ta : TA} {R : It → Hp → Prop} (q : ta σ H fun vs H1 => ∃ a b xs ys, vs = [.ref a, .ref b] ∧ SqL K H1 a xs ∧ SqL K H1 b ys ∧ R (Itz K a b) H1) : iZip K ta σ H R := q
end
theorem Told.stay {H H' : Hp} {he : Addr} {hs : List V} {x : V} (e : H he = some (.lst hs)) (s : Stay [he] H H') (h : Told H x) : Told H' x := by
  rcases h with h | ⟨q, t, rfl, et⟩
  · exact .inl h
  · exact .inr ⟨q, t, rfl, s _ _ (by simpa using ne_of et e (by intro z; cases z)) et⟩
theorem HeldAt.stay {H H' : Hp} {A : List Addr} {he : Addr} {hs : List V} {x : V} (m : he ∈ A) (e : H he = some (.lst hs)) (s : Stay [he] H H') (h : HeldAt H A x) : HeldAt H' A x := by
  obtain ⟨t, f, g, xs, rfl, et, ef, eg, nf, ng, tl⟩ := h
  refine ⟨t, f, g, xs, rfl, s _ _ (by simpa using ne_of et e (by intro z; cases z)) et, s _ _ ?_ ef, s _ _ ?_ eg, nf, ng, fun y hy => (tl y hy).stay e s⟩
  · intro z; rw [List.mem_singleton] at z; exact nf (z ▸ m)
  · intro z; rw [List.mem_singleton] at z; exact ng (z ▸ m)
theorem HeldAt.less {H : Hp} {A : List Addr} {q : Addr} {x : V} (h : HeldAt H (q :: A) x) : HeldAt H A x := by
  obtain ⟨t, f, g, xs, e, et, ef, eg, nf, ng, tl⟩ := h
  exact ⟨t, f, g, xs, e, et, ef, eg, fun z => nf (List.mem_cons_of_mem _ z), fun z => ng (List.mem_cons_of_mem _ z), tl⟩
theorem Stay.mut {A : List Addr} {H H' : Hp} {q : Addr} {o : HO} (s : Stay A H H') (h : H q = none) : Stay A H (L2.upd H' q o) := fun b u n e => up_ne (ne_of_none e h) (s b u n e)
theorem Stay.same' {A : List Addr} {H H' H2 : Hp} (s : Stay A H H') (t : Same H' H2) : Stay A H H2 := fun b u n e => t _ _ (s b u n e)
theorem turn_end {H Y Y2 : Hp} {B : List Addr} {he f c t : Addr} {hv zs : List V} (hBv : ∀ q ∈ B, Y q ≠ none) (hmem : he ∈ B) (St : Stay [he] H Y) (eh : Y he = some (.lst hv)) (ef : Y f = some (.lst zs)) (nf : f ∉ B) (tl : ∀ y ∈ zs, Told Y y)
    (hc : Y c = none) (S : Same Y Y2) (ec : Y2 c = some (.lst zs)) (ht : Y2 t = none) :
    HeldAt (L2.upd (L2.upd Y2 t (.tup [V.ref f, V.ref c])) he (.lst (hv ++ [V.ref t]))) B (.ref t) ∧ (∀ b o, b ≠ he → Y b = some o → L2.upd (L2.upd Y2 t (.tup [V.ref f, V.ref c])) he (.lst (hv ++ [V.ref t])) b = some o) ∧
    Stay [he] H (L2.upd (L2.upd Y2 t (.tup [V.ref f, V.ref c])) he (.lst (hv ++ [V.ref t]))) := by
  have keep : ∀ b o, b ≠ he → Y b = some o → L2.upd (L2.upd Y2 t (.tup [V.ref f, V.ref c])) he (.lst (hv ++ [V.ref t])) b = some o := fun b o n e => up_ne n (up_old ht (S _ _ e))
  have st : Stay [he] Y (L2.upd (L2.upd Y2 t (.tup [V.ref f, V.ref c])) he (.lst (hv ++ [V.ref t]))) := fun b o n e => keep b o (by simpa using n) e
  have nfh : f ≠ he := fun z => nf (z ▸ hmem)
  have nch : c ≠ he := (ne_of_none eh hc).symm
  have nth : t ≠ he := (ne_of_none (S _ _ eh) ht).symm
  refine ⟨⟨t, f, c, zs, rfl, up_ne nth upd_same, keep _ _ nfh ef, up_ne nch (up_old ht ec), nf, fun z => hBv c z hc, fun y hy => (tl y hy).stay eh st⟩, keep, St.trans st⟩
theorem Stay.there {H Y : Hp} {he q : Addr} (s : Stay [he] H Y) (h : Y he ≠ none) (hq : H q ≠ none) : Y q ≠ none := by
  by_cases e : q = he
  · subst e; exact h
  · obtain ⟨o, ho⟩ := Option.ne_none_iff_exists'.mp hq
    rw [s q o (by simpa using e) ho]
    exact fun z => by cases z
theorem told_pairs {H : Hp} {xs : List V} {qs : List (Nat × Nat)} (h : PairsAt H xs qs) : ∀ y ∈ xs ++ [V.int 0], Told H y := by
  intro y hy
  rcases List.mem_append.mp hy with hy | hy
  · exact .inr ⟨_, h.all y hy⟩
  · rw [List.mem_singleton] at hy
    exact .inl ⟨0, hy⟩
theorem told_ints {H : Hp} {is : List Nat} : ∀ y ∈ msk is ++ [V.int 0], Told H y := by
  intro y hy
  rcases List.mem_append.mp hy with hy | hy
  · obtain ⟨m, _, rfl⟩ := List.mem_map.mp hy
    exact .inl ⟨_, rfl⟩
  · rw [List.mem_singleton] at hy
    exact .inl ⟨0, hy⟩
end J

/-! Joinside, law k01: two webs side by side with their accounts. -/
namespace J
open PySem PySem.Spec L2
/-- the addresses of two webs, of their accounts, of the lists that hold them -/
structure Adr where
  p : Nat → Addr
  l : Nat → Addr
  ow : Nat → Addr
  td : Nat → Addr
  wl : Addr
  ol : Addr
  he : Addr
def Adr.mut (A : Adr) : List Addr := [A.l 0, A.ow 0, A.td 0, A.l 1, A.ow 1, A.td 1, A.wl, A.ol, A.he]
structure Two (C : Addr) (H0 H : Hp) (A : Adr) (n : Nat → Nat) (R : Nat → Rel) (L : Nat → List (Nat × Nat)) (hs : List V) : Prop where
  both : ∀ b, b < 2 → Both C H (A.p b) (A.l b) (A.ow b) (A.td b) (n b) (R b) (L b)
  wl : H A.wl = some (.lst [.ref (A.p 0), .ref (A.p 1)])
  ol : H A.ol = some (.lst [.ref (A.ow 0), .ref (A.ow 1)])
  he : H A.he = some (.lst hs)
  sc : Same H0 H
  fr : ∀ q ∈ A.mut, H0 q = none
  nd : A.mut.Nodup
  held : ∀ x ∈ hs, HeldAt H A.mut x
theorem Stay.sc {B : List Addr} {H0 H H' : Hp} (s : Stay B H H') (sc : Same H0 H) (fr : ∀ q ∈ B, H0 q = none) : Same H0 H' := fun b o e => s b o (fun z => by rw [fr b z] at e; cases e) (sc b o e)
/-- a thing of the heap that is no tuple -/
def NoTup (H : Hp) (q : Addr) : Prop := ∀ xs, H q ≠ some (.tup xs)
theorem HeldAt.stayB {H H' : Hp} {A B : List Addr} {x : V} (sub : ∀ q ∈ B, q ∈ A) (nt : ∀ q ∈ B, NoTup H q) (s : Stay B H H') (h : HeldAt H A x) : HeldAt H' A x := by
  obtain ⟨t, f, g, xs, rfl, et, ef, eg, nf, ng, tl⟩ := h
  refine ⟨t, f, g, xs, rfl, s _ _ (fun z => nt t z _ et) et, s _ _ (fun z => nf (sub _ z)) ef, s _ _ (fun z => ng (sub _ z)) eg, nf, ng, fun y hy => ?_⟩
  rcases tl y hy with h | ⟨q, t', rfl, e'⟩
  · exact .inl h
  · exact .inr ⟨q, t', rfl, s _ _ (fun z => nt t' z _ e') e'⟩
theorem Both.stay {C : Addr} {H H' : Hp} {p l ow td : Addr} {n : Nat} {R : Rel} {L : List (Nat × Nat)} {B : List Addr} (s : Stay B H H') (h : Both C H p l ow td n R L) (h1 : p ∉ B) (h2 : l ∉ B) (h3 : ow ∉ B) (h4 : td ∉ B) : Both C H' p l ow td n R L := by
  obtain ⟨dx, e⟩ := h.web.ob
  exact ⟨⟨⟨dx, s _ _ h1 e⟩, s _ _ h2 h.web.li, h.web.sz⟩, ⟨s _ _ h3 h.own.ob, s _ _ h4 h.own.ti⟩, h.tell, h.sym, h.le, h.pos⟩
section
variable {C : Addr} {H0 H H' : Hp} {A : Adr} {n : Nat → Nat} {R : Nat → Rel} {L : Nat → List (Nat × Nat)} {hs : List V}
theorem Two.same (T : Two C H0 H A n R L hs) (s : Same H H') : Two C H0 H' A n R L hs :=
  ⟨fun b hb => (T.both b hb).same s, s _ _ T.wl, s _ _ T.ol, s _ _ T.he, T.sc.trans s, T.fr, T.nd, fun x hx => (T.held x hx).stayB (B := []) (fun q z => by cases z) (fun q z => by cases z) (Stay.same s)⟩
theorem Two.noTup (T : Two C H0 H A n R L hs) : ∀ q ∈ A.mut, NoTup H q := by
  intro q hq xs e
  have b0 := T.both 0 (by decide)
  have b1 := T.both 1 (by decide)
  simp only [Adr.mut, List.mem_cons, List.not_mem_nil, or_false] at hq
  rcases hq with rfl | rfl | rfl | rfl | rfl | rfl | rfl | rfl | rfl
  · rw [b0.web.li] at e; cases e
  · rw [b0.own.ob] at e; cases e
  · rw [b0.own.ti] at e; cases e
  · rw [b1.web.li] at e; cases e
  · rw [b1.own.ob] at e; cases e
  · rw [b1.own.ti] at e; cases e
  · rw [T.wl] at e; cases e
  · rw [T.ol] at e; cases e
  · rw [T.he] at e; cases e
theorem Two.noIns (T : Two C H0 H A n R L hs) {b : Nat} (hb : b < 2) : A.p b ∉ A.mut := by
  intro hq
  obtain ⟨dx, e⟩ := (T.both b hb).web.ob
  have b0 := T.both 0 (by decide)
  have b1 := T.both 1 (by decide)
  generalize A.p b = q at hq e
  simp only [Adr.mut, List.mem_cons, List.not_mem_nil, or_false] at hq
  rcases hq with rfl | rfl | rfl | rfl | rfl | rfl | rfl | rfl | rfl
  · rw [b0.web.li] at e; cases e
  · rw [b0.own.ob] at e; cases e
  · rw [b0.own.ti] at e; cases e
  · rw [b1.web.li] at e; cases e
  · rw [b1.own.ob] at e; cases e
  · rw [b1.own.ti] at e; cases e
  · rw [T.wl] at e; cases e
  · rw [T.ol] at e; cases e
  · rw [T.he] at e; cases e
/-- a deed on web b -/
theorem Two.deed (T : Two C H0 H A n R L hs) {b : Nat} (hb : b < 2) {n' : Nat} {R' : Rel} {L' : List (Nat × Nat)} (s : Stay [A.l b, A.ow b, A.td b] H H') (B' : Both C H' (A.p b) (A.l b) (A.ow b) (A.td b) n' R' L') :
    Two C H0 H' A (fun c => if c = b then n' else n c) (fun c => if c = b then R' else R c) (fun c => if c = b then L' else L c) hs := by
  have nd := T.nd
  simp only [Adr.mut, List.nodup_cons, List.mem_cons, List.not_mem_nil, or_false, not_or, List.nodup_nil, and_true, not_false_eq_true] at nd
  have sub : ∀ q ∈ [A.l b, A.ow b, A.td b], q ∈ A.mut := by
    intro q hq
    simp only [List.mem_cons, List.not_mem_nil, or_false] at hq
    have : b = 0 ∨ b = 1 := by omega
    rcases this with rfl | rfl <;> rcases hq with rfl | rfl | rfl <;> simp [Adr.mut]
  have wl : A.wl ∉ [A.l b, A.ow b, A.td b] := by
    have : b = 0 ∨ b = 1 := by omega
    simp only [List.mem_cons, List.not_mem_nil, or_false, not_or]
    rcases this with rfl | rfl <;> refine ⟨?_, ?_, ?_⟩ <;> (intro z; simp [z] at nd)
  have ol : A.ol ∉ [A.l b, A.ow b, A.td b] := by
    have : b = 0 ∨ b = 1 := by omega
    simp only [List.mem_cons, List.not_mem_nil, or_false, not_or]
    rcases this with rfl | rfl <;> refine ⟨?_, ?_, ?_⟩ <;> (intro z; simp [z] at nd)
  have he : A.he ∉ [A.l b, A.ow b, A.td b] := by
    have : b = 0 ∨ b = 1 := by omega
    simp only [List.mem_cons, List.not_mem_nil, or_false, not_or]
    rcases this with rfl | rfl <;> refine ⟨?_, ?_, ?_⟩ <;> (intro z; simp [z] at nd)
  refine ⟨fun c hc => ?_, s _ _ wl T.wl, s _ _ ol T.ol, s _ _ he T.he, s.sc T.sc fun q hq => T.fr q (sub q hq), T.fr, T.nd, fun x hx => (T.held x hx).stayB sub (fun q hq => T.noTup q (sub q hq)) s⟩
  by_cases e : c = b
  · subst e
    simp only [if_true]
    exact B'
  · simp only [e, if_false]
    refine (T.both c hc).stay s (fun z => T.noIns hc (sub _ z)) ?_ ?_ ?_
    all_goals
      have : (b = 0 ∧ c = 1) ∨ (b = 1 ∧ c = 0) := by omega
      simp only [List.mem_cons, List.not_mem_nil, or_false, not_or]
      rcases this with ⟨rfl, rfl⟩ | ⟨rfl, rfl⟩ <;> refine ⟨?_, ?_, ?_⟩ <;> (intro z; simp [z] at nd)
/-- something held more -/
theorem Two.more (T : Two C H0 H A n R L hs) {hs' : List V} (s : Stay [A.he] H H') (e : H' A.he = some (.lst hs')) (hh : ∀ x ∈ hs', HeldAt H' A.mut x) : Two C H0 H' A n R L hs' := by
  have nd := T.nd
  simp only [Adr.mut, List.nodup_cons, List.mem_cons, List.not_mem_nil, or_false, not_or, List.nodup_nil, and_true, not_false_eq_true] at nd
  have hm : A.he ∈ A.mut := by simp [Adr.mut]
  have ne : ∀ q, q ≠ A.he → q ∉ [A.he] := fun q h z => h (List.mem_singleton.mp z)
  refine ⟨fun c hc => ?_, s _ _ (ne _ ?_) T.wl, s _ _ (ne _ ?_) T.ol, e, s.sc T.sc (fun q hq => by rw [List.mem_singleton] at hq; subst hq; exact T.fr _ hm), T.fr, T.nd, hh⟩
  · refine (T.both c hc).stay s (ne _ fun z => T.noIns hc (z ▸ hm)) (ne _ ?_) (ne _ ?_) (ne _ ?_)
    all_goals
      have : c = 0 ∨ c = 1 := by omega
      rcases this with rfl | rfl <;> (intro z; simp [z] at nd)
  · intro z; simp [z] at nd
  · intro z; simp [z] at nd
theorem Two.heL (T : Two C H0 H A n R L hs) {b : Nat} (hb : b < 2) : A.he ≠ A.l b := by
  have nd := T.nd
  simp only [Adr.mut, List.nodup_cons, List.mem_cons, List.not_mem_nil, or_false, not_or, List.nodup_nil, and_true, not_false_eq_true] at nd
  have : b = 0 ∨ b = 1 := by omega
  rcases this with rfl | rfl <;> (intro z; simp [z] at nd)
end
theorem own_merge (n : Nat) (td : Addr) : mergeK [] (ownK n td) = ownK n td := by
  have ne : ((.inr "many" : Key) = .inr "ties") = False := by
    apply propext
    exact ⟨key_ne, False.elim⟩
  unfold mergeK ownK
  simp [putK, ne]
theorem s_dnewT {σ : Sl} {H : Hp} {Q : VK} (q : ∀ p, H p = none → Q (.ref p) (upd H p (.dT []))) : tDNewT σ H Q := q
theorem s_ownNew {σ : Sl} {H : Hp} {Q : VK} {n i : Nat} (hv : σ[i]? = some (some (.int n))) (q : ∀ ow td H', H ow = none → H td = none → Same H H' → OwnAt H' ow td n [] → Q (.ref ow) H') : tDisp [(tC (.str "many"), tVar i), (tC (.str "ties"), tDNewT)] σ H Q := by
  intro p hp
  refine ⟨.int n, hv, fun td htd => ?_⟩
  have n1 : p ≠ td := ne_of_none upd_same htd
  refine ⟨up_ne n1 upd_same, ownK n td, rfl, by show 2 ≤ 15; decide, ?_⟩
  rw [own_merge]
  refine q p td _ hp (free_of htd) ?_ ⟨upd_same, up_ne n1.symm upd_same⟩
  exact Same.mut ((Same.new hp).trans (Same.new htd)) hp
def setAt (f : Nat → Nat) (i x : Nat) : Nat → Nat := fun b => if b = i then x else f b
theorem setAt_eq (f : Nat → Nat) (i x : Nat) : setAt f i x i = x := if_pos rfl
theorem setAt_ne {f : Nat → Nat} {i x b : Nat} (h : b ≠ i) : setAt f i x b = f b := if_neg h
theorem map_setAt {β : Type} (g : Nat → β) (f : Nat → Nat) (i x : Nat) : ((List.range (i + 1)).map fun b => g (setAt f i x b)) = ((List.range i).map fun b => g (f b)) ++ [g x] := by
  rw [List.range_succ, List.map_append]
  congr 1
  · apply List.map_congr_left
    intro b hb
    rw [setAt_ne (Nat.ne_of_lt (List.mem_range.mp hb))]
  · simp [setAt_eq]
theorem nd_setAt {L O T : Nat → Nat} {i l o t : Nat} {xs : List Nat} (nd : (xs ++ (List.range i).flatMap fun b => [L b, O b, T b]).Nodup) (hl : l ∉ xs ++ (List.range i).flatMap fun b => [L b, O b, T b]) (ho : o ∉ xs ++ (List.range i).flatMap fun b => [L b, O b, T b]) (ht : t ∉ xs ++ (List.range i).flatMap fun b => [L b, O b, T b])
    (n1 : l ≠ o) (n2 : l ≠ t) (n3 : o ≠ t) : (xs ++ (List.range (i + 1)).flatMap fun b => [setAt L i l b, setAt O i o b, setAt T i t b]).Nodup := by
  have e : ((List.range (i + 1)).flatMap fun b => [setAt L i l b, setAt O i o b, setAt T i t b]) = ((List.range i).flatMap fun b => [L b, O b, T b]) ++ [l, o, t] := by
    rw [List.range_succ, List.flatMap_append]
    congr 1
    · rw [List.flatMap_def, List.flatMap_def]
      congr 1
      apply List.map_congr_left
      intro b hb
      have := Nat.ne_of_lt (List.mem_range.mp hb)
      rw [setAt_ne this, setAt_ne this, setAt_ne this]
    · simp [setAt_eq]
  rw [e, ← List.append_assoc, List.nodup_append]
  refine ⟨nd, by simp [n1, n2, n3], fun a ha b hb z => ?_⟩
  subst z
  simp only [List.mem_cons, List.not_mem_nil, or_false] at hb
  rcases hb with rfl | rfl | rfl
  · exact hl ha
  · exact ho ha
  · exact ht ha
theorem two_at (f : Nat → Addr) {b : Nat} (hb : b < 2) : ([V.ref (f 0), V.ref (f 1)] : List V)[b]? = some (V.ref (f b)) := by
  have : b = 0 ∨ b = 1 := by omega
  rcases this with rfl | rfl <;> rfl
theorem which_is (p : Prop) [Decidable p] : ∃ b : Nat, b < 2 ∧ (if decide p = true then (1 : Int) else 0) = (b : Int) := by
  by_cases h : p
  · exact ⟨1, by decide, by rw [decide_eq_true h]; rfl⟩
  · exact ⟨0, by decide, by rw [decide_eq_false h]; rfl⟩
theorem Th.stay {K : PySem.W.Frag} {H H' : Hp} {B : List Addr} {x : V} {m : String} (nt : ∀ q, x = .ref q → q ∉ B) (s : Stay B H H') (h : Th K H x m) : Th K H' x m := by
  cases h with
  | non => exact .non
  | bl b => exact .bl b
  | int i => exact .int i
  | str x => exact .str x
  | lst e => exact .lst (s _ _ (nt _ rfl) e)
  | frz e => exact .frz (s _ _ (nt _ rfl) e)
  | tup e => exact .tup (s _ _ (nt _ rfl) e)
  | dK e => exact .dK (s _ _ (nt _ rfl) e)
  | dT e => exact .dT (s _ _ (nt _ rfl) e)
theorem Two.there {C : Addr} {H0 H : Hp} {A : Adr} {n : Nat → Nat} {R : Nat → Rel} {L : Nat → List (Nat × Nat)} {hs : List V} (T : Two C H0 H A n R L hs) : ∀ q ∈ A.mut, H q ≠ none := by
  intro q hq e
  have b0 := T.both 0 (by decide)
  have b1 := T.both 1 (by decide)
  simp only [Adr.mut, List.mem_cons, List.not_mem_nil, or_false] at hq
  rcases hq with rfl | rfl | rfl | rfl | rfl | rfl | rfl | rfl | rfl
  · rw [b0.web.li] at e; cases e
  · rw [b0.own.ob] at e; cases e
  · rw [b0.own.ti] at e; cases e
  · rw [b1.web.li] at e; cases e
  · rw [b1.own.ob] at e; cases e
  · rw [b1.own.ti] at e; cases e
  · rw [T.wl] at e; cases e
  · rw [T.ol] at e; cases e
  · rw [T.he] at e; cases e
/-! ### what is held is the same -/
theorem told_dp {K : PySem.W.Frag} {H : Hp} {x : V} (h : Told H x) : ∃ d, Dp K H x d ∧ d.canLay0 = true ∧ d.depth ≤ 1 := by
  rcases h with ⟨i, rfl⟩ | ⟨q, hq⟩
  · exact ⟨.int i, .int i, rfl, by simp only [PyData.depth]; omega⟩
  · exact ⟨pairD q, hq.dp, rfl, by simp only [pairD, PyData.depth, PyData.depthAll]; omega⟩
theorem Told.same {H H' : Hp} {x : V} (s : Same H H') (h : Told H x) : Told H' x := by
  rcases h with h | ⟨q, h⟩
  · exact .inl h
  · exact .inr ⟨q, h.same s⟩
theorem told_all {K : PySem.W.Frag} {H : Hp} : ∀ xs : List V, (∀ y ∈ xs, Told H y) → ∃ ds, DpAll K H xs ds ∧ PyData.canLayAll0 ds = true ∧ PyData.depthAll ds ≤ 1
  | [], _ => ⟨[], .nil, rfl, by decide⟩
  | x :: xs, h => by
    obtain ⟨ds, h1, h2, h3⟩ := told_all xs fun y hy => h y (List.mem_cons_of_mem _ hy)
    obtain ⟨d, e1, e2, e3⟩ := told_dp (K := K) (h x List.mem_cons_self)
    refine ⟨d :: ds, .cons e1 h1, ?_, ?_⟩
    · simp only [PyData.canLayAll0, e2, h2, Bool.and_self]
    · simp only [PyData.depthAll]; omega
theorem held_ne {K : PySem.W.Frag} {H : Hp} {Q : VK} {f g : Addr} {xs : List V} (ef : H f = some (.lst xs)) (eg : H g = some (.lst xs)) (tl : ∀ y ∈ xs, Told H y) (q : Q (.bl false) H) : rNeA K (.ref f) (.ref g) H Q := by
  obtain ⟨ds, h1, h2, h3⟩ := told_all (K := K) xs tl
  have sh : SeqAt.shaped (.list ds) = true := by
    unfold SeqAt.shaped
    rw [Bool.and_eq_true]
    exact ⟨h2, decide_eq_true (by simp only [PyData.depth]; omega)⟩
  refine s_neD (.lst (SqL.of ef) h1) (.lst (SqL.of eg) h1) sh sh ?_
  rw [show PyData.eqv (.list ds) (.list ds) = true from SeqAt.eqv_refl _ (SeqAt.canLay_of_shaped sh)]
  exact q
end J

/-! Joinside: the classes of trees. -/
namespace J
open PySem PySem.Spec L2
/-- the classes -/
structure TC where
  P : Addr
  S : Addr
  J : Addr
def TC.cl (X : TC) (j : Bool) : Addr := if j = true then X.J else X.S
end J

/-! Joinside, trees: told ones, made ones, in the heap. -/
namespace J
open PySem PySem.Spec L2
inductive Tr where
  | pt (n : Nat)
  | nd (j : Bool) (ps : List Tr)
theorem Tr.ind {p : Tr → Prop} (h1 : ∀ n, p (.pt n)) (h2 : ∀ j ps, (∀ t ∈ ps, p t) → p (.nd j ps)) : ∀ t, p t
  | .pt n => h1 n
  | .nd j ps => h2 j ps fun t ht => Tr.ind h1 h2 t
termination_by t => sizeOf t
decreasing_by
  have := List.sizeOf_lt_of_mem ht
  simp only [Tr.nd.sizeOf_spec]
  omega
mutual
/-- the points, as they are told -/
def Tr.pts : Tr → List Nat
  | .pt n => [n]
  | .nd _ ps => ptsL ps
def ptsL : List Tr → List Nat
  | [] => []
  | p :: ps => p.pts ++ ptsL ps
end
mutual
def Tr.dep : Tr → Nat
  | .pt _ => 0
  | .nd _ ps => depL ps + 1
def depL : List Tr → Nat
  | [] => 0
  | p :: ps => max p.dep (depL ps)
end
def wd (j : Bool) : Str := if j = true then "join" else "side"
def Tr.word : Tr → Str
  | .pt _ => ""
  | .nd j _ => wd j
mutual
def Tr.turn : Tr → Tr
  | .pt n => .pt n
  | .nd j ps => .nd (!j) (turnL ps)
def turnL : List Tr → List Tr
  | [] => []
  | p :: ps => p.turn :: turnL ps
end
mutual
/-- which points are tied -/
def Tr.rel : Tr → Rel
  | .pt _ => fun _ _ => false
  | .nd j ps => relL j ps
def relL (j : Bool) : List Tr → Rel
  | [] => fun _ _ => false
  | p :: ps => fun a b => p.rel a b || relL j ps a b || (j && ((decide (a ∈ p.pts) && decide (b ∈ ptsL ps)) || (decide (b ∈ p.pts) && decide (a ∈ ptsL ps))))
end
def Tr.least (t : Tr) : Nat := t.pts.headD 0
mutual
/-- told as the document says -/
def Tr.Good : Tr → Prop
  | .pt n => n < 30
  | .nd j ps => 2 ≤ ps.length ∧ GoodL j ps ∧ (ptsL ps).Nodup ∧ (ps.map Tr.least).Pairwise (· < ·)
def GoodL (j : Bool) : List Tr → Prop
  | [] => True
  | p :: ps => (p.Good ∧ p.word ≠ wd j) ∧ GoodL j ps
end
mutual
/-- the told tree as data -/
def Tr.data : Tr → PyData
  | .pt n => .int n
  | .nd j ps => .tuple [.str (wd j), .tuple (dataL ps)]
def dataL : List Tr → List PyData
  | [] => []
  | p :: ps => p.data :: dataL ps
end
theorem ptsL_eq : ∀ ps : List Tr, ptsL ps = ps.flatMap Tr.pts
  | [] => rfl
  | p :: ps => by rw [ptsL, ptsL_eq ps, List.flatMap_cons]
theorem turnL_eq : ∀ ps : List Tr, turnL ps = ps.map Tr.turn
  | [] => rfl
  | p :: ps => by rw [turnL, turnL_eq ps, List.map_cons]
theorem dataL_eq : ∀ ps : List Tr, dataL ps = ps.map Tr.data
  | [] => rfl
  | p :: ps => by rw [dataL, dataL_eq ps, List.map_cons]
theorem goodL_iff {j : Bool} : ∀ {ps : List Tr}, GoodL j ps ↔ ∀ p ∈ ps, p.Good ∧ p.word ≠ wd j
  | [] => by simp [GoodL]
  | p :: ps => by rw [GoodL, goodL_iff (ps := ps)]; simp
theorem dep_mem {t : Tr} : ∀ {ps : List Tr}, t ∈ ps → t.dep ≤ depL ps
  | p :: ps, h => by
    rw [depL]
    rcases List.mem_cons.mp h with rfl | h
    · exact Nat.le_max_left _ _
    · exact Nat.le_trans (dep_mem h) (Nat.le_max_right _ _)
theorem depL_le {d : Nat} : ∀ {ps : List Tr}, (∀ t ∈ ps, t.dep ≤ d) → depL ps ≤ d
  | [], _ => by rw [depL]; exact Nat.zero_le _
  | p :: ps, h => by
    rw [depL]
    exact Nat.max_le.mpr ⟨h p List.mem_cons_self, depL_le fun t ht => h t (List.mem_cons_of_mem _ ht)⟩
theorem mem_ptsL {x : Nat} {ps : List Tr} : x ∈ ptsL ps ↔ ∃ p ∈ ps, x ∈ p.pts := by rw [ptsL_eq, List.mem_flatMap]
theorem Tr.pts_ne {t : Tr} : t.Good → t.pts ≠ [] := by
  refine Tr.ind (p := fun t => t.Good → t.pts ≠ []) (fun n _ => by simp [Tr.pts]) (fun j ps ih g => ?_) t
  rw [Tr.Good] at g
  obtain ⟨h1, h2, _, _⟩ := g
  match ps, h1 with
  | p :: ps, _ =>
    rw [Tr.pts, ptsL]
    have := ih p List.mem_cons_self ((goodL_iff.mp h2) p List.mem_cons_self).1
    intro z
    exact this (List.append_eq_nil_iff.mp z).1
theorem good_part {j : Bool} {ps : List Tr} (g : (Tr.nd j ps).Good) {p : Tr} (h : p ∈ ps) : p.Good ∧ p.word ≠ wd j := by
  rw [Tr.Good] at g
  exact goodL_iff.mp g.2.1 p h
theorem nodup_part {p : Tr} : ∀ {ps : List Tr}, (ptsL ps).Nodup → p ∈ ps → p.pts.Nodup
  | q :: ps, nd, h => by
    rw [ptsL, List.nodup_append] at nd
    rcases List.mem_cons.mp h with rfl | h
    · exact nd.1
    · exact nodup_part nd.2.1 h
theorem Tr.nodup {t : Tr} (g : t.Good) : t.pts.Nodup := by
  cases t with
  | pt n => simp [Tr.pts]
  | nd j ps => rw [Tr.Good] at g; exact g.2.2.1
theorem Tr.lt {t : Tr} : t.Good → ∀ x ∈ t.pts, x < 30 := by
  refine Tr.ind (p := fun t => t.Good → ∀ x ∈ t.pts, x < 30) (fun n g x hx => ?_) (fun j ps ih g x hx => ?_) t
  · rw [Tr.Good] at g
    rw [Tr.pts, List.mem_singleton] at hx
    omega
  · rw [Tr.pts] at hx
    obtain ⟨p, hp, hx⟩ := mem_ptsL.mp hx
    exact ih p hp (good_part g hp).1 x hx
theorem Tr.size {t : Tr} (g : t.Good) : t.pts.length ≤ 30 := pts_le (n := 30) (Tr.nodup g) (Tr.lt g)
theorem parts_le {j : Bool} {ps : List Tr} (g : (Tr.nd j ps).Good) : ps.length ≤ (ptsL ps).length := by
  have : ∀ qs : List Tr, (∀ p ∈ qs, p.Good) → qs.length ≤ (ptsL qs).length := by
    intro qs
    induction qs with
    | nil => intro _; exact Nat.zero_le _
    | cons p qs ih =>
      intro h
      have h1 := ih fun q hq => h q (List.mem_cons_of_mem _ hq)
      have h2 := List.length_pos_iff.mpr (Tr.pts_ne (h p List.mem_cons_self))
      rw [ptsL, List.length_append, List.length_cons]
      omega
  exact this ps fun p hp => (good_part g hp).1
theorem parts_30 {j : Bool} {ps : List Tr} (g : (Tr.nd j ps).Good) : ps.length ≤ 30 := Nat.le_trans (parts_le g) (Tr.size g)
/-- the points of one part are fewer than those of all -/
theorem Tr.dep_lt {t : Tr} : t.Good → t.dep < t.pts.length := by
  refine Tr.ind (p := fun t => t.Good → t.dep < t.pts.length) (fun n _ => by simp [Tr.pts, Tr.dep]) (fun j ps ih g => ?_) t
  rw [Tr.dep, Tr.pts]
  have g' := g
  rw [Tr.Good] at g'
  have key : ∀ p ∈ ps, p.pts.length < (ptsL ps).length := by
    have : ∀ qs : List Tr, (∀ p ∈ qs, p.Good) → ∀ p ∈ qs, p.pts.length + qs.length ≤ (ptsL qs).length + 1 := by
      intro qs
      induction qs with
      | nil => intro _ p hp; cases hp
      | cons q qs ih2 =>
        intro h p hp
        have hq := List.length_pos_iff.mpr (Tr.pts_ne (h q List.mem_cons_self))
        have hqs : ∀ r ∈ qs, r.Good := fun r hr => h r (List.mem_cons_of_mem _ hr)
        rw [ptsL, List.length_append, List.length_cons]
        rcases List.mem_cons.mp hp with rfl | hp
        · have : qs.length ≤ (ptsL qs).length := by
            clear ih2 hp h g g' ih hq
            induction qs with
            | nil => exact Nat.zero_le _
            | cons r rs ih3 =>
              have h1 := ih3 fun q hq => hqs q (List.mem_cons_of_mem _ hq)
              have h2 := List.length_pos_iff.mpr (Tr.pts_ne (hqs r List.mem_cons_self))
              rw [ptsL, List.length_append, List.length_cons]
              omega
          omega
        · have := ih2 hqs p hp
          omega
    intro p hp
    have := this ps (fun q hq => (good_part g hq).1) p hp
    omega
  have : depL ps ≤ (ptsL ps).length - 2 := depL_le fun p hp => by
    have h1 := ih p hp (good_part g hp).1
    have h2 := key p hp
    omega
  have h3 : 2 ≤ (ptsL ps).length := Nat.le_trans g'.1 (parts_le g)
  omega
theorem Tr.dep_29 {t : Tr} (g : t.Good) : t.dep ≤ 29 := by
  have := Tr.dep_lt g
  have := Tr.size g
  omega
/-! ### least points -/
theorem headD_app {xs ys : List Nat} (h : xs ≠ []) : (xs ++ ys).headD 0 = xs.headD 0 := by
  cases xs with
  | nil => exact absurd rfl h
  | cons x xs => rfl
theorem headD_mem {xs : List Nat} (h : xs ≠ []) : xs.headD 0 ∈ xs := by
  cases xs with
  | nil => exact absurd rfl h
  | cons x xs => exact List.mem_cons_self
theorem Tr.least_mem {t : Tr} (g : t.Good) : t.least ∈ t.pts := headD_mem (Tr.pts_ne g)
theorem Tr.least_le {t : Tr} : t.Good → ∀ x ∈ t.pts, t.least ≤ x := by
  refine Tr.ind (p := fun t => t.Good → ∀ x ∈ t.pts, t.least ≤ x) (fun n g x hx => ?_) (fun j ps ih g x hx => ?_) t
  · rw [Tr.pts, List.mem_singleton] at hx
    subst hx
    exact Nat.le_refl _
  · have g' := g
    rw [Tr.Good] at g'
    obtain ⟨h2, _, _, hp⟩ := g'
    match ps, h2 with
    | p :: ps, _ =>
      have gp := (good_part g (p := p) List.mem_cons_self).1
      have e : (Tr.nd j (p :: ps)).least = p.least := by
        unfold Tr.least
        rw [Tr.pts, ptsL, headD_app (Tr.pts_ne gp)]
      rw [e]
      rw [Tr.pts] at hx
      obtain ⟨q, hq, hx⟩ := mem_ptsL.mp hx
      have hle := ih q hq (good_part g hq).1 x hx
      rcases List.mem_cons.mp hq with rfl | hq
      · exact hle
      · rw [List.map_cons, List.pairwise_cons] at hp
        have := hp.1 _ (List.mem_map.mpr ⟨q, hq, rfl⟩)
        omega
/-- the points in order -/
def Tr.srt (t : Tr) : List Nat := (List.range 30).filter fun x => decide (x ∈ t.pts)
theorem Tr.srt_perm {t : Tr} (g : t.Good) : t.pts.Perm t.srt := by
  refine perm_of (Tr.nodup g) (List.nodup_range.sublist List.filter_sublist) fun x => ?_
  unfold Tr.srt
  rw [List.mem_filter, List.mem_range, decide_eq_true_eq]
  exact ⟨fun h => ⟨Tr.lt g x h, h⟩, fun h => h.2⟩
theorem Tr.srt_le (t : Tr) : t.srt.Pairwise (· ≤ ·) := filt_le
theorem Tr.srt_lt (t : Tr) : t.srt.Pairwise (· < ·) := List.pairwise_lt_range.filter _
theorem Tr.srt_len {t : Tr} (g : t.Good) : t.srt.length = t.pts.length := (Tr.srt_perm g).length_eq.symm
theorem Tr.mem_srt {t : Tr} (g : t.Good) {x : Nat} : x ∈ t.srt ↔ x ∈ t.pts := (Tr.srt_perm g).mem_iff.symm
theorem srt_pt {n : Nat} (h : n < 30) : (Tr.pt n).srt = [n] := by
  refine (List.Perm.eq_of_pairwise (le := (· ≤ ·)) (fun a b _ _ h1 h2 => Nat.le_antisymm h1 h2) ?_ (Tr.srt_le _) (Tr.srt_perm (t := .pt n) (by rw [Tr.Good]; exact h))).symm
  rw [Tr.pts]
  exact List.pairwise_singleton _ _
theorem Tr.srt_head {t : Tr} (g : t.Good) : t.srt[0]? = some t.least := by
  cases e : t.srt with
  | nil => exact absurd (Tr.mem_srt g |>.mpr (Tr.least_mem g)) (by rw [e]; simp)
  | cons x xs =>
    have hx : x ∈ t.pts := Tr.mem_srt g |>.mp (by rw [e]; simp)
    have h1 := Tr.least_le g x hx
    have hl : t.least ∈ t.srt := Tr.mem_srt g |>.mpr (Tr.least_mem g)
    have hs := Tr.srt_le t
    rw [e] at hl hs
    rcases List.mem_cons.mp hl with h | h
    · simp [h]
    · have := (List.pairwise_cons.mp hs).1 _ h
      simp
      omega
/-! ### turned -/
theorem turn_pts {t : Tr} : t.turn.pts = t.pts := by
  refine Tr.ind (p := fun t => t.turn.pts = t.pts) (fun n => rfl) (fun j ps ih => ?_) t
  rw [Tr.turn, Tr.pts, Tr.pts, turnL_eq, ptsL_eq, ptsL_eq, List.flatMap_def, List.flatMap_def, List.map_map]
  congr 1
  exact List.map_congr_left fun p hp => ih p hp
theorem turn_least {t : Tr} : t.turn.least = t.least := by unfold Tr.least; rw [turn_pts]
theorem turn_turn {t : Tr} : t.turn.turn = t := by
  refine Tr.ind (p := fun t => t.turn.turn = t) (fun n => rfl) (fun j ps ih => ?_) t
  rw [Tr.turn, Tr.turn, Bool.not_not, turnL_eq, turnL_eq, List.map_map]
  congr 1
  conv => rhs; rw [← List.map_id ps]
  exact List.map_congr_left fun p hp => ih p hp
theorem wd_inj {a b : Bool} (h : wd a = wd b) : a = b := by
  cases a <;> cases b <;> first | rfl | exact absurd h (by decide +kernel)
theorem wd_ne (a : Bool) : wd a ≠ "" := by cases a <;> decide +kernel
theorem word_turn {t : Tr} {j : Bool} (h : t.word ≠ wd j) : t.turn.word ≠ wd (!j) := by
  cases t with
  | pt n => exact fun z => wd_ne _ z.symm
  | nd k ps =>
    rw [Tr.turn]
    intro z
    have := wd_inj z
    apply h
    rw [Tr.word]
    cases k <;> cases j <;> simp_all
theorem turn_good {t : Tr} : t.Good → t.turn.Good := by
  refine Tr.ind (p := fun t => t.Good → t.turn.Good) (fun n g => g) (fun j ps ih g => ?_) t
  have g' := g
  rw [Tr.Good] at g'
  obtain ⟨h1, h2, h3, h4⟩ := g'
  rw [Tr.turn, turnL_eq, Tr.Good]
  refine ⟨by rw [List.length_map]; exact h1, goodL_iff.mpr ?_, ?_, ?_⟩
  · intro q hq
    obtain ⟨p, hp, rfl⟩ := List.mem_map.mp hq
    exact ⟨ih p hp (good_part g hp).1, word_turn (good_part g hp).2⟩
  · have := turn_pts (t := .nd j ps)
    rw [Tr.turn, Tr.pts, Tr.pts, turnL_eq] at this
    rw [this]
    exact h3
  · rw [List.map_map, show (Tr.least ∘ Tr.turn) = Tr.least from funext fun t => turn_least]
    exact h4
theorem turn_dep {t : Tr} : t.turn.dep = t.dep := by
  refine Tr.ind (p := fun t => t.turn.dep = t.dep) (fun n => rfl) (fun j ps ih => ?_) t
  rw [Tr.turn, Tr.dep, Tr.dep]
  congr 1
  have : ∀ qs : List Tr, (∀ p ∈ qs, p.turn.dep = p.dep) → depL (turnL qs) = depL qs := by
    intro qs
    induction qs with
    | nil => intro _; rfl
    | cons q qs ih2 =>
      intro h
      rw [turnL, depL, depL, h q List.mem_cons_self, ih2 fun p hp => h p (List.mem_cons_of_mem _ hp)]
  exact this ps ih
/-! ### as data -/
theorem wd_data (j : Bool) : PyData.showable (.str (wd j)) = true ∧ PyData.canLay0 (.str (wd j)) = true := by cases j <;> exact ⟨rfl, by decide +kernel⟩
theorem data_dep {t : Tr} : t.data.depth ≤ 2 * t.dep := by
  refine Tr.ind (p := fun t => t.data.depth ≤ 2 * t.dep) (fun n => by simp [Tr.data, PyData.depth]) (fun j ps ih => ?_) t
  have : ∀ qs : List Tr, (∀ p ∈ qs, p.data.depth ≤ 2 * p.dep) → PyData.depthAll (dataL qs) ≤ 2 * depL qs := by
    intro qs
    induction qs with
    | nil => intro _; simp [dataL, PyData.depthAll]
    | cons q qs ih2 =>
      intro h
      have h1 := h q List.mem_cons_self
      have h2 := ih2 fun p hp => h p (List.mem_cons_of_mem _ hp)
      rw [dataL, PyData.depthAll, depL]
      omega
  have := this ps ih
  rw [Tr.data, Tr.dep]
  simp only [PyData.depth, PyData.depthAll]
  omega
theorem data_lay {t : Tr} : t.data.canLay0 = true := by
  refine Tr.ind (p := fun t => t.data.canLay0 = true) (fun n => rfl) (fun j ps ih => ?_) t
  have : ∀ qs : List Tr, (∀ p ∈ qs, p.data.canLay0 = true) → PyData.canLayAll0 (dataL qs) = true := by
    intro qs
    induction qs with
    | nil => intro _; rfl
    | cons q qs ih2 =>
      intro h
      rw [dataL, PyData.canLayAll0, h q List.mem_cons_self, ih2 fun p hp => h p (List.mem_cons_of_mem _ hp)]
      rfl
  rw [Tr.data]
  simp only [PyData.canLay0, PyData.canLayAll0, this ps ih, Bool.and_true]
  exact (wd_data j).2
theorem data_shaped {t : Tr} (g : t.Good) : SeqAt.shaped t.data = true := by
  unfold SeqAt.shaped
  rw [Bool.and_eq_true]
  have := data_dep (t := t)
  have := Tr.dep_29 g
  exact ⟨data_lay, decide_eq_true (by omega)⟩
theorem wd_small (j : Bool) : PyData.leavesShort 13 (.str (wd j)) = true ∧ PyData.weight (.str (wd j)) ≤ 4 := by cases j <;> exact ⟨by decide +kernel, by decide +kernel⟩
/-- a tree's text is short -/
theorem data_show {t : Tr} : t.Good → PyData.leavesShort 13 t.data = true ∧ PyData.weight t.data + 8 ≤ 31 * t.pts.length ∧ PyData.showable t.data = true := by
  refine Tr.ind (p := fun t => t.Good → PyData.leavesShort 13 t.data = true ∧ PyData.weight t.data + 8 ≤ 31 * t.pts.length ∧ PyData.showable t.data = true) (fun n g => ?_) (fun j ps ih g => ?_) t
  · rw [Tr.Good] at g
    obtain ⟨h1, h2, h3⟩ := small_int (i := n) (by omega)
    refine ⟨h1, ?_, h3⟩
    rw [Tr.data, Tr.pts, List.length_singleton]
    omega
  · have key : ∀ qs : List Tr, (∀ p ∈ qs, PyData.leavesShort 13 p.data = true ∧ PyData.weight p.data + 8 ≤ 31 * p.pts.length ∧ PyData.showable p.data = true) → PyData.leavesShortAll 13 (dataL qs) = true ∧ PyData.weightAll (dataL qs) + 7 * qs.length ≤ 31 * (ptsL qs).length ∧ PyData.showableAll (dataL qs) = true := by
      intro qs
      induction qs with
      | nil => intro _; exact ⟨rfl, by simp [dataL, PyData.weightAll, ptsL], rfl⟩
      | cons q qs ih2 =>
        intro h
        obtain ⟨a1, a2, a3⟩ := h q List.mem_cons_self
        obtain ⟨b1, b2, b3⟩ := ih2 fun p hp => h p (List.mem_cons_of_mem _ hp)
        refine ⟨?_, ?_, ?_⟩
        · rw [dataL, PyData.leavesShortAll, a1, b1]; rfl
        · rw [dataL, PyData.weightAll, ptsL, List.length_append, List.length_cons]
          omega
        · rw [dataL, PyData.showableAll, a3, b3]; rfl
    obtain ⟨k1, k2, k3⟩ := key ps fun p hp => ih p hp (good_part g hp).1
    rw [Tr.Good] at g
    obtain ⟨w1, w2⟩ := wd_small j
    refine ⟨?_, ?_, ?_⟩
    · rw [Tr.data, PyData.leavesShort, PyData.leavesShortAll, w1, PyData.leavesShortAll, PyData.leavesShort, k1]; rfl
    · rw [Tr.data, PyData.weight, PyData.weightAll, PyData.weightAll, PyData.weightAll, Tr.pts]
      have e : PyData.weight (.tuple (dataL ps)) = PyData.weightAll (dataL ps) := by rw [PyData.weight]
      rw [e]
      omega
    · simp only [Tr.data, PyData.showable, PyData.showableAll, k3, Bool.and_self]
theorem srts_perm {j : Bool} {ps : List Tr} (g : (Tr.nd j ps).Good) : (ps.flatMap Tr.srt).Perm (Tr.nd j ps).srt := by
  refine List.Perm.trans ?_ (Tr.srt_perm g)
  rw [Tr.pts, ptsL_eq]
  have : ∀ qs : List Tr, (∀ q ∈ qs, q.Good) → (qs.flatMap Tr.srt).Perm (qs.flatMap Tr.pts) := by
    intro qs
    induction qs with
    | nil => intro _; exact .refl _
    | cons q qs ih =>
      intro h
      rw [List.flatMap_cons, List.flatMap_cons]
      exact (Tr.srt_perm (h q List.mem_cons_self)).symm.append (ih fun p hp => h p (List.mem_cons_of_mem _ hp))
  exact this ps fun p hp => (good_part g hp).1
theorem flat_take {f : Tr → List Nat} {ps : List Tr} {i : Nat} {p : Tr} (h : ps[i]? = some p) : (ps.take (i + 1)).flatMap f = (ps.take i).flatMap f ++ f p := by
  rw [List.take_add_one, h]
  simp
theorem flat_len {f : Tr → List Nat} {c : Nat} : ∀ {ps : List Tr}, (∀ p ∈ ps, (f p).length ≤ c) → (ps.flatMap f).length ≤ c * ps.length
  | [], _ => by simp
  | p :: ps, h => by
    rw [List.flatMap_cons, List.length_append, List.length_cons, Nat.mul_succ]
    have := h p List.mem_cons_self
    have := flat_len fun q hq => h q (List.mem_cons_of_mem p hq)
    omega
theorem srts_len {j : Bool} {ps : List Tr} (g : (Tr.nd j ps).Good) (i : Nat) : ((ps.take i).flatMap Tr.srt).length ≤ 900 := by
  have h := flat_len (f := Tr.srt) (c := 30) (ps := ps.take i) fun p hp => by
    have gp := (good_part g (List.mem_of_mem_take hp)).1
    rw [Tr.srt_len gp]
    exact Tr.size gp
  have := parts_30 g
  rw [List.length_take] at h
  omega
end J

/-! Joinside, trees in the heap: told ones and made ones, the promises of their methods. -/
namespace J
open PySem PySem.Spec L2
theorem Paired.imp {α β : Type} {F G : α → β → Prop} : ∀ {xs : List α} {ys : List β}, Paired F xs ys → (∀ a b, b ∈ ys → F a b → G a b) → Paired G xs ys
  | _, _, .nil, _ => .nil
  | _, _, .cons h t, k => .cons (k _ _ List.mem_cons_self h) (Paired.imp t fun a b m => k a b (List.mem_cons_of_mem _ m))
theorem Paired.at {α β : Type} {F : α → β → Prop} : ∀ {xs : List α} {ys : List β} {i : Nat} {y : β}, Paired F xs ys → ys[i]? = some y → ∃ x, xs[i]? = some x ∧ F x y
  | _, _, 0, _, .cons h _, e => ⟨_, rfl, by simp at e; exact e ▸ h⟩
  | _, _, i + 1, _, .cons _ t, e => by
    obtain ⟨x, h1, h2⟩ := Paired.at (i := i) t (by simpa using e)
    exact ⟨x, by simpa using h1, h2⟩
  | _, _, _, _, .nil, e => by simp at e
theorem Paired.at' {α β : Type} {F : α → β → Prop} : ∀ {xs : List α} {ys : List β} {i : Nat} {x : α}, Paired F xs ys → xs[i]? = some x → ∃ y, ys[i]? = some y ∧ F x y
  | _, _, 0, _, .cons h _, e => ⟨_, rfl, by simp at e; exact e ▸ h⟩
  | _, _, i + 1, _, .cons _ t, e => by
    obtain ⟨x, h1, h2⟩ := Paired.at' (i := i) t (by simpa using e)
    exact ⟨x, by simpa using h1, h2⟩
  | _, _, _, _, .nil, e => by simp at e
theorem Paired.app {α β : Type} {F : α → β → Prop} : ∀ {xs xs' : List α} {ys ys' : List β}, Paired F xs ys → Paired F xs' ys' → Paired F (xs ++ xs') (ys ++ ys')
  | _, _, _, _, .nil, h => h
  | _, _, _, _, .cons a b, h => .cons a (Paired.app b h)
theorem Paired.take {α β : Type} {F : α → β → Prop} : ∀ {xs : List α} {ys : List β} (n : Nat), Paired F xs ys → Paired F (xs.take n) (ys.take n)
  | _, _, 0, _ => .nil
  | _, _, _ + 1, .nil => .nil
  | _, _, n + 1, .cons a b => .cons a (Paired.take n b)
theorem Paired.drop {α β : Type} {F : α → β → Prop} : ∀ {xs : List α} {ys : List β} (n : Nat), Paired F xs ys → Paired F (xs.drop n) (ys.drop n)
  | _, _, 0, h => h
  | _, _, _ + 1, .nil => .nil
  | _, _, n + 1, .cons _ b => Paired.drop n b
theorem Paired.mapR {α β γ : Type} {F : α → γ → Prop} {f : β → γ} : ∀ {xs : List α} {ys : List β}, Paired (fun x y => F x (f y)) xs ys → Paired F xs (ys.map f)
  | _, _, .nil => .nil
  | _, _, .cons a b => .cons a (Paired.mapR b)
theorem Paired.perm {α β : Type} {F : α → β → Prop} {xs xs' : List α} (p : xs'.Perm xs) : ∀ {ys : List β}, Paired F xs ys → ∃ ys', ys'.Perm ys ∧ Paired F xs' ys' := by
  induction p with
  | nil => intro ys h; exact ⟨ys, .refl _, h⟩
  | cons x _ ih =>
    intro ys h
    cases h with
    | cons a b =>
      obtain ⟨zs, q, r⟩ := ih b
      exact ⟨_, q.cons _, .cons a r⟩
  | swap x y l =>
    intro ys h
    cases h with
    | cons a b =>
      cases b with
      | cons c d => exact ⟨_, List.Perm.swap _ _ _, .cons c (.cons a d)⟩
  | trans _ _ ih1 ih2 =>
    intro ys h
    obtain ⟨zs, q, r⟩ := ih2 h
    obtain ⟨ws, q', r'⟩ := ih1 r
    exact ⟨ws, q'.trans q, r'⟩
theorem take_succ_of' {α : Type} {l : List α} {i : Nat} {x : α} (h : l[i]? = some x) : l.take (i + 1) = l.take i ++ [x] := by
  rw [List.take_add_one, h]
  rfl
/-! ### told -/
inductive TAt (H : Hp) : V → Tr → Prop
  | pt (n : Nat) : TAt H (.int n) (.pt n)
  | nd {a b : Addr} {vs : List V} {j : Bool} {ps : List Tr} (ha : H a = some (.tup [.str (wd j), .ref b])) (hb : H b = some (.tup vs)) (h : Paired (TAt H) vs ps) : TAt H (.ref a) (.nd j ps)
/-- tuples stay -/
def Tups (H H' : Hp) : Prop := ∀ a xs, H a = some (.tup xs) → H' a = some (.tup xs)
theorem Same.tups {H H' : Hp} (s : Same H H') : Tups H H' := fun a _ e => s a _ e
theorem Tups.trans {H H1 H2 : Hp} (s : Tups H H1) (t : Tups H1 H2) : Tups H H2 := fun a xs e => t a xs (s a xs e)
theorem Tups.upd {H : Hp} {a : Addr} {o o' : HO} (e : H a = some o) (n : ∀ xs, o ≠ .tup xs) : Tups H (upd H a o') := fun b xs h => up_ne (fun z => by subst z; rw [e] at h; cases h; exact n _ rfl) h
theorem TAt.keep {H H' : Hp} (s : Tups H H') {t : Tr} : ∀ {v : V}, TAt H v t → TAt H' v t := by
  refine Tr.ind (p := fun t => ∀ {v : V}, TAt H v t → TAt H' v t) (fun n v h => ?_) (fun j ps ih v h => ?_) t
  · cases h; exact .pt n
  · cases h with
    | nd ha hb h => exact .nd (s _ _ ha) (s _ _ hb) (Paired.imp h fun a b m k => ih b m k)
theorem TAts.uniq {H : Hp} : ∀ {vs : List V} {ps qs : List Tr}, (∀ p ∈ ps, ∀ {v : V} {u : Tr}, TAt H v p → TAt H v u → p = u) → Paired (TAt H) vs ps → Paired (TAt H) vs qs → ps = qs
  | _, _, _, _, .nil, .nil => rfl
  | _, _, _, k, .cons a b, .cons c d => by rw [k _ List.mem_cons_self a c, TAts.uniq (fun p hp => k p (List.mem_cons_of_mem _ hp)) b d]
theorem TAt.uniq {H : Hp} {t : Tr} : ∀ {v : V} {u : Tr}, TAt H v t → TAt H v u → t = u := by
  refine Tr.ind (p := fun t => ∀ {v : V} {u : Tr}, TAt H v t → TAt H v u → t = u) (fun n v u h h' => ?_) (fun j ps ih v u h h' => ?_) t
  · generalize et : Tr.pt n = t' at h
    cases h with
    | pt m =>
      generalize ev : V.int (m : Int) = v' at h'
      cases h' with
      | pt k =>
        injection et with et
        injection ev with ev
        rw [show k = m by omega]
      | nd _ _ _ => cases ev
    | nd _ _ _ => cases et
  · cases h with
    | nd ha hb h =>
      cases h' with
      | nd ha' hb' h' =>
        rw [ha] at ha'
        injection ha' with ha'
        injection ha' with ha'
        injection ha' with e1 e2
        injection e1 with e1
        injection e2 with e2 _
        injection e2 with e2
        subst e2
        rw [hb] at hb'
        injection hb' with hb'
        injection hb' with hb'
        subst hb'
        rw [wd_inj e1, TAts.uniq (fun p hp => ih p hp) h h']
theorem TAt.same {H H' : Hp} (s : Same H H') {v : V} {t : Tr} (h : TAt H v t) : TAt H' v t := h.keep (Same.tups s)
theorem TAts.same {H H' : Hp} (s : Same H H') {vs : List V} {ts : List Tr} (h : Paired (TAt H) vs ts) : Paired (TAt H') vs ts := Paired.imp h fun _ _ _ k => k.same s
theorem TAts.keep {H H' : Hp} (s : Tups H H') {vs : List V} {ts : List Tr} (h : Paired (TAt H) vs ts) : Paired (TAt H') vs ts := Paired.imp h fun _ _ _ k => k.keep s
theorem TAt.dp {K : PySem.W.Frag} {H : Hp} {t : Tr} : ∀ {v : V}, TAt H v t → Dp K H v t.data := by
  refine Tr.ind (p := fun t => ∀ {v : V}, TAt H v t → Dp K H v t.data) (fun n v h => ?_) (fun j ps ih v h => ?_) t
  · cases h; exact .int n
  · cases h with
    | nd ha hb h =>
      have : ∀ {vs : List V} {qs : List Tr}, Paired (TAt H) vs qs → (∀ q ∈ qs, ∀ {v : V}, TAt H v q → Dp K H v q.data) → DpAll K H vs (dataL qs) := by
        intro vs qs hp
        induction hp with
        | nil => intro _; exact .nil
        | cons a _ ih2 => intro k; exact .cons (k _ List.mem_cons_self a) (ih2 fun q hq => k q (List.mem_cons_of_mem _ hq))
      rw [Tr.data]
      exact .tup (SqT.of ha) (.cons (.str _) (.cons (.tup (SqT.of hb) (this h ih)) .nil))
theorem TAts.dp {K : PySem.W.Frag} {H : Hp} {vs : List V} {qs : List Tr} (h : Paired (TAt H) vs qs) : DpAll K H vs (dataL qs) := by
  induction h with
  | nil => exact .nil
  | cons a _ ih => exact .cons a.dp ih
theorem TAt.th {K : PySem.W.Frag} {H : Hp} {v : V} {t : Tr} (h : TAt H v t) : ∃ n, Th K H v n := by
  cases h with
  | pt n => exact ⟨_, .int _⟩
  | nd ha _ _ => exact ⟨_, .tup ha⟩
theorem TAt.int {H : Hp} {v : V} {n : Nat} (h : TAt H v (.pt n)) : v = .int n := by cases h; rfl
theorem TAt.tup {H : Hp} {v : V} {j : Bool} {ps : List Tr} (h : TAt H v (.nd j ps)) : ∃ a b vs, v = .ref a ∧ H a = some (.tup [.str (wd j), .ref b]) ∧ H b = some (.tup vs) ∧ Paired (TAt H) vs ps := by
  cases h with
  | nd ha hb h => exact ⟨_, _, _, rfl, ha, hb, h⟩
/-! ### made -/
/-- no constraint; the addresses that are there -/
abbrev No : Addr → Prop := fun _ => False
abbrev Dom (H : Hp) : Addr → Prop := fun b => H b ≠ none
/-- a made tree, none of whose lists is one of B -/
inductive OAt (X : TC) (B : Addr → Prop) (H : Hp) : V → Tr → Prop
  | pt {a dx : Addr} (n : Nat) (ha : H a = some (.ins X.P dx [("number", .int n)])) : OAt X B H (.ref a) (.pt n)
  | nd {a dx l : Addr} {vs : List V} {j : Bool} {ps : List Tr} (ha : H a = some (.ins (X.cl j) dx [("parts", .ref l)])) (hl : H l = some (.lst vs)) (nb : ¬ B l) (h : Paired (OAt X B H) vs ps) : OAt X B H (.ref a) (.nd j ps)
theorem OAt.gen {X : TC} {B B' : Addr → Prop} {H H' : Hp} (s : ∀ b o, H b = some o → (∀ xs, o = .lst xs → ¬ B b) → H' b = some o) (k : ∀ b, B' b → B b) {t : Tr} : ∀ {v : V}, OAt X B H v t → OAt X B' H' v t := by
  refine Tr.ind (p := fun t => ∀ {v : V}, OAt X B H v t → OAt X B' H' v t) (fun n v h => ?_) (fun j ps ih v h => ?_) t
  · cases h with | pt _ ha => exact .pt n (s _ _ ha (fun xs z => by cases z))
  · cases h with
    | nd ha hl nb h => exact .nd (s _ _ ha (fun xs z => by cases z)) (s _ _ hl (fun _ _ => nb)) (fun z => nb (k _ z)) (Paired.imp h fun a b m k => ih b m k)
theorem OAt.same {X : TC} {B : Addr → Prop} {H H' : Hp} (s : Same H H') {t : Tr} {v : V} (h : OAt X B H v t) : OAt X B H' v t := h.gen (fun b o e _ => s b o e) fun _ z => z
theorem OAt.less {X : TC} {B B' : Addr → Prop} {H : Hp} (k : ∀ b, B' b → B b) {t : Tr} {v : V} (h : OAt X B H v t) : OAt X B' H v t := h.gen (fun b o e _ => e) k
theorem OAt.no {X : TC} {B : Addr → Prop} {H : Hp} {t : Tr} {v : V} (h : OAt X B H v t) : OAt X No H v t := h.less fun _ z => z.elim
/-- a list of B is changed -/
theorem OAt.put {X : TC} {B : Addr → Prop} {H : Hp} {D : Addr} {us : List V} {o : HO} (e : H D = some (.lst us)) (m : B D) {t : Tr} {v : V} (h : OAt X B H v t) : OAt X B (upd H D o) v t :=
  h.gen (fun b u eb k => up_ne (fun z => by subst z; rw [e] at eb; cases eb; exact k _ rfl m) eb) fun _ z => z
theorem OAts.same {X : TC} {B : Addr → Prop} {H H' : Hp} (s : Same H H') {vs : List V} {ts : List Tr} (h : Paired (OAt X B H) vs ts) : Paired (OAt X B H') vs ts := Paired.imp h fun _ _ _ k => k.same s
theorem OAts.no {X : TC} {B : Addr → Prop} {H : Hp} {vs : List V} {ts : List Tr} (h : Paired (OAt X B H) vs ts) : Paired (OAt X No H) vs ts := Paired.imp h fun _ _ _ k => k.no
theorem Dom.mono {H H' : Hp} (s : Same H H') : ∀ b, Dom H b → Dom H' b := fun b h z => h (s.free z)
theorem OAt.ptE {X : TC} {B : Addr → Prop} {H : Hp} {v : V} {n : Nat} (h : OAt X B H v (.pt n)) : ∃ a dx, v = .ref a ∧ H a = some (.ins X.P dx [("number", .int n)]) := by
  cases h with | pt _ ha => exact ⟨_, _, rfl, ha⟩
theorem OAt.ndE {X : TC} {B : Addr → Prop} {H : Hp} {v : V} {j : Bool} {ps : List Tr} (h : OAt X B H v (.nd j ps)) : ∃ a dx l vs, v = .ref a ∧ H a = some (.ins (X.cl j) dx [("parts", .ref l)]) ∧ H l = some (.lst vs) ∧ Paired (OAt X B H) vs ps ∧ ¬ B l := by
  cases h with | nd ha hl nb h => exact ⟨_, _, _, _, rfl, ha, hl, h, nb⟩
/-! ### promises of methods: S t xs H Q: of the tree t with the arguments xs -/
abbrev TSp := Tr → List V → Hp → VK → Prop
def sp_pt (X : TC) (S : TSp) : Sp := fun vs H Q _ => ∃ v n xs, vs = v :: xs ∧ OAt X No H v (.pt n) ∧ (Tr.pt n).Good ∧ S (.pt n) xs H Q
def sp_nd (X : TC) (S : TSp) (j : Bool) (d : Nat) : Sp := fun vs H Q _ => ∃ v ps xs, vs = v :: xs ∧ OAt X No H v (.nd j ps) ∧ (Tr.nd j ps).Good ∧ (Tr.nd j ps).dep ≤ d ∧ S (.nd j ps) xs H Q
def sp_in (X : TC) (S : TSp) (d : Nat) : Sp := fun vs H Q _ => ∃ v j ps xs, vs = v :: xs ∧ OAt X No H v (.nd j ps) ∧ (Tr.nd j ps).Good ∧ (Tr.nd j ps).dep ≤ d ∧ S (.nd j ps) xs H Q
theorem sp_in_of {X : TC} {S : TSp} {d : Nat} {j : Bool} : ∀ vs H Q E, sp_nd X S j d vs H Q E → sp_in X S d vs H Q E := by
  rintro vs H Q E ⟨v, ps, xs, h⟩
  exact ⟨v, j, ps, xs, h⟩
def DM (X : TC) (S : TSp) (d : Nat) : Addr → Sp → Prop := fun C sp => (C = X.P ∧ sp = sp_pt X S) ∨ ∃ j, C = X.cl j ∧ sp = sp_nd X S j d
theorem me_of {P : Program} {w : World} {K : PySem.W.Frag} {mg : Str → Option Value} {base : Heap} {k : Nat} {m : Str} {X : TC} {S : TSp} {d : Nat} (h1 : MethG P w K mg base k X.P m (sp_pt X S)) (h2 : ∀ j, MethG P w K mg base k (X.cl j) m (sp_nd X S j d)) :
    ∀ C sp, DM X S d C sp → MethG P w K mg base k C m sp := by
  rintro C sp (⟨rfl, rfl⟩ | ⟨j, rfl, rfl⟩)
  · exact h1
  · exact h2 j
theorem MethG.mono {P : Program} {w : World} {K : PySem.W.Frag} {mg : Str → Option Value} {base : Heap} {k k' : Nat} {C : Addr} {m : Str} {sp : Sp} (h : MethG P w K mg base k C m sp) (le : k ≤ k') : MethG P w K mg base k' C m sp := by
  obtain ⟨c, f, fd, ps, h1, h2, h3⟩ := h
  exact ⟨c, f, fd, ps, h1, h2.mono le, h3⟩
theorem FnG.none {P : Program} {w : World} {K : PySem.W.Frag} {mg : Str → Option Value} {base : Heap} {k : Nat} {f : Addr} {fd : FuncData} {ps : List Str} {sp : Sp} (h : ∀ vs H Q E, ¬ sp vs H Q E) : FnG P w K mg base k f fd ps sp :=
  ⟨fun vs H Q E q => absurd q (h vs H Q E), fun A outer s H args us vs Q E _ _ _ _ _ q => absurd q (h vs H Q E)⟩
theorem dep_nd {j : Bool} {ps : List Tr} : ¬ (Tr.nd j ps).dep ≤ 0 := by rw [Tr.dep]; omega
theorem dep_part {j : Bool} {ps : List Tr} {d : Nat} (h : (Tr.nd j ps).dep ≤ d + 1) {p : Tr} (hp : p ∈ ps) : p.dep ≤ d := by
  rw [Tr.dep] at h
  have := dep_mem hp
  omega
theorem sp_in_zero {X : TC} {S : TSp} : ∀ vs H Q E, ¬ sp_in X S 0 vs H Q E := by
  rintro vs H Q E ⟨v, j, ps, xs, _, _, _, h, _⟩
  exact dep_nd h
theorem sp_nd_zero {X : TC} {S : TSp} {j : Bool} : ∀ vs H Q E, ¬ sp_nd X S j 0 vs H Q E := by
  rintro vs H Q E ⟨v, ps, xs, _, _, _, h, _⟩
  exact dep_nd h
/-- a method is called: which promise it keeps -/
theorem s_m {X : TC} {S : TSp} {d : Nat} {H : Hp} {v : V} {t : Tr} {m : Str} {R : Sp → Prop} (h : OAt X No H v t) (g : t.Good) (hd : t.dep ≤ d) (n1 : m ≠ "number") (n2 : m ≠ "parts")
    (k1 : ∀ n, t = .pt n → R (sp_pt X S)) (k2 : ∀ j ps, t = .nd j ps → R (sp_nd X S j d)) : ∃ a C dx fs, v = .ref a ∧ H a = some (.ins C dx fs) ∧ fs.lookup m = none ∧ ∃ sp, DM X S d C sp ∧ R sp := by
  cases h with
  | pt n ha => exact ⟨_, _, _, _, rfl, ha, by rw [List.lookup, beq_eq_false_iff_ne.mpr n1]; rfl, _, .inl ⟨rfl, rfl⟩, k1 _ rfl⟩
  | nd ha hl _ hp => exact ⟨_, _, _, _, rfl, ha, by rw [List.lookup, beq_eq_false_iff_ne.mpr n2]; rfl, _, .inr ⟨_, rfl, rfl⟩, k2 _ _ rfl⟩
theorem s_m0 {X : TC} {S : TSp} {d : Nat} {σ : Sl} {H : Hp} {v : V} {t : Tr} {m : Str} {Q : VK} {E : XK} (h : OAt X No H v t) (g : t.Good) (hd : t.dep ≤ d) (q : S t [] H Q) (n1 : m ≠ "number" := by decide +kernel) (n2 : m ≠ "parts" := by decide +kernel) :
    ∃ a C dx fs, v = .ref a ∧ H a = some (.ins C dx fs) ∧ fs.lookup m = none ∧ ∃ sp, DM X S d C sp ∧ tNil σ H fun vs H2 => sp (v :: vs) H2 Q E :=
  s_m (R := fun sp => tNil σ H fun vs H2 => sp (v :: vs) H2 Q E) h g hd n1 n2 (fun n e => by subst e; exact ⟨v, n, [], rfl, h, g, q⟩) fun j ps e => by subst e; exact ⟨v, ps, [], rfl, h, g, hd, q⟩
theorem s_mA {X : TC} {S : TSp} {d : Nat} {σ : Sl} {H : Hp} {v : V} {t : Tr} {m : Str} {Q : VK} {E : XK} {ta : TA} (h : OAt X No H v t) (g : t.Good) (hd : t.dep ≤ d) (q : ta σ H fun xs H2 => OAt X No H2 v t ∧ S t xs H2 Q) (mono : ∀ (F G : List V → Hp → Prop), (∀ xs H2, F xs H2 → G xs H2) → ta σ H F → ta σ H G)
    (n1 : m ≠ "number" := by decide +kernel) (n2 : m ≠ "parts" := by decide +kernel) :
    ∃ a C dx fs, v = .ref a ∧ H a = some (.ins C dx fs) ∧ fs.lookup m = none ∧ ∃ sp, DM X S d C sp ∧ ta σ H fun vs H2 => sp (v :: vs) H2 Q E :=
  s_m (R := fun sp => ta σ H fun vs H2 => sp (v :: vs) H2 Q E) h g hd n1 n2 (fun n e => mono _ _ (fun xs H2 z => by subst e; exact ⟨v, n, xs, rfl, z.1, g, z.2⟩) q) fun j ps e => mono _ _ (fun xs H2 z => by subst e; exact ⟨v, ps, xs, rfl, z.1, g, hd, z.2⟩) q
/-! ### what they tell -/
def S_told : TSp := fun t xs H Q => xs = [] ∧ ∀ u H', Same H H' → TAt H' u t → Q u H'
def S_points : TSp := fun t xs H Q => xs = [] ∧ ∀ q H', Same H H' → H q = none → H' q = some (.lst (msk t.srt)) → Q (.ref q) H'
def S_word : TSp := fun t xs H Q => xs = [] ∧ Q (.str t.word) H
def S_turned (X : TC) : TSp := fun t xs H Q => xs = [] ∧ ∀ u H', Same H H' → OAt X (Dom H) H' u t.turn → Q u H'
def S_tied : TSp := fun t xs H Q => ∃ a b : Nat, xs = [.int a, .int b] ∧ a ∈ t.pts ∧ b ∈ t.pts ∧ a ≠ b ∧ ∀ H', Same H H' → Q (.bl (t.rel a b)) H'
def S_joined : TSp := fun t xs H Q => xs = [] ∧ Q (.bl (decide (t.word = "join"))) H
theorem u_told {t : Tr} {H : Hp} {Q : VK} (q : ∀ u H', Same H H' → TAt H' u t → Q u H') : S_told t [] H Q := ⟨rfl, q⟩
theorem u_points {t : Tr} {H : Hp} {Q : VK} (q : ∀ q H', Same H H' → H q = none → H' q = some (.lst (msk t.srt)) → Q (.ref q) H') : S_points t [] H Q := ⟨rfl, q⟩
theorem u_word {t : Tr} {H : Hp} {Q : VK} (q : Q (.str t.word) H) : S_word t [] H Q := ⟨rfl, q⟩
theorem u_turned {X : TC} {t : Tr} {H : Hp} {Q : VK} (q : ∀ u H', Same H H' → OAt X (Dom H) H' u t.turn → Q u H') : S_turned X t [] H Q := ⟨rfl, q⟩
theorem u_joined {t : Tr} {H : Hp} {Q : VK} (q : Q (.bl (decide (t.word = "join"))) H) : S_joined t [] H Q := ⟨rfl, q⟩
theorem len0_pt {X : TC} {S : TSp} {vs : List V} {H : Hp} {Q : VK} {E : XK} (k : ∀ t xs H Q, S t xs H Q → xs = []) (h : sp_pt X S vs H Q E) : vs.length = 1 := by
  obtain ⟨v, n, xs, rfl, _, _, h⟩ := h
  rw [k _ _ _ _ h]; rfl
theorem len0_in {X : TC} {S : TSp} {d : Nat} {vs : List V} {H : Hp} {Q : VK} {E : XK} (k : ∀ t xs H Q, S t xs H Q → xs = []) (h : sp_in X S d vs H Q E) : vs.length = 1 := by
  obtain ⟨v, j, ps, xs, rfl, _, _, _, h⟩ := h
  rw [k _ _ _ _ h]; rfl
theorem len0_nd {X : TC} {S : TSp} {d : Nat} {j : Bool} {vs : List V} {H : Hp} {Q : VK} {E : XK} (k : ∀ t xs H Q, S t xs H Q → xs = []) (h : sp_nd X S j d vs H Q E) : vs.length = 1 := by
  obtain ⟨v, ps, xs, rfl, _, _, _, h⟩ := h
  rw [k _ _ _ _ h]; rfl
theorem len2_in {X : TC} {S : TSp} {d : Nat} {vs : List V} {H : Hp} {Q : VK} {E : XK} (k : ∀ t xs H Q, S t xs H Q → xs.length = 2) (h : sp_in X S d vs H Q E) : vs.length = 3 := by
  obtain ⟨v, j, ps, xs, rfl, _, _, _, h⟩ := h
  rw [List.length_cons, k _ _ _ _ h]
theorem len2_pt {X : TC} {S : TSp} {vs : List V} {H : Hp} {Q : VK} {E : XK} (k : ∀ t xs H Q, S t xs H Q → xs.length = 2) (h : sp_pt X S vs H Q E) : vs.length = 3 := by
  obtain ⟨v, n, xs, rfl, _, _, h⟩ := h
  rw [List.length_cons, k _ _ _ _ h]
theorem Tr.dep_30 {t : Tr} (g : t.Good) : t.dep ≤ 30 := Nat.le_succ_of_le (Tr.dep_29 g)
theorem s_mx {X : TC} {S : TSp} {d i : Nat} {σ : Sl} {H : Hp} {v x : V} {t : Tr} {m : Str} {Q : VK} {E : XK} (h : OAt X No H v t) (g : t.Good) (hd : t.dep ≤ d) (e1 : σ[i]? = some (some x)) (q : S t [x] H Q) (n1 : m ≠ "number" := by decide +kernel) (n2 : m ≠ "parts" := by decide +kernel) :
    ∃ a C dx fs, v = .ref a ∧ H a = some (.ins C dx fs) ∧ fs.lookup m = none ∧ ∃ sp, DM X S d C sp ∧ tCons (tVar i) tNil σ H fun vs H2 => sp (v :: vs) H2 Q E :=
  s_m (R := fun sp => tCons (tVar i) tNil σ H fun vs H2 => sp (v :: vs) H2 Q E) h g hd n1 n2 (fun n e => by subst e; exact ⟨x, e1, v, n, [x], rfl, h, g, q⟩) fun j ps e => by subst e; exact ⟨x, e1, v, ps, [x], rfl, h, g, hd, q⟩
theorem s_mxy {X : TC} {S : TSp} {d i k : Nat} {σ : Sl} {H : Hp} {v x y : V} {t : Tr} {m : Str} {Q : VK} {E : XK} (h : OAt X No H v t) (g : t.Good) (hd : t.dep ≤ d) (e1 : σ[i]? = some (some x)) (e2 : σ[k]? = some (some y)) (q : S t [x, y] H Q) (n1 : m ≠ "number" := by decide +kernel) (n2 : m ≠ "parts" := by decide +kernel) :
    ∃ a C dx fs, v = .ref a ∧ H a = some (.ins C dx fs) ∧ fs.lookup m = none ∧ ∃ sp, DM X S d C sp ∧ tCons (tVar i) (tCons (tVar k) tNil) σ H fun vs H2 => sp (v :: vs) H2 Q E :=
  s_m (R := fun sp => tCons (tVar i) (tCons (tVar k) tNil) σ H fun vs H2 => sp (v :: vs) H2 Q E) h g hd n1 n2 (fun n e => by subst e; exact ⟨x, e1, y, e2, v, n, [x, y], rfl, h, g, q⟩) fun j ps e => by subst e; exact ⟨x, e1, y, e2, v, ps, [x, y], rfl, h, g, hd, q⟩
/-! ### comprehensions that make a thing for each item -/
section
variable {K : PySem.W.Frag} {β : Type} {F : Hp → V → β → Prop} {l D : Addr} {vs : List V} {ps : List β} {σ : Sl} {k : Nat} {te : TE} {H : Hp} {Qd : Hp → Prop}
theorem lc_each (hl : SqL K H l vs) (hn : vs.length = ps.length) (hz : ps.length ≤ 100000) (hD : H D = none) (mono : ∀ H1 H2 y p, Same H1 H2 → F H1 y p → F H2 y p) (put : ∀ H1 y p us zs, Same H H1 → H1 D = some (.lst us) → F H1 y p → F (upd H1 D (.lst zs)) y p)
    (step : ∀ (i : Nat) (x : V) (p : β) (H' : Hp) (us : List V), vs[i]? = some x → ps[i]? = some p → Same H H' → H' D = some (.lst us) → ∀ Q' : VK, (∀ y H4, Same H' H4 → F H4 y p → Q' y H4) → te ((wipe σ [k]).set k (some x)) H' Q')
    (hw : ∀ x, wipe ((wipe σ [k]).set k (some x)) [k] = wipe σ [k]) (fin : ∀ us H', Same H H' → H' D = some (.lst us) → Paired (F H') us ps → Qd H') :
    ∃ W : Nat → Nat → Hp → Prop, (∃ m, W 0 m (upd H D (.lst []))) ∧ ∀ i m H, W i m H →
      ((Itl K l).stop i H ∧ Qd H) ∨ ((Itl K l).go i H ∧ ∃ Nx : Hp → Prop, (∀ H', Nx H' → ∃ m', m' < m ∧ W (i + 1) m' H') ∧ ∀ x H', (Itl K l).yld i H x H' → gName k x (wipe σ [k]) H' fun σ2 H2 => wipe σ2 [k] = wipe σ [k] ∧ tYes σ2 H2 fun b H3 =>
        if b = true then te σ2 H3 fun y H4 => ∃ acc, H4 D = some (.lst acc) ∧ acc.length < sizeLine ∧ Nx (upd H4 D (.lst (acc ++ [y]))) else Nx H3) := by
  refine lc_list (K := K) (a := l) (xs := vs) (fun i H' => ∃ us, Same H H' ∧ H' D = some (.lst us) ∧ Paired (F H') us (ps.take i)) ⟨[], Same.new hD, upd_same, by rw [List.take_zero]; exact .nil⟩ ?_ ?_ ?_
  · rintro i H' _ ⟨us, S, _, _⟩
    exact Same.seq S hl
  · rintro i x H' hx ⟨us, S, eD, hp⟩
    have hi : i < ps.length := by rw [← hn]; exact (List.getElem?_eq_some_iff.mp hx).1
    have hpi : ps[i]? = some ps[i] := List.getElem?_eq_getElem hi
    refine ⟨hw x, ?_⟩
    unfold tYes
    dsimp only
    rw [if_pos rfl]
    refine step i x _ H' us hx hpi S eD _ fun y H4 S4 hF => ?_
    have hlen : us.length = i := by rw [Paired.length hp, List.length_take]; omega
    refine ⟨us, S4 _ _ eD, by rw [hlen]; exact Nat.lt_of_lt_of_le (Nat.lt_of_lt_of_le hi hz) (by decide), _, Same.mut (S.trans S4) hD, upd_same, ?_⟩
    rw [take_succ_of' hpi]
    exact Paired.app (Paired.imp hp fun a b _ h => put _ _ _ us _ (S.trans S4) (S4 _ _ eD) (mono _ _ _ _ S4 h)) (.cons (put _ _ _ us _ (S.trans S4) (S4 _ _ eD) hF) .nil)
  · rintro H' ⟨us, S, eD, hp⟩
    rw [hn, List.take_length] at hp
    exact fin us H' S eD hp
theorem lc_eachT (hl : SqT K H l vs) (hn : vs.length = ps.length) (hz : ps.length ≤ 100000) (hD : H D = none) (mono : ∀ H1 H2 y p, Same H1 H2 → F H1 y p → F H2 y p) (put : ∀ H1 y p us zs, Same H H1 → H1 D = some (.lst us) → F H1 y p → F (upd H1 D (.lst zs)) y p)
    (step : ∀ (i : Nat) (x : V) (p : β) (H' : Hp) (us : List V), vs[i]? = some x → ps[i]? = some p → Same H H' → H' D = some (.lst us) → ∀ Q' : VK, (∀ y H4, Same H' H4 → F H4 y p → Q' y H4) → te ((wipe σ [k]).set k (some x)) H' Q')
    (hw : ∀ x, wipe ((wipe σ [k]).set k (some x)) [k] = wipe σ [k]) (fin : ∀ us H', Same H H' → H' D = some (.lst us) → Paired (F H') us ps → Qd H') :
    ∃ W : Nat → Nat → Hp → Prop, (∃ m, W 0 m (upd H D (.lst []))) ∧ ∀ i m H, W i m H →
      ((Itt K l).stop i H ∧ Qd H) ∨ ((Itt K l).go i H ∧ ∃ Nx : Hp → Prop, (∀ H', Nx H' → ∃ m', m' < m ∧ W (i + 1) m' H') ∧ ∀ x H', (Itt K l).yld i H x H' → gName k x (wipe σ [k]) H' fun σ2 H2 => wipe σ2 [k] = wipe σ [k] ∧ tYes σ2 H2 fun b H3 =>
        if b = true then te σ2 H3 fun y H4 => ∃ acc, H4 D = some (.lst acc) ∧ acc.length < sizeLine ∧ Nx (upd H4 D (.lst (acc ++ [y]))) else Nx H3) := by
  refine lc_tup (K := K) (a := l) (xs := vs) (fun i H' => ∃ us, Same H H' ∧ H' D = some (.lst us) ∧ Paired (F H') us (ps.take i)) ⟨[], Same.new hD, upd_same, by rw [List.take_zero]; exact .nil⟩ ?_ ?_ ?_
  · rintro i H' _ ⟨us, S, _, _⟩
    exact Same.sqT S hl
  · rintro i x H' hx ⟨us, S, eD, hp⟩
    have hi : i < ps.length := by rw [← hn]; exact (List.getElem?_eq_some_iff.mp hx).1
    have hpi : ps[i]? = some ps[i] := List.getElem?_eq_getElem hi
    refine ⟨hw x, ?_⟩
    unfold tYes
    dsimp only
    rw [if_pos rfl]
    refine step i x _ H' us hx hpi S eD _ fun y H4 S4 hF => ?_
    have hlen : us.length = i := by rw [Paired.length hp, List.length_take]; omega
    refine ⟨us, S4 _ _ eD, by rw [hlen]; exact Nat.lt_of_lt_of_le (Nat.lt_of_lt_of_le hi hz) (by decide), _, Same.mut (S.trans S4) hD, upd_same, ?_⟩
    rw [take_succ_of' hpi]
    exact Paired.app (Paired.imp hp fun a b _ h => put _ _ _ us _ (S.trans S4) (S4 _ _ eD) (mono _ _ _ _ S4 h)) (.cons (put _ _ _ us _ (S.trans S4) (S4 _ _ eD) hF) .nil)
  · rintro H' ⟨us, S, eD, hp⟩
    rw [hn, List.take_length] at hp
    exact fin us H' S eD hp
end
/-! ### making trees -/
def sp_Point_init (X : TC) : Sp := fun vs H Q _ => ∃ (p dx : Addr) (n : Nat), vs = [.ref p, .int n] ∧ H p = some (.ins X.P dx []) ∧ Q .non (upd H p (.ins X.P dx [("number", .int n)]))
def sp_Inner_init (X : TC) : Sp := fun vs H Q _ => ∃ (p dx : Addr) (j : Bool) (l : Addr) (ws : List V), vs = [.ref p, .ref l] ∧ H p = some (.ins (X.cl j) dx []) ∧ H l = some (.lst ws) ∧
  ∀ q, H q = none → Q .non (upd (upd H q (.lst ws)) p (.ins (X.cl j) dx [("parts", .ref q)]))
section
variable {X : TC} {H : Hp} {E : XK} {Z : Addr → Hp → Prop} {n : Nat} {j : Bool} {l : Addr} {ws : List V} {ps : List Tr} {B : Addr → Prop}
theorem u_newPoint (q : ∀ p H', H p = none → Same H H' → OAt X (Dom H) H' (.ref p) (.pt n) → Z p H') :
    ∀ x dx, H x = none → H dx = none → dx ≠ x → sp_Point_init X [.ref x, .int n] (upd (upd H dx (.own x)) x (.ins X.P dx [])) (fun v H2 => v = .non ∧ Z x H2) E := by
  intro x dx hx hd ne
  refine ⟨x, dx, n, rfl, upd_same, rfl, ?_⟩
  rw [upd_upd]
  exact q x _ hx (Same.more (Same.new hd) (up_free (Ne.symm ne) hx)) (.pt n upd_same)
theorem u_newInner (hl : H l = some (.lst ws)) (h : Paired (OAt X B H) ws ps) (hB : ∀ b, B b → Dom H b) (q : ∀ p H', H p = none → Same H H' → OAt X B H' (.ref p) (.nd j ps) → Z p H') :
    ∀ x dx, H x = none → H dx = none → dx ≠ x → sp_Inner_init X [.ref x, .ref l] (upd (upd H dx (.own x)) x (.ins (X.cl j) dx [])) (fun v H2 => v = .non ∧ Z x H2) E := by
  intro x dx hx hd ne
  have S : Same H (upd (upd H dx (.own x)) x (.ins (X.cl j) dx [])) := Same.more (Same.new hd) (up_free (Ne.symm ne) hx)
  refine ⟨x, dx, j, l, ws, rfl, upd_same, S _ _ hl, fun r hr => ⟨rfl, ?_⟩⟩
  have hr0 : H r = none := S.free hr
  have hrx : r ≠ x := fun z => by subst z; rw [upd_same] at hr; cases hr
  have S2 : Same H (upd (upd (upd (upd H dx (.own x)) x (.ins (X.cl j) dx [])) r (.lst ws)) x (.ins (X.cl j) dx [("parts", .ref r)])) := Same.mut (Same.mut S hr0) hx
  exact q x _ hx S2 (.nd upd_same (up_ne hrx upd_same) (fun z => hB _ z hr0) (OAts.same S2 h))
end
def DJ (X : TC) : Addr → Sp → Prop := fun C sp => ∃ j, C = X.cl j ∧ sp = sp_nd X S_joined j 30
theorem s_mJ {X : TC} {σ : Sl} {H : Hp} {v : V} {j : Bool} {ps : List Tr} {m : Str} {Q : VK} {E : XK} (h : OAt X No H v (.nd j ps)) (g : (Tr.nd j ps).Good) (q : S_joined (.nd j ps) [] H Q) (n2 : m ≠ "parts" := by decide +kernel) :
    ∃ a C dx fs, v = .ref a ∧ H a = some (.ins C dx fs) ∧ fs.lookup m = none ∧ ∃ sp, DJ X C sp ∧ tNil σ H fun vs H2 => sp (v :: vs) H2 Q E := by
  have h' := h
  cases h with
  | nd ha hl _ hp => exact ⟨_, _, _, _, rfl, ha, by rw [List.lookup, beq_eq_false_iff_ne.mpr n2]; rfl, _, ⟨_, rfl, rfl⟩, _, _, [], rfl, h', g, Tr.dep_30 g, q⟩
theorem dom_D {H H' : Hp} {D : Addr} {o o' : HO} (S : Same H H') (e : H' D = some o) : ∀ b, Dom (upd H D o') b → Dom H' b := fun b hb z => hb (by
  by_cases q : b = D
  · subst q; rw [z] at e; cases e
  · rw [upd_ne q]; exact S.free z)
theorem dom_up {H : Hp} {D : Addr} {o : HO} : ∀ b, Dom H b → Dom (upd H D o) b := fun b hb z => hb (free_of z)
theorem dom_at {H : Hp} {D : Addr} {o : HO} : Dom (upd H D o) D := fun z => by rw [upd_same] at z; cases z
end J

/-! Joinside: the ties of a tree, as a relation and as the laws' own list. -/
namespace J
open PySem PySem.Spec L2
def cr (as bs : List Nat) : Rel := fun a b => (decide (a ∈ as) && decide (b ∈ bs)) || (decide (b ∈ as) && decide (a ∈ bs))
theorem cr_iff {as bs : List Nat} {a b : Nat} : cr as bs a b = true ↔ (a ∈ as ∧ b ∈ bs) ∨ (b ∈ as ∧ a ∈ bs) := by
  unfold cr
  simp only [Bool.or_eq_true, Bool.and_eq_true, decide_eq_true_eq]
theorem relL_cons {j : Bool} {p : Tr} {ps : List Tr} {a b : Nat} : relL j (p :: ps) a b = true ↔ p.rel a b = true ∨ relL j ps a b = true ∨ (j = true ∧ cr p.pts (ptsL ps) a b = true) := by
  rw [relL]
  unfold cr
  simp only [Bool.or_eq_true, Bool.and_eq_true, or_assoc]
theorem relL_in {j : Bool} {a b : Nat} : ∀ {ps : List Tr}, (∀ p ∈ ps, ∀ a b, p.rel a b = true → a ∈ p.pts ∧ b ∈ p.pts) → relL j ps a b = true → a ∈ ptsL ps ∧ b ∈ ptsL ps
  | [], _, h => by rw [relL] at h; cases h
  | p :: ps, k, h => by
    rw [ptsL, List.mem_append, List.mem_append]
    rcases relL_cons.mp h with h | h | ⟨_, h⟩
    · obtain ⟨h1, h2⟩ := k p List.mem_cons_self _ _ h
      exact ⟨.inl h1, .inl h2⟩
    · obtain ⟨h1, h2⟩ := relL_in (fun q hq => k q (List.mem_cons_of_mem _ hq)) h
      exact ⟨.inr h1, .inr h2⟩
    · rcases cr_iff.mp h with ⟨h1, h2⟩ | ⟨h1, h2⟩
      · exact ⟨.inl h1, .inr h2⟩
      · exact ⟨.inr h2, .inl h1⟩
theorem rel_in {t : Tr} : ∀ a b, t.rel a b = true → a ∈ t.pts ∧ b ∈ t.pts := by
  refine Tr.ind (p := fun t => ∀ a b, t.rel a b = true → a ∈ t.pts ∧ b ∈ t.pts) (fun n a b h => by rw [Tr.rel] at h; cases h) (fun j ps ih a b h => ?_) t
  rw [Tr.rel] at h
  rw [Tr.pts]
  exact relL_in ih h
theorem relL_in' {j : Bool} {a b : Nat} {ps : List Tr} (h : relL j ps a b = true) : a ∈ ptsL ps ∧ b ∈ ptsL ps := relL_in (fun _ _ => rel_in) h
theorem bool_eq {a b : Bool} (h : a = true ↔ b = true) : a = b := by cases a <;> cases b <;> simp_all
theorem cr_sy {as bs : List Nat} {a b : Nat} : cr as bs a b = cr as bs b a := bool_eq (by rw [cr_iff, cr_iff]; exact or_comm)
theorem relL_sy {j : Bool} : ∀ {ps : List Tr}, (∀ p ∈ ps, ∀ a b, p.rel a b = p.rel b a) → ∀ a b, relL j ps a b = relL j ps b a
  | [], _, _, _ => by rw [relL]
  | p :: ps, k, a, b => bool_eq (by
    rw [relL_cons, relL_cons, k p List.mem_cons_self a b, relL_sy (fun q hq => k q (List.mem_cons_of_mem _ hq)) a b, cr_sy])
theorem rel_sy {t : Tr} : ∀ a b, t.rel a b = t.rel b a := by
  refine Tr.ind (p := fun t => ∀ a b, t.rel a b = t.rel b a) (fun n a b => rfl) (fun j ps ih a b => ?_) t
  rw [Tr.rel]
  exact relL_sy ih a b
theorem relL_ir {j : Bool} {a : Nat} : ∀ {ps : List Tr}, (ptsL ps).Nodup → (∀ p ∈ ps, p.rel a a = false) → relL j ps a a = false
  | [], _, _ => by rw [relL]
  | p :: ps, nd, k => by
    rw [ptsL, List.nodup_append] at nd
    have ih := relL_ir (j := j) nd.2.1 fun q hq => k q (List.mem_cons_of_mem _ hq)
    cases e : relL j (p :: ps) a a with
    | false => rfl
    | true =>
      rcases relL_cons.mp e with h | h | ⟨_, h⟩
      · rw [k p List.mem_cons_self] at h; cases h
      · rw [ih] at h; cases h
      · rcases cr_iff.mp h with ⟨h1, h2⟩ | ⟨h1, h2⟩ <;> exact absurd rfl (nd.2.2 a h1 a h2)
theorem rel_ir {t : Tr} : t.Good → ∀ a, t.rel a a = false := by
  refine Tr.ind (p := fun t => t.Good → ∀ a, t.rel a a = false) (fun n g a => rfl) (fun j ps ih g a => ?_) t
  rw [Tr.rel]
  have g' := g
  rw [Tr.Good] at g'
  exact relL_ir g'.2.2.1 fun p hp => ih p hp (good_part g hp).1 a
theorem rel_sym {t : Tr} (g : t.Good) : Sym t.rel := ⟨rel_sy, rel_ir g⟩
/-- two points of one part -/
theorem rel_part {j : Bool} {a b : Nat} {p : Tr} : ∀ {ps : List Tr}, (ptsL ps).Nodup → p ∈ ps → a ∈ p.pts → b ∈ p.pts → relL j ps a b = p.rel a b
  | q :: ps, nd, hp, ha, hb => by
    rw [ptsL, List.nodup_append] at nd
    refine bool_eq ?_
    rw [relL_cons]
    rcases List.mem_cons.mp hp with rfl | hp
    · refine ⟨fun h => ?_, .inl⟩
      rcases h with h | h | ⟨_, h⟩
      · exact h
      · exact absurd rfl (nd.2.2 _ ha _ (relL_in' h).1)
      · rcases cr_iff.mp h with ⟨_, h2⟩ | ⟨_, h2⟩
        · exact absurd rfl (nd.2.2 _ hb _ h2)
        · exact absurd rfl (nd.2.2 _ ha _ h2)
    · rw [rel_part nd.2.1 hp ha hb]
      have ha' := mem_ptsL.mpr ⟨p, hp, ha⟩
      have hb' := mem_ptsL.mpr ⟨p, hp, hb⟩
      refine ⟨fun h => ?_, fun h => .inr (.inl h)⟩
      rcases h with h | h | ⟨_, h⟩
      · exact absurd rfl (nd.2.2 _ (rel_in _ _ h).1 _ ha')
      · exact h
      · rcases cr_iff.mp h with ⟨h1, _⟩ | ⟨h1, _⟩
        · exact absurd rfl (nd.2.2 _ h1 _ ha')
        · exact absurd rfl (nd.2.2 _ h1 _ hb')
/-- two points of unlike parts -/
theorem rel_apart {j : Bool} {a b : Nat} : ∀ {ps : List Tr}, a ∈ ptsL ps → b ∈ ptsL ps → (∀ p ∈ ps, ¬ (a ∈ p.pts ∧ b ∈ p.pts)) → relL j ps a b = j
  | p :: ps, ha, hb, no => by
    rw [ptsL, List.mem_append] at ha hb
    have np := no p List.mem_cons_self
    refine bool_eq ?_
    rw [relL_cons]
    have no' : ∀ q ∈ ps, ¬ (a ∈ q.pts ∧ b ∈ q.pts) := fun q hq => no q (List.mem_cons_of_mem _ hq)
    constructor
    · rintro (h | h | ⟨h, _⟩)
      · exact absurd (rel_in _ _ h) np
      · rw [rel_apart (relL_in' h).1 (relL_in' h).2 no'] at h; exact h
      · exact h
    · intro h
      rcases ha with ha | ha
      · rcases hb with hb | hb
        · exact absurd ⟨ha, hb⟩ np
        · exact .inr (.inr ⟨h, cr_iff.mpr (.inl ⟨ha, hb⟩)⟩)
      · rcases hb with hb | hb
        · exact .inr (.inr ⟨h, cr_iff.mpr (.inr ⟨hb, ha⟩)⟩)
        · exact .inr (.inl (by rw [rel_apart ha hb no']; exact h))
/-! ### the laws' own list -/
def crossL (as bs : List Nat) : List (Nat × Nat) := as.flatMap fun a => bs.map fun b => (min a b, max a b)
mutual
def Tr.ties : Tr → List (Nat × Nat)
  | .pt _ => []
  | .nd j ps => tiesL j [] ps
def tiesL (j : Bool) : List Nat → List Tr → List (Nat × Nat)
  | _, [] => []
  | ah, p :: ps => p.ties ++ (if j = true then crossL ah p.pts else []) ++ tiesL j (ah ++ p.pts) ps
end
theorem mem_crossL {as bs : List Nat} {x y : Nat} (dj : ∀ a ∈ as, a ∉ bs) : (x, y) ∈ crossL as bs ↔ x < y ∧ cr as bs x y = true := by
  unfold crossL
  rw [cr_iff, List.mem_flatMap]
  constructor
  · rintro ⟨a, ha, h⟩
    obtain ⟨b, hb, e⟩ := List.mem_map.mp h
    rw [Prod.mk.injEq] at e
    have ne : a ≠ b := fun z => dj a ha (z ▸ hb)
    by_cases l : a < b
    · rw [Nat.min_eq_left (by omega), Nat.max_eq_right (by omega)] at e
      obtain ⟨rfl, rfl⟩ := e
      exact ⟨l, .inl ⟨ha, hb⟩⟩
    · rw [Nat.min_eq_right (by omega), Nat.max_eq_left (by omega)] at e
      obtain ⟨rfl, rfl⟩ := e
      exact ⟨by omega, .inr ⟨ha, hb⟩⟩
  · rintro ⟨l, ⟨ha, hb⟩ | ⟨ha, hb⟩⟩
    · exact ⟨x, ha, List.mem_map.mpr ⟨y, hb, by rw [Nat.min_eq_left (by omega), Nat.max_eq_right (by omega)]⟩⟩
    · exact ⟨y, ha, List.mem_map.mpr ⟨x, hb, by rw [Nat.min_eq_right (by omega), Nat.max_eq_left (by omega)]⟩⟩
theorem nodup_crossL {as bs : List Nat} (na : as.Nodup) (nb : bs.Nodup) (dj : ∀ a ∈ as, a ∉ bs) : (crossL as bs).Nodup := by
  unfold crossL
  rw [List.flatMap_def]
  unfold List.Nodup
  rw [List.pairwise_flatten]
  constructor
  · intro l hl
    obtain ⟨a, ha, rfl⟩ := List.mem_map.mp hl
    rw [List.pairwise_map]
    refine List.Pairwise.imp_of_mem ?_ nb
    intro b c hb hc ne e
    rw [Prod.mk.injEq] at e
    have := dj a ha
    omega
  · rw [List.pairwise_map]
    refine List.Pairwise.imp_of_mem ?_ na
    intro a c ha hc ne x hx y hy e
    obtain ⟨b, hb, rfl⟩ := List.mem_map.mp hx
    obtain ⟨d, hd, rfl⟩ := List.mem_map.mp hy
    rw [Prod.mk.injEq] at e
    have h1 := dj a ha
    have h2 := dj c hc
    have h3 : a ≠ d := fun z => h1 (z ▸ hd)
    have h4 : c ≠ b := fun z => h2 (z ▸ hb)
    omega
theorem mem_tiesL {j : Bool} {x y : Nat} : ∀ {ps : List Tr} {ah : List Nat}, (∀ p ∈ ps, ∀ x y, (x, y) ∈ p.ties ↔ x < y ∧ p.rel x y = true) → (ah ++ ptsL ps).Nodup →
    ((x, y) ∈ tiesL j ah ps ↔ x < y ∧ (relL j ps x y = true ∨ (j = true ∧ cr ah (ptsL ps) x y = true)))
  | [], ah, _, _ => by
    rw [tiesL, relL, ptsL, cr_iff]
    simp
  | p :: ps, ah, k, nd => by
    rw [ptsL, ← List.append_assoc] at nd
    have ih := mem_tiesL (j := j) (x := x) (y := y) (ps := ps) (ah := ah ++ p.pts) (fun q hq => k q (List.mem_cons_of_mem _ hq)) nd
    have nd1 := (List.nodup_append.mp nd).1
    have dj : ∀ a ∈ ah, a ∉ p.pts := fun a ha hb => (List.nodup_append.mp nd1).2.2 a ha a hb rfl
    rw [tiesL, List.mem_append, List.mem_append, k p List.mem_cons_self, ih, relL_cons, cr_iff, cr_iff, ptsL]
    simp only [List.mem_append]
    have e1 : ((x, y) ∈ if j = true then crossL ah p.pts else []) ↔ j = true ∧ x < y ∧ ((x ∈ ah ∧ y ∈ p.pts) ∨ (y ∈ ah ∧ x ∈ p.pts)) := by
      cases j with
      | true => rw [if_pos rfl, mem_crossL dj, cr_iff]; simp
      | false => simp
    rw [e1, cr_iff]
    grind
theorem nodup_tiesL {j : Bool} : ∀ {ps : List Tr} {ah : List Nat}, (∀ p ∈ ps, p.ties.Nodup) → (∀ p ∈ ps, ∀ x y, (x, y) ∈ p.ties ↔ x < y ∧ p.rel x y = true) → (ah ++ ptsL ps).Nodup → (tiesL j ah ps).Nodup
  | [], ah, _, _, _ => by rw [tiesL]; exact List.nodup_nil
  | p :: ps, ah, k0, k, nd => by
    rw [ptsL, ← List.append_assoc] at nd
    have kq : ∀ q ∈ ps, ∀ x y, (x, y) ∈ q.ties ↔ x < y ∧ q.rel x y = true := fun q hq => k q (List.mem_cons_of_mem _ hq)
    have ih := nodup_tiesL (j := j) (ps := ps) (ah := ah ++ p.pts) (fun q hq => k0 q (List.mem_cons_of_mem _ hq)) kq nd
    obtain ⟨nd1, nd2, nd3⟩ := List.nodup_append.mp nd
    obtain ⟨na, np, nap⟩ := List.nodup_append.mp nd1
    have dj : ∀ a ∈ ah, a ∉ p.pts := fun a ha hb => nap a ha a hb rfl
    have c1 : (if j = true then crossL ah p.pts else []).Nodup := by
      cases j with
      | true => rw [if_pos rfl]; exact nodup_crossL na np dj
      | false => simp
    rw [tiesL, List.nodup_append, List.nodup_append]
    refine ⟨⟨k0 p List.mem_cons_self, c1, ?_⟩, ih, ?_⟩
    · rintro ⟨x, y⟩ h1 ⟨u, v⟩ h2 e
      rw [Prod.mk.injEq] at e
      obtain ⟨rfl, rfl⟩ := e
      have h1 := rel_in _ _ ((k p List.mem_cons_self _ _).mp h1).2
      cases j with
      | false => simp at h2
      | true =>
        rw [if_pos rfl, mem_crossL dj, cr_iff] at h2
        rcases h2.2 with ⟨h3, _⟩ | ⟨h3, _⟩
        · exact dj _ h3 h1.1
        · exact dj _ h3 h1.2
    · rintro ⟨x, y⟩ h1 ⟨u, v⟩ h2 e
      rw [Prod.mk.injEq] at e
      obtain ⟨rfl, rfl⟩ := e
      have hin : x ∈ ah ++ p.pts ∧ y ∈ ah ++ p.pts := by
        rcases List.mem_append.mp h1 with h1 | h1
        · have h1 := rel_in _ _ ((k p List.mem_cons_self _ _).mp h1).2
          exact ⟨List.mem_append_right _ h1.1, List.mem_append_right _ h1.2⟩
        · cases j with
          | false => simp at h1
          | true =>
            rw [if_pos rfl, mem_crossL dj, cr_iff] at h1
            rcases h1.2 with ⟨h3, h4⟩ | ⟨h3, h4⟩
            · exact ⟨List.mem_append_left _ h3, List.mem_append_right _ h4⟩
            · exact ⟨List.mem_append_right _ h4, List.mem_append_left _ h3⟩
      have h2 := (mem_tiesL (j := j) kq nd).mp h2
      rcases h2.2 with h2 | ⟨_, h2⟩
      · exact nd3 _ hin.1 _ (relL_in' h2).1 rfl
      · rcases cr_iff.mp h2 with ⟨_, h2⟩ | ⟨_, h2⟩
        · exact nd3 _ hin.2 _ h2 rfl
        · exact nd3 _ hin.1 _ h2 rfl
theorem ties_both {t : Tr} : t.Good → t.ties.Nodup ∧ ∀ x y, (x, y) ∈ t.ties ↔ x < y ∧ t.rel x y = true := by
  refine Tr.ind (p := fun t => t.Good → t.ties.Nodup ∧ ∀ x y, (x, y) ∈ t.ties ↔ x < y ∧ t.rel x y = true) (fun n _ => ⟨List.nodup_nil, fun x y => by rw [Tr.ties, Tr.rel]; simp⟩) (fun j ps ih g => ?_) t
  have g' := g
  rw [Tr.Good] at g'
  have k0 : ∀ p ∈ ps, p.ties.Nodup := fun p hp => (ih p hp (good_part g hp).1).1
  have k : ∀ p ∈ ps, ∀ x y, (x, y) ∈ p.ties ↔ x < y ∧ p.rel x y = true := fun p hp => (ih p hp (good_part g hp).1).2
  have nd : ([] ++ ptsL ps).Nodup := by rw [List.nil_append]; exact g'.2.2.1
  rw [Tr.ties, Tr.rel]
  refine ⟨nodup_tiesL k0 k nd, fun x y => ?_⟩
  rw [mem_tiesL k nd, cr_iff]
  simp
theorem ties_tell {t : Tr} (g : t.Good) : Tell t.ties 30 t.rel := by
  obtain ⟨h1, h2⟩ := ties_both g
  refine ⟨h1, fun a b => ?_⟩
  rw [h2]
  exact ⟨fun h => ⟨h.1, Tr.lt g _ (rel_in _ _ h.2).2, h.2⟩, fun h => ⟨h.1, h.2.2⟩⟩
theorem ties_len {t : Tr} (g : t.Good) : t.ties.length ≤ 900 := (ties_tell g).len (Nat.le_refl _)
end J

/-! Joinside: a tree's ties are put into a web; which points are tied, by the program. -/
namespace J
open PySem PySem.Spec L2
def orR (R S : Rel) : Rel := fun a b => R a b || S a b
theorem orR_iff {R S : Rel} {a b : Nat} : orR R S a b = true ↔ R a b = true ∨ S a b = true := by unfold orR; rw [Bool.or_eq_true]
theorem relL_snoc {j : Bool} {p : Tr} {a b : Nat} : ∀ {ps : List Tr}, relL j (ps ++ [p]) a b = true ↔ relL j ps a b = true ∨ p.rel a b = true ∨ (j = true ∧ cr (ptsL ps) p.pts a b = true)
  | [] => by
    rw [List.nil_append, relL_cons, cr_iff, cr_iff, relL, ptsL]
    simp
  | q :: ps => by
    rw [List.cons_append, relL_cons, relL_cons, relL_snoc (ps := ps)]
    have e : ptsL (ps ++ [p]) = ptsL ps ++ p.pts := by rw [ptsL_eq, ptsL_eq, List.flatMap_append]; simp
    rw [e, cr_iff, cr_iff, cr_iff, cr_iff, ptsL]
    simp only [List.mem_append]
    grind
theorem ptsL_take {ps : List Tr} {i : Nat} {p : Tr} (h : ps[i]? = some p) : ptsL (ps.take (i + 1)) = ptsL (ps.take i) ++ p.pts := by
  rw [ptsL_eq, ptsL_eq, flat_take h]
theorem ptsL_take_nd {ps : List Tr} {i : Nat} {p : Tr} (nd : (ptsL ps).Nodup) (h : ps[i]? = some p) : ∀ x ∈ ptsL (ps.take i), x ∉ p.pts := by
  have e : ptsL ps = ptsL (ps.take (i + 1)) ++ ptsL (ps.drop (i + 1)) := by
    rw [ptsL_eq, ptsL_eq, ptsL_eq, ← List.flatMap_append, List.take_append_drop]
  rw [e, ptsL_take h] at nd
  intro x hx hy
  exact (List.nodup_append.mp (List.nodup_append.mp nd).1).2.2 x hx x hy rfl
theorem mem_srts {ps : List Tr} {i x : Nat} (g : ∀ p ∈ ps, p.Good) : x ∈ (ps.take i).flatMap Tr.srt ↔ x ∈ ptsL (ps.take i) := by
  rw [List.mem_flatMap, mem_ptsL]
  constructor
  · rintro ⟨p, hp, hx⟩
    exact ⟨p, hp, (Tr.mem_srt (g p (List.mem_of_mem_take hp))).mp hx⟩
  · rintro ⟨p, hp, hx⟩
    exact ⟨p, hp, (Tr.mem_srt (g p (List.mem_of_mem_take hp))).mpr hx⟩
theorem nodup_srts {ps : List Tr} {i : Nat} (g : ∀ p ∈ ps, p.Good) (nd : (ptsL ps).Nodup) : ((ps.take i).flatMap Tr.srt).Nodup := by
  have h : (ps.flatMap Tr.srt).Nodup := by
    rw [ptsL_eq] at nd
    have : ∀ qs : List Tr, (∀ q ∈ qs, q.Good) → (qs.flatMap Tr.srt).Perm (qs.flatMap Tr.pts) := by
      intro qs
      induction qs with
      | nil => intro _; exact .refl _
      | cons q qs ih =>
        intro h
        rw [List.flatMap_cons, List.flatMap_cons]
        exact (Tr.srt_perm (h q List.mem_cons_self)).symm.append (ih fun p hp => h p (List.mem_cons_of_mem _ hp))
    exact (this ps g).nodup_iff.mpr nd
  rw [← List.take_append_drop i ps, List.flatMap_append] at h
  exact (List.nodup_append.mp h).1
theorem inV_msk {a : Nat} {is : List Nat} : inV (.int a) (msk is) = decide (a ∈ is) := by
  unfold inV msk
  rw [List.any_map]
  induction is with
  | nil => rfl
  | cons i is ih =>
    rw [List.any_cons, ih]
    have e : ((fun y => eqV y (V.int (a : Int))) ∘ fun (m : Nat) => V.int (m : Int)) i = decide (i = a) := by
      show ((i : Int) == (a : Int)) = _
      rw [Bool.beq_eq_decide_eq, decide_eq_decide]
      omega
    rw [e, ← Bool.decide_or]
    rw [decide_eq_decide, List.mem_cons]
    exact or_congr_left eq_comm
theorem flat_msk (is : List Nat) : (msk is).all flatV = true := by
  unfold msk
  rw [List.all_map, List.all_eq_true]
  intro x _
  rfl
theorem s_inMsk {K : PySem.W.Frag} {H : Hp} {Q : VK} {a : Nat} {l : Addr} {is : List Nat} (h : SqL K H l (msk is)) (q : Q (.bl (decide (a ∈ is))) H) : rInA K false (.int a) (.ref l) H Q :=
  s_inF (.inl h) rfl (flat_msk is) (by rw [inV_msk]; exact q)
/-! ### laid into a web -/
theorem OAt.offW {X : TC} {B : Addr → Prop} {H : Hp} {l : Addr} {ms : List Nat} (e : H l = some (.lst (msk ms))) {t : Tr} : ∀ {v : V}, t.Good → OAt X B H v t → OAt X (fun b => b = l) H v t := by
  refine Tr.ind (p := fun t => ∀ {v : V}, t.Good → OAt X B H v t → OAt X (fun b => b = l) H v t) (fun n v g h => ?_) (fun j ps ih v g h => ?_) t
  · cases h with | pt _ ha => exact .pt n ha
  · cases h with
    | nd ha hl nb h =>
      refine .nd ha hl (fun z => ?_) (Paired.imp h fun a b m k => ih b m (good_part g m).1 k)
      subst z
      rw [hl] at e
      rw [Tr.Good] at g
      match ps, g.1, h with
      | p :: ps, _, .cons a b =>
        injection e with e
        injection e with e
        cases ms with
        | nil => cases e
        | cons m ms =>
          unfold msk at e
          rw [List.map_cons] at e
          injection e with e _
          cases a with
          | pt _ _ => cases e
          | nd _ _ _ _ => cases e
theorem OAt.stayW {X : TC} {B : Addr → Prop} {H H' : Hp} {l : Addr} {ms : List Nat} {t : Tr} {v : V} (e : H l = some (.lst (msk ms))) (s : Stay [l] H H') (g : t.Good) (h : OAt X B H v t) : OAt X No H' v t := by
  refine (h.offW e g).gen (fun b o eb k => ?_) (fun _ z => z.elim)
  by_cases z : b = l
  · subst z
    rw [e] at eb
    cases eb
    exact absurd rfl (k _ rfl)
  · exact s b o (by simpa using z) eb
def S_lay (C : Addr) : TSp := fun t xs H Q => ∃ (p l : Addr) (n : Nat) (R : Rel), xs = [.ref p] ∧ WebAt C H p l (webM n R) ∧ (∀ x ∈ t.pts, x < n) ∧ (∀ a ∈ t.pts, ∀ b ∈ t.pts, R a b = false) ∧
  ∀ H', Stay [l] H H' → WebAt C H' p l (webM n (orR R t.rel)) → Q .non H'
/-- so far: the web, some parts, one more, some of its ties to them -/
def layR (R : Rel) (j : Bool) (ps : List Tr) (i : Nat) (p : Tr) (ah pt : List Nat) (k m : Nat) : Rel :=
  orR (orR (orR R (relL j (ps.take i))) p.rel) (orR (cr (ah.take k) pt) (cr (ah.drop k |>.take 1) (pt.take m)))
theorem mem_take_at {l : List Nat} {i x : Nat} (h : l[i]? = some x) (nd : l.Nodup) : x ∉ l.take i := by
  intro z
  have hl : i < l.length := (List.getElem?_eq_some_iff.mp h).1
  have e : l = l.take (i + 1) ++ l.drop (i + 1) := (List.take_append_drop _ _).symm
  rw [e, take_succ_of' h] at nd
  exact (List.nodup_append.mp (List.nodup_append.mp nd).1).2.2 x z x (by simp) rfl
theorem drop_one {l : List Nat} {i x : Nat} (h : l[i]? = some x) : (l.drop i).take 1 = [x] := by
  obtain ⟨hl, he⟩ := List.getElem?_eq_some_iff.mp h
  rw [List.drop_eq_getElem_cons hl, he]
  rfl
section
variable {R : Rel} {j : Bool} {ps : List Tr} {i k m n a b : Nat} {p : Tr}
theorem lay_no (g : (Tr.nd j ps).Good) (hp : ps[i]? = some p) (hR : ∀ a ∈ ptsL ps, ∀ b ∈ ptsL ps, R a b = false) {ah : List Nat} (ea : ah = (ps.take i).flatMap Tr.srt) (ha : ah[k]? = some a) (hb : p.srt[m]? = some b) : layR R j ps i p ah p.srt k m a b = false ∧ layR R j ps i p ah p.srt k m b a = false ∧ a ≠ b ∧ a ∈ ptsL ps ∧ b ∈ ptsL ps := by
  have g' := g
  rw [Tr.Good] at g'
  have gs : ∀ p ∈ ps, p.Good := fun p hp => (good_part g hp).1
  have pm := List.mem_of_getElem? hp
  have ma : a ∈ ptsL (ps.take i) := (mem_srts gs).mp (ea ▸ List.mem_of_getElem? ha)
  have mb : b ∈ p.pts := (Tr.mem_srt (gs p pm)).mp (List.mem_of_getElem? hb)
  have dj := ptsL_take_nd g'.2.2.1 hp
  have mA : a ∈ ptsL ps := by
    obtain ⟨q, hq, h⟩ := mem_ptsL.mp ma
    exact mem_ptsL.mpr ⟨q, List.mem_of_mem_take hq, h⟩
  have mB : b ∈ ptsL ps := mem_ptsL.mpr ⟨p, pm, mb⟩
  have nab : a ≠ b := fun z => dj a ma (z ▸ mb)
  have na : a ∉ p.pts := dj a ma
  have nb : b ∉ ptsL (ps.take i) := fun z => dj b z mb
  have nba : b ∉ ah := fun z => nb ((mem_srts gs).mp (ea ▸ z))
  have nda : ah.Nodup := by rw [ea]; exact nodup_srts gs g'.2.2.1
  have nta := mem_take_at ha nda
  have ntb := mem_take_at hb ((Tr.srt_perm (gs p pm)).nodup_iff.mp (Tr.nodup (gs p pm)))
  have one := drop_one ha
  have nas : a ∉ p.srt := fun z => na ((Tr.mem_srt (gs p pm)).mp z)
  have key : ∀ x y, ((x = a ∧ y = b) ∨ (x = b ∧ y = a)) → layR R j ps i p ah p.srt k m x y = false := by
    intro x y hxy
    cases e : layR R j ps i p ah p.srt k m x y with
    | false => rfl
    | true =>
      unfold layR at e
      rw [orR_iff, orR_iff, orR_iff, orR_iff, cr_iff, cr_iff, one] at e
      rcases e with ((e | e) | e) | (e | e)
      · rcases hxy with ⟨rfl, rfl⟩ | ⟨rfl, rfl⟩
        · rw [hR _ mA _ mB] at e; cases e
        · rw [hR _ mB _ mA] at e; cases e
      · have := relL_in' e
        rcases hxy with ⟨rfl, rfl⟩ | ⟨rfl, rfl⟩
        · exact absurd this.2 nb
        · exact absurd this.1 nb
      · have := rel_in _ _ e
        rcases hxy with ⟨rfl, rfl⟩ | ⟨rfl, rfl⟩
        · exact absurd this.1 na
        · exact absurd this.2 na
      · rcases hxy with ⟨rfl, rfl⟩ | ⟨rfl, rfl⟩ <;> rcases e with ⟨e1, e2⟩ | ⟨e1, e2⟩
        · exact absurd e1 nta
        · exact absurd e2 nas
        · exact absurd e2 nas
        · exact absurd e1 nta
      · rcases hxy with ⟨rfl, rfl⟩ | ⟨rfl, rfl⟩ <;> rcases e with ⟨e1, e2⟩ | ⟨e1, e2⟩
        · exact absurd e2 ntb
        · exact absurd (List.mem_singleton.mp e1).symm nab
        · exact absurd (List.mem_singleton.mp e1).symm nab
        · exact absurd e2 ntb
  exact ⟨key a b (.inl ⟨rfl, rfl⟩), key b a (.inr ⟨rfl, rfl⟩), nab, mA, mB⟩
theorem lay_put {ah pt : List Nat} (ha : ah[k]? = some a) (hb : pt[m]? = some b) (h1 : layR R j ps i p ah pt k m a b = false) (h2 : layR R j ps i p ah pt k m b a = false) : webM n (togg (layR R j ps i p ah pt k m) a b) = webM n (layR R j ps i p ah pt k (m + 1)) := webM_congr fun x y _ _ => by
  have one := drop_one ha
  have tk := take_succ_of' hb
  refine bool_eq ?_
  unfold togg
  by_cases e : (x = a ∧ y = b) ∨ (x = b ∧ y = a)
  · rw [if_pos e]
    have hL : layR R j ps i p ah pt k m x y = false := by rcases e with ⟨rfl, rfl⟩ | ⟨rfl, rfl⟩; exact h1; exact h2
    rw [hL]
    refine ⟨fun _ => ?_, fun _ => rfl⟩
    unfold layR
    simp only [orR_iff, cr_iff, one, tk]
    refine .inr (.inr ?_)
    rcases e with ⟨rfl, rfl⟩ | ⟨rfl, rfl⟩ <;> simp
  · rw [if_neg e]
    unfold layR
    rw [orR_iff, orR_iff, orR_iff, orR_iff, orR_iff, orR_iff, orR_iff, orR_iff, cr_iff, cr_iff, cr_iff, one, tk]
    simp only [List.mem_append, List.mem_singleton]
    grind
theorem lay_row {ah pt : List Nat} (ha : ah[k]? = some a) : webM n (layR R j ps i p ah pt k pt.length) = webM n (layR R j ps i p ah pt (k + 1) 0) := webM_congr fun x y _ _ => by
  have one := drop_one ha
  have tk := take_succ_of' ha
  refine bool_eq ?_
  unfold layR
  rw [orR_iff, orR_iff, orR_iff, orR_iff, orR_iff, orR_iff, orR_iff, orR_iff, cr_iff, cr_iff, cr_iff, cr_iff, one, tk, List.take_length]
  simp only [List.mem_append, List.mem_singleton, List.take_zero, List.not_mem_nil]
  grind
theorem lay_start {ah pt : List Nat} : webM n (orR (orR R (relL j (ps.take i))) p.rel) = webM n (layR R j ps i p ah pt 0 0) := webM_congr fun x y _ _ => by
  refine bool_eq ?_
  unfold layR
  simp only [orR_iff, cr_iff]
  simp
theorem lay_end (g : (Tr.nd j ps).Good) (hp : ps[i]? = some p) (hj : j = true) {ah : List Nat} (ea : ah = (ps.take i).flatMap Tr.srt) : webM n (layR R j ps i p ah p.srt ah.length 0) = webM n (orR R (relL j (ps.take (i + 1)))) := webM_congr fun x y _ _ => by
  have gs : ∀ p ∈ ps, p.Good := fun p hp => (good_part g hp).1
  have pm := List.mem_of_getElem? hp
  refine bool_eq ?_
  unfold layR
  rw [take_succ_of' hp]
  rw [orR_iff, orR_iff, orR_iff, orR_iff, orR_iff, relL_snoc, cr_iff, cr_iff, cr_iff, List.take_length]
  have e1 : ∀ z, z ∈ ah ↔ z ∈ ptsL (ps.take i) := fun z => by rw [ea]; exact mem_srts gs
  have e2 : ∀ z, z ∈ p.srt ↔ z ∈ p.pts := fun z => Tr.mem_srt (gs p pm)
  simp only [e1, e2, List.take_zero, List.not_mem_nil, and_false, or_false]
  grind
theorem lay_side (hp : ps[i]? = some p) (hj : j = false) : webM n (orR (orR R (relL j (ps.take i))) p.rel) = webM n (orR R (relL j (ps.take (i + 1)))) := webM_congr fun x y _ _ => by
  refine bool_eq ?_
  rw [take_succ_of' hp, orR_iff, orR_iff, orR_iff, relL_snoc, hj]
  simp [or_assoc]
theorem lay_zero : webM n R = webM n (orR R (relL j (ps.take 0))) := webM_congr fun x y _ _ => by
  refine bool_eq ?_
  rw [List.take_zero, orR_iff, relL]
  simp
/-- the next part's points have no ties yet -/
theorem lay_free (g : (Tr.nd j ps).Good) (hp : ps[i]? = some p) (hR : ∀ a ∈ ptsL ps, ∀ b ∈ ptsL ps, R a b = false) : ∀ a ∈ p.pts, ∀ b ∈ p.pts, orR R (relL j (ps.take i)) a b = false := by
  have g' := g
  rw [Tr.Good] at g'
  have dj := ptsL_take_nd g'.2.2.1 hp
  have pm := List.mem_of_getElem? hp
  intro a ha b hb
  cases e : orR R (relL j (ps.take i)) a b with
  | false => rfl
  | true =>
    rcases orR_iff.mp e with e | e
    · rw [hR a (mem_ptsL.mpr ⟨p, pm, ha⟩) b (mem_ptsL.mpr ⟨p, pm, hb⟩)] at e; cases e
    · exact absurd ha (dj a (relL_in' e).1)
end
/-! ### trees told to the program -/
def sp_need (eT : Addr) : Sp := fun vs H Q E => ∃ b : Bool, vs = [.bl b] ∧ (b = true → Q .non H) ∧ (b = false → E (.ref eT) none H)
def sp_made (X : TC) (d : Nat) : Sp := fun vs H Q _ => ∃ (v : V) (n : Int) (t : Tr), vs = [v, .int n] ∧ TAt H v t ∧ t.Good ∧ (t.dep : Int) ≤ n ∧ t.dep < d ∧ ∀ u H', Same H H' → OAt X (Dom H) H' u t → Q u H'
def sp_tree_by (X : TC) : Sp := fun vs H Q _ => ∃ (v : V) (t : Tr), vs = [v] ∧ TAt H v t ∧ t.Good ∧ ∀ u H', Same H H' → OAt X (Dom H) H' u t → Q u H'
section
variable {K : PySem.W.Frag} {H : Hp} {Q : VK} {E : XK} {v : V} {t : Tr} {X : TC} {eT : Addr} {a b : Addr} {is js : List Nat}
theorem u_need (q : Q .non H) : sp_need eT [.bl true] H Q E := ⟨true, rfl, fun _ => q, fun z => by cases z⟩
theorem u_needB {b : Bool} (h : b = true) (q : Q .non H) : sp_need eT [.bl b] H Q E := ⟨b, rfl, fun _ => q, fun z => by rw [h] at z; cases z⟩
theorem u_made {d : Nat} {n : Int} (h : TAt H v t) (g : t.Good) (h1 : (t.dep : Int) ≤ n) (h2 : t.dep < d) (q : ∀ u H', Same H H' → OAt X (Dom H) H' u t → Q u H') : sp_made X d [v, .int n] H Q E := ⟨v, n, t, rfl, h, g, h1, h2, q⟩
theorem u_tree_by (h : TAt H v t) (g : t.Good) (q : ∀ u H', Same H H' → OAt X (Dom H) H' u t → Q u H') : sp_tree_by X [v] H Q E := ⟨v, t, rfl, h, g, q⟩
theorem eqv_ints : ∀ is js : List Nat, PyData.eqvAll (is.map fun (m : Nat) => PyData.int (m : Int)) (js.map fun (m : Nat) => PyData.int (m : Int)) = decide (is = js)
  | [], [] => by simp [PyData.eqvAll]
  | [], j :: js => by simp [PyData.eqvAll]
  | i :: is, [] => by simp [PyData.eqvAll]
  | i :: is, j :: js => by
    rw [List.map_cons, List.map_cons]
    simp only [PyData.eqvAll, PyData.eqv]
    rw [eqv_ints is js, Bool.eq_iff_iff]
    simp only [Bool.and_eq_true, beq_iff_eq, decide_eq_true_eq, List.cons.injEq]
    exact and_congr (by omega) Iff.rfl
theorem s_eqMsk (h : SqL K H a (msk is)) (h' : SqL K H b (msk js)) (q : Q (.bl (decide (is = js))) H) : rEqA K (.ref a) (.ref b) H Q :=
  s_eqD (.lst h (dp_ints is)) (.lst h' (dp_ints js)) (shaped_ints is) (shaped_ints js) (by simp only [PyData.eqv]; rw [eqv_ints]; exact q)
theorem s_neMsk' (h : SqL K H a (msk is)) (h' : SqL K H b (msk js)) (q : Q (.bl (!decide (is = js))) H) : rNeA K (.ref a) (.ref b) H Q :=
  s_neD (.lst h (dp_ints is)) (.lst h' (dp_ints js)) (shaped_ints is) (shaped_ints js) (by simp only [PyData.eqv]; rw [eqv_ints]; exact q)
theorem s_eqT {u : V} {t' : Tr} (h : TAt H v t) (h' : TAt H u t') (g : t.Good) (g' : t'.Good) (q : Q (.bl (PyData.eqv t.data t'.data)) H) : rEqA K v u H Q := s_eqD h.dp h'.dp (data_shaped g) (data_shaped g') q
/-- one of the two words -/
theorem s_inWords {j : Bool} (h : SqT K H a [.str "side", .str "join"]) (q : Q (.bl true) H) : rInA K false (.str (wd j)) (.ref a) H Q :=
  s_inF (.inr h) rfl rfl (by rw [show inV (.str (wd j)) [.str "side", .str "join"] = true by cases j <;> decide +kernel]; exact q)
theorem among_pt {n : Nat} (h : n < 30) : among (.int n) 0 29 = true := by
  rw [among_int, Bool.and_eq_true, decide_eq_true_eq, decide_eq_true_eq]
  omega
theorem s_allT {a : Addr} {bs : List Bool} (h : SqL K H a (bs.map V.bl)) (hb : ∀ b ∈ bs, b = true) (q : Q (.bl true) H) : rAll K [.ref a] H Q :=
  ⟨a, bs, rfl, h, by rw [show bs.all id = true from List.all_eq_true.mpr fun b h => hb b h]; exact q⟩
end
theorem leasts_le {j : Bool} {ps : List Tr} (g : (Tr.nd j ps).Good) : (ps.map Tr.least).Pairwise (· ≤ ·) := by
  rw [Tr.Good] at g
  exact g.2.2.2.imp fun h => Nat.le_of_lt h
theorem paired_bl {us : List V} {α : Type} {ps : List α} {f : α → Bool} (h : Paired (fun (u : V) (p : α) => u = .bl (f p)) us ps) : us = (ps.map f).map V.bl := by
  induction h with
  | nil => rfl
  | cons a _ ih => rw [a, ih]; rfl
theorem paired_nat {us : List V} {α : Type} {ps : List α} {f : α → Nat} (h : Paired (fun (u : V) (p : α) => u = .int (f p)) us ps) : us = msk (ps.map f) := by
  induction h with
  | nil => rfl
  | cons a _ ih => rw [a, ih]; rfl
/-! ### the laws' own walks over told trees -/
def sp_rec (S : TSp) (d : Nat) : Sp := fun vs H Q _ => ∃ v t xs, vs = v :: xs ∧ TAt H v t ∧ t.Good ∧ t.dep < d ∧ S t xs H Q
theorem sp_rec_zero {S : TSp} : ∀ vs H Q E, ¬ sp_rec S 0 vs H Q E := by
  rintro vs H Q E ⟨v, t, xs, _, _, _, h, _⟩
  omega
theorem u_rec {S : TSp} {d : Nat} {H : Hp} {Q : VK} {E : XK} {v : V} {t : Tr} {xs : List V} (h : TAt H v t) (g : t.Good) (hd : t.dep < d) (q : S t xs H Q) : sp_rec S d (v :: xs) H Q E := ⟨v, t, xs, rfl, h, g, hd, q⟩
theorem u_recT {S : TSp} {H : Hp} {Q : VK} {E : XK} {v : V} {t : Tr} {xs : List V} (h : TAt H v t) (g : t.Good) (q : S t xs H Q) : sp_rec S 30 (v :: xs) H Q E := u_rec h g (Nat.lt_succ_of_le (Tr.dep_29 g)) q
theorem len0_rec {S : TSp} {d : Nat} {vs : List V} {H : Hp} {Q : VK} {E : XK} (k : ∀ t xs H Q, S t xs H Q → xs = []) (h : sp_rec S d vs H Q E) : vs.length = 1 := by
  obtain ⟨v, t, xs, rfl, _, _, _, h⟩ := h
  rw [k _ _ _ _ h]; rfl
def S_pts : TSp := fun t xs H Q => xs = [] ∧ ∀ q H', Same H H' → H q = none → H' q = some (.lst (msk t.pts)) → Q (.ref q) H'
def S_ties : TSp := fun t xs H Q => xs = [] ∧ ∀ q ys H', Same H H' → H q = none → H' q = some (.lst ys) → PairsAt H' ys t.ties → Q (.ref q) H'
def S_turnT : TSp := fun t xs H Q => xs = [] ∧ ∀ u H', Same H H' → TAt H' u t.turn → Q u H'
def S_madeO (X : TC) : TSp := fun t xs H Q => xs = [] ∧ ∀ u H', Same H H' → OAt X (Dom H) H' u t → Q u H'
def sp_least : Sp := fun vs H Q _ => ∃ v t, vs = [v] ∧ TAt H v t ∧ t.Good ∧ Q (.int (t.least : Nat)) H
theorem u_least {H : Hp} {Q : VK} {E : XK} {v : V} {t : Tr} (h : TAt H v t) (g : t.Good) (q : Q (.int (t.least : Nat)) H) : sp_least [v] H Q E := ⟨v, t, rfl, h, g, q⟩
def sp_web_of (X : TC) (C eT : Addr) : Sp := fun vs H Q E => ∃ v t, vs = [v] ∧ TAt H v t ∧ t.Good ∧
  (t.srt = List.range t.pts.length → ∀ p l H', Same H H' → H p = none → H l = none → WebAt C H' p l (webM t.pts.length t.rel) → Q (.ref p) H') ∧ (t.srt ≠ List.range t.pts.length → ∀ H', Same H H' → E (.ref eT) none H')
theorem least_nd {j : Bool} {p : Tr} {ps : List Tr} (g : (Tr.nd j (p :: ps)).Good) : (Tr.nd j (p :: ps)).least = p.least := by
  unfold Tr.least
  rw [Tr.pts, ptsL, headD_app (Tr.pts_ne (good_part g (p := p) List.mem_cons_self).1)]
theorem pts_pos {t : Tr} (g : t.Good) : 1 ≤ t.pts.length := List.length_pos_iff.mpr (Tr.pts_ne g)
/-! ### ties, one part after another -/
theorem tiesL_app {j : Bool} {qs : List Tr} : ∀ {ps : List Tr} {ah : List Nat}, tiesL j ah (ps ++ qs) = tiesL j ah ps ++ tiesL j (ah ++ ptsL ps) qs
  | [], ah => by rw [List.nil_append, tiesL, ptsL, List.append_nil, List.nil_append]
  | p :: ps, ah => by
    rw [List.cons_append, tiesL, tiesL_app, tiesL, ptsL, List.append_assoc ah]
    simp only [List.append_assoc]
theorem tiesL_take {j : Bool} {ps : List Tr} {i : Nat} {p : Tr} (h : ps[i]? = some p) : tiesL j [] (ps.take (i + 1)) = tiesL j [] (ps.take i) ++ p.ties ++ (if j = true then crossL (ptsL (ps.take i)) p.pts else []) := by
  rw [take_succ_of' h, tiesL_app, tiesL, tiesL, List.append_nil, List.nil_append, List.append_assoc]
theorem crossL_take {as bs : List Nat} {k a : Nat} (h : as[k]? = some a) : crossL (as.take (k + 1)) bs = crossL (as.take k) bs ++ bs.map fun b => (min a b, max a b) := by
  unfold crossL
  rw [take_succ_of' h, List.flatMap_append]
  simp
theorem crossL_len (as bs : List Nat) : (crossL as bs).length = bs.length * as.length := by
  unfold crossL
  induction as with
  | nil => simp
  | cons a as ih => rw [List.flatMap_cons, List.length_append, ih, List.length_map, List.length_cons, Nat.mul_succ, Nat.add_comm]
theorem ptsL_take_len (ps : List Tr) (i : Nat) : (ptsL (ps.take i)).length ≤ (ptsL ps).length := by
  have e : ptsL ps = ptsL (ps.take i) ++ ptsL (ps.drop i) := by rw [ptsL_eq, ptsL_eq, ptsL_eq, ← List.flatMap_append, List.take_append_drop]
  rw [e, List.length_append]
  omega
theorem tiesL_take_len {j : Bool} {ps : List Tr} (g : (Tr.nd j ps).Good) (i : Nat) : (tiesL j [] (ps.take i)).length ≤ 900 := by
  have h := ties_len g
  rw [Tr.ties] at h
  rw [← List.take_append_drop i ps, tiesL_app, List.length_append] at h
  omega
theorem crossL_take_len {as bs : List Nat} (k : Nat) (ha : as.length ≤ 30) (hb : bs.length ≤ 30) : (crossL (as.take k) bs).length ≤ 900 := by
  rw [crossL_len, List.length_take]
  calc bs.length * min k as.length ≤ 30 * 30 := Nat.mul_le_mul hb (by omega)
    _ = 900 := rfl
theorem s_disp2 {σ : Sl} {H : Hp} {Q : VK} {k1 k2 : Str} {v1 v2 : V} (ne : k1 ≠ k2) (q : ∀ p H', H p = none → Same H H' → H' p = some (.dK [(.inr k1, v1), (.inr k2, v2)]) → Q (.ref p) H') : tDisp [(tC (.str k1), tC v1), (tC (.str k2), tC v2)] σ H Q := by
  intro p hp
  refine ⟨upd_same, [(.inr k1, v1), (.inr k2, v2)], rfl, by show 2 ≤ 15; decide, ?_⟩
  have e : mergeK [] [((.inr k1 : Key), v1), (.inr k2, v2)] = [(.inr k1, v1), (.inr k2, v2)] := by
    have ne' : ((.inr k1 : Key) = .inr k2) = False := by
      apply propext
      exact ⟨fun z => ne (Sum.inr.inj z), False.elim⟩
    unfold mergeK
    simp [putK, ne']
  rw [e, upd_upd]
  exact q p _ hp (Same.new hp) upd_same
theorem words_get {j : Bool} {v1 v2 : V} : valV [((.inr "side" : Key), v1), (.inr "join", v2)] (.inr (wd j)) = some (if j = true then v2 else v1) := by
  cases j with
  | false => exact valV_pos rfl
  | true =>
    have e1 : valV [((.inr "side" : Key), v1), (.inr "join", v2)] (.inr (wd true)) = valV [((.inr "join" : Key), v2)] (.inr (wd true)) := valV_neg (show ¬ (.inr "side" : Key) = .inr (wd true) by decide +kernel)
    rw [e1]
    exact valV_pos rfl
end J

/-! Joinside: sorted(xs, key=f), f a def of one's own whose keys are ints. -/
namespace J
open PySem PySem.Spec PyProof.Rows L2
/-- a list of ours that was not there at the entry is forgotten, with its object -/
theorem Inv.lose {X : Cx} {pins : List (Addr × Obj)} {σ : L2.St} {H : Hp} {s : Shared} {c : Addr} {us : List V} {G : Heap} {t : Nat} (I : L2.Inv X pins σ H s) (hc : H c = some (.lst us)) (n0 : X.s_0.heap.get? c = none) (gk : ∀ b o, b ≠ c → s.heap.get? b = some o → G.get? b = some o) :
    L2.Inv X pins σ (delH H c) { s with heap := G, toks := t } := by
  have away : ∀ b, H b = none → b ≠ c := fun b e z => by subst z; rw [hc] at e; cases e
  have early : ∀ b o, X.s_0.heap.get? b = some o → b ≠ c := fun b o e z => by subst z; rw [n0] at e; cases e
  have other : ∀ b u, H b = some u → (∀ ws, u ≠ .lst ws) → delH H c b = some u := fun b u e n => by
    have : b ≠ c := fun z => by subst z; rw [hc] at e; cases e; exact n _ rfl
    rw [delH_ne this]
    exact e
  have cells : ∀ x d, X.env.cells.lookup x = some d → ∀ v, s.heap.IsCell d v → G.IsCell d v := by
    rintro x d e v ⟨ob, h1, h2⟩
    exact ⟨ob, gk d ob (away d (I.freeC x d e)) h1, h2⟩
  constructor
  · exact I.ok
  · exact I.os
  · exact I.bare
  · constructor
    · exact fun b ob e n1 n2 n3 => gk b ob (early b ob e) (I.base.keep b ob e n1 n2 n3)
    · intro b ob e n1 n2 n3
      obtain ⟨sl, h⟩ := I.base.slot b ob e n1 n2 n3
      exact ⟨sl, gk b _ (early b ob e) h⟩
    · intro b ob e n1 n2
      rw [delH_ne (early b ob e)]
      exact I.base.free b ob e n1 n2
    · intro b ob e n1
      obtain ⟨ob', h⟩ := I.base.there b ob e n1
      exact ⟨ob', gk b ob' (early b ob e) h⟩
    · exact fun b ws e => other b _ (I.base.tups b ws e) fun _ z => by cases z
    · exact fun b ob u e => other b _ (I.base.frzs b ob u e) fun _ z => by cases z
    · intro b ws e
      obtain ⟨more, h⟩ := I.base.tbls b ws e
      exact ⟨more, other b _ h fun _ z => by cases z⟩
  · obtain ⟨m, ⟨ob, es, ep, h1, h2⟩, look⟩ := I.loc
    refine ⟨m, ⟨ob, es, ep, gk _ _ (away _ I.free) h1, h2⟩, fun i x v q1 q2 q3 => ?_⟩
    obtain ⟨u, r1, r2⟩ := look i x v q1 q2 q3
    refine ⟨u, r1, ?_⟩
    rcases r2 with r2 | ⟨k1, d, k2, k3⟩
    · exact .inl r2
    · exact .inr ⟨k1, d, k2, cells x d k2 _ k3⟩
  · intro x d e
    obtain ⟨v, h⟩ := I.cell x d e
    exact ⟨v, cells x d e v h⟩
  · rw [delH_ne (away _ I.free)]
    exact I.free
  · intro x d e
    rw [delH_ne (away _ (I.freeC x d e))]
    exact I.freeC x d e
  · intro p hp
    obtain ⟨h1, h2, h3⟩ := I.pin p hp
    exact ⟨gk _ _ (away _ h2) h1, by rw [delH_ne (away _ h2)]; exact h2, h3⟩
  · intro b u e
    have hb : b ≠ c := fun z => by subst z; rw [delH_same] at e; cases e
    rw [delH_ne hb] at e
    refine (I.hok b u e).stay (fun d v hd q => gk d v ?_ q) (fun d q => other d _ q fun _ z => by cases z) fun d ws q => other d _ q fun _ z => by cases z
    rcases hd with rfl | hd
    · exact hb
    · exact fun z => by subst z; rw [hc] at hd; cases hd
  · exact I.len
theorem each_vals : ∀ {xs : List V} {us : List Value}, Vals xs us → PySem.W.EachIs (fun (u : Value) (x : V) => RelV x u) us xs
  | [], _, .nil => .nil
  | _ :: _, _, .cons r t => .cons r (each_vals t)
theorem vals_each : ∀ {xs : List V} {us : List Value}, PySem.W.EachIs (fun (u : Value) (x : V) => RelV x u) us xs → Vals xs us
  | [], _, .nil => .nil
  | _ :: _, _, .cons r t => .cons r (vals_each t)
theorem each_keys' {h : Heap} {key : V → Int} : ∀ {xs : List V} {us : List Value}, Vals (xs.map fun x => V.int (key x)) us → PySem.W.EachIs (fun v d => ∃ as, Reads h v d as) us (xs.map fun x => PyData.int (key x))
  | [], _, .nil => .nil
  | _ :: _, _, .cons r t => by
    obtain ⟨tk, rfl⟩ := r
    exact .cons ⟨[], .int _ tk⟩ (each_keys' t)
section
variable {X : Cx} {pins : List (Addr × Obj)} {σ : L2.St} {H : Hp} {s : Shared} {Q : VK}
/-- the call of the key, as the sort wants it -/
def KeyCall (X : Cx) (pins : List (Addr × Obj)) (σ : L2.St) (H : Hp) (fa : Addr) (xs : List V) (key : V → Int) : Prop :=
  ∀ x ∈ xs, ∀ (v : Value) (H' : Hp) (s' : Shared), L2.Inv X pins σ H' s' → Same H H' → RelV x v → wpAny (model X.prog X.w) X.A.in1.in1 (call (.ref fa) [v]) (EP X pins σ (fun v H2 => v = .int (key x) ∧ Same H' H2)) (fun _ _ => False) s'
theorem sorted_key_runG {fa : Addr} {key : V → Int} {l : Addr} {xs : List V} (hr : Room 2 X.A)
    (I : L2.Inv X pins σ H s) (hs : SqL X.K H l xs) (turn : KeyCall X pins σ H fa xs key)
    (q : ∀ ys p H', Same H H' → H p = none → H' p = some (.lst ys) → ys.Perm xs → (ys.map key).Pairwise (· ≤ ·) → Q (.ref p) H') :
    wpAny (model X.prog X.w) X.A (call (.builtin "sorted") [.ref l] [(Str.ofString "key", .ref fa)]) (EP X pins σ Q) X.xe s := by
  obtain ⟨vs, rv, hl, hz⟩ := I.list hs
  have len : vs.length = xs.length := rv.length.symm
  refine PySem.W.sorted_of_sort hl.isList (by rw [len]; exact hz) (PyProof.Rows.ksk_s1 _ _) (fun _ => PyProof.Rows.ksk_l1 _ _) fun E' => ?_
  rw [PyProof.Rows.ksk_t1]
  have hZ : vs.length ≤ sizeLine := by rw [len]; exact hz
  have ha : (PySem.W.copyHeap s.heap vs).get? (s.heap.objs.size + 1) = some (seqObj "list" vs.toArray 0) := PySem.W.copyHeap_at s.heap vs
  have hlt := Heap.lt_size ha
  generalize eh1 : PySem.W.copyHeap s.heap vs = h1 at ha hlt ⊢
  have k1 : ∀ b o, s.heap.get? b = some o → h1.get? b = some o := fun b o e => by rw [← eh1]; exact PySem.W.copyHeap_old e
  generalize ea : s.heap.objs.size + 1 = a at ha hlt ⊢
  obtain ⟨e1, ho1⟩ : ∃ e1, (h1.update a (Obj.mapSeq fun _ => (#[] : Array Value))).get? a = some (seqObj "list" #[] e1) := ⟨_, get?_update_seq ha fun _ => #[]⟩
  have hkS : ((h1.update a (Obj.mapSeq fun _ => (#[] : Array Value))).push (seqObj "tuple" vs.toArray 0)).objs.size = h1.objs.size + 1 := by rw [size_push', Heap.size_update]
  unfold PyProof.Rows.ksk_tree
  refine wpAny_bind (listItems_at ha rfl ?_)
  refine wpAny_bind (listUpdate_at ha rfl ?_ (by rw [List.size_toArray]; exact hZ) (Nat.zero_le _))
  refine wpAny_bind (seqEpoch_at ho1 rfl ?_)
  refine wpAny_bind (wpAny_newTuple ?_ (by show vs.length ≤ _; exact hZ))
  refine wpAny_bind (wpAny_newList ?_ (Nat.zero_le _))
  refine wpAny_holding ?_
  show wpAny _ _ _ _ _ { s with heap := ((h1.update a (Obj.mapSeq fun _ => (#[] : Array Value))).push (seqObj "tuple" vs.toArray 0)).push (seqObj "list" #[] 0) }
  have na2 : (((h1.update a (Obj.mapSeq fun _ => (#[] : Array Value))).push (seqObj "tuple" vs.toArray 0)).push (seqObj "list" #[] 0)).get? a = some (seqObj "list" #[] e1) := Heap.get?_push_of_some _ (Heap.get?_push_of_some _ ho1)
  have nk2 : (((h1.update a (Obj.mapSeq fun _ => (#[] : Array Value))).push (seqObj "tuple" vs.toArray 0)).push (seqObj "list" #[] 0)).get? (h1.objs.size + 1) = some (seqObj "list" #[] 0) := by
    rw [← hkS]; exact Heap.get?_push_size _ rfl
  have k2 : ∀ b o, s.heap.get? b = some o → (((h1.update a (Obj.mapSeq fun _ => (#[] : Array Value))).push (seqObj "tuple" vs.toArray 0)).push (seqObj "list" #[] 0)).get? b = some o := fun b o e => by
    have hb : b ≠ a := Nat.ne_of_lt (ea ▸ Nat.lt_succ_of_lt (Heap.lt_size e))
    exact Heap.get?_push_of_some _ (Heap.get?_push_of_some _ ((Heap.get?_update_ne _ _ _ _ hb).trans (k1 _ _ e)))
  have sa : s.heap.objs.size ≤ a := ea ▸ Nat.le_succ _
  have hsk : s.heap.objs.size ≤ h1.objs.size + 1 := Nat.le_succ_of_le (Nat.le_trans sa (Nat.le_of_lt hlt))
  have hka : h1.objs.size + 1 ≠ a := Nat.ne_of_gt (Nat.lt_succ_of_lt hlt)
  rw [show (Value.ref ((h1.update a (Obj.mapSeq fun _ => (#[] : Array Value))).push (seqObj "tuple" vs.toArray 0)).objs.size) = Value.ref (h1.objs.size + 1) by rw [hkS]]
  generalize ((h1.update a (Obj.mapSeq fun _ => (#[] : Array Value))).push (seqObj "tuple" vs.toArray 0)).push (seqObj "list" #[] 0) = h2 at na2 nk2 k2 ⊢
  generalize h1.objs.size + 1 = kS at nk2 hsk hka ⊢
  have hf : H kS = none := I.hok.fresh hsk
  have hfa : H a = none := I.hok.fresh sa
  obtain ⟨φ, hφ⟩ : ∃ φ : Heap → Prop, φ = fun h => h.get? a = some (seqObj "list" #[] e1) := ⟨_, rfl⟩
  have φst : ∀ h1 h2 : Heap, φ h1 → (∀ o, h1.get? a = some o → h2.get? a = some o) → φ h2 := fun g1 g2 p k => by rw [hφ] at p ⊢; exact k _ p
  have I2 : L2.Inv X pins σ (upd H kS (.lst [])) { s with heap := h2, toks := s.toks } := I.laid (t' := s.toks) k2 hsk ⟨Nat.zero_le _, [], 0, .nil, nk2⟩
  have I3 : L2.Inv X pins σ (upd (upd H kS (.lst [])) a (.ext φ)) { s with heap := h2, toks := s.toks } := by
    have J := I.laid (t' := s.toks) (a := a) (o := .ext φ) k2 sa ⟨by rw [hφ]; exact na2, ⟨_, na2⟩, φst⟩
    have ok3 : HOk X.prog X.w (upd (upd H kS (.lst [])) a (.ext φ)) h2 := fun b u e => by
      by_cases hb : b = a
      · subst hb
        rw [upd_same] at e
        cases e
        exact ⟨by rw [hφ]; exact na2, ⟨_, na2⟩, φst⟩
      · rw [upd_ne hb] at e
        exact (I2.hok b u e).stay (fun c v _ q => q) (fun c q => by rw [upd_ne (ne_of_none q (up_free hka.symm hfa))]; exact q) fun c ws q => by rw [upd_ne (ne_of_none q (up_free hka.symm hfa))]; exact q
    refine I.un (t' := s.toks) ⟨fun b u q _ _ _ => k2 b u q, fun b u q _ _ _ => ⟨u.slots, k2 b u q⟩, fun b u q n _ => ?_, fun b u q _ => ⟨u, k2 b u q⟩, fun b ws q => ?_, fun b u ws q => ?_, fun b ws q => ⟨#[], ?_⟩⟩ ok3
    · rw [upd_ne (Nat.ne_of_lt (Nat.lt_of_lt_of_le (Heap.lt_size q) sa)), upd_ne (Nat.ne_of_lt (Nat.lt_of_lt_of_le (Heap.lt_size q) hsk))]
      exact n
    · rw [upd_ne (ne_of_none q hfa), upd_ne (ne_of_none q hf)]; exact q
    · rw [upd_ne (ne_of_none q hfa), upd_ne (ne_of_none q hf)]; exact q
    · rw [upd_ne (ne_of_none q hfa), upd_ne (ne_of_none q hf), q]; simp
  unfold PyProof.Rows.ksk_rest
  refine wpAny_bind (wpAny_rule ?_)
  first
    | rw [List.forIn_toArray]
    | (rw [← Array.forIn_toList]; simp only [List.toList_toArray])
    | rw [← Array.forIn_toList]
  refine wpAny_bind (PyProof.Rows.ksk_fold (fun i s' => ∃ H', L2.Inv X pins σ H' s' ∧ Same H H' ∧ H' kS = some (.lst ((xs.take i).map fun x => V.int (key x))) ∧ H' a = some (.ext φ)) vs 0 _ ⟨_, I3, (Same.new hf).trans (Same.new (up_free hka.symm hfa)), by rw [List.take_zero]; exact up_ne hka upd_same, upd_same⟩ ?step ?done)
  case step =>
    rintro j v s' hv ⟨H', I', S, ek, eA⟩
    simp only [Nat.zero_add] at ek ⊢
    obtain ⟨x, hx, rx⟩ : ∃ x, xs[j]? = some x ∧ RelV x v := by
      have hj : j < xs.length := by rw [← len]; exact (List.getElem?_eq_some_iff.mp hv).1
      have hxj : xs[j]? = some xs[j] := List.getElem?_eq_getElem hj
      obtain ⟨u, hu, r⟩ := rv.get hxj
      rw [hv] at hu
      cases hu
      exact ⟨_, hxj, r⟩
    have call_ok := turn x (List.mem_of_getElem? hx) v H' s' I' S rx
    refine wpAny_bind (wpAny_attempt (wpAny_mono call_ok (fun u s'' he => ?_) fun _ _ hF => hF.elim))
    obtain ⟨v2, H2, I4, r2, e2, S2⟩ := he
    subst e2
    obtain ⟨tk, rfl⟩ := r2
    have ek2 := S2 _ _ ek
    obtain ⟨hz2, kA, e, rk, nk⟩ := I4.hok _ _ ek2
    have lk : kA.length = j := by
      have := rk.length
      rw [List.length_map, List.length_take] at this
      have hj : j < xs.length := (List.getElem?_eq_some_iff.mp hx).1
      omega
    have hj : j < xs.length := (List.getElem?_eq_some_iff.mp hx).1
    try dsimp only
    have nk' : s''.heap.get? kS = some (seqObj "list" kA.toArray e) := nk
    have s1 := Heap.SameBut.update s''.heap kS (Obj.mapSeq (·.push (Value.int (key x) tk)))
    obtain ⟨c2, hc2⟩ : ∃ c2, (s''.heap.update kS (Obj.mapSeq (·.push (Value.int (key x) tk)))).get? kS = some (seqObj "list" (kA.toArray.push (Value.int (key x) tk)) c2) := ⟨_, get?_update_seq nk' (·.push (Value.int (key x) tk))⟩
    refine wpAny_bind (listUpdate_at nk' rfl ?_ (by rw [List.size_toArray]; omega) (Nat.le_trans (Nat.le_of_eq (Array.size_push ..)) (by rw [List.size_toArray]; omega)))
    have ea2 : (xs.take (j + 1)).map (fun x => V.int (key x)) = (xs.take j).map (fun x => V.int (key x)) ++ [V.int (key x)] := by rw [take_succ_of hx, List.map_append]; rfl
    have I5 : L2.Inv X pins σ (upd H2 kS (.lst ((xs.take (j + 1)).map fun x => V.int (key x)))) { s'' with heap := s''.heap.update kS (Obj.mapSeq (·.push (Value.int (key x) tk))), toks := s''.toks } := by
      refine I4.write (e := kS) (t' := s''.toks) (by rw [ek2]; exact True.intro) (.inl rfl) (fun b u hb hu => (s1.2 b hb).trans hu) ⟨_, hc2⟩ ⟨?_, kA ++ [Value.int (key x) tk], c2, ?_, ?_⟩
      · rw [List.length_map, List.length_take]; omega
      · rw [ea2]
        exact Vals.append rk (.cons ⟨tk, rfl⟩ .nil)
      · rw [hc2]
        simp [seqObj]
    exact wpAny_pure ⟨rfl, _, I5, Same.mut (S.trans S2) hf, upd_same, up_ne hka.symm (S2 _ _ eA)⟩
  case done =>
    rintro s' ⟨H', I', S, ek, eA⟩
    rw [Nat.zero_add, len, List.take_length] at ek
    obtain ⟨hz2, kA, e, rk, nk⟩ := I'.hok _ _ ek
    have nk' : s'.heap.get? kS = some (seqObj "list" kA.toArray e) := nk
    have na' : s'.heap.get? a = some (seqObj "list" #[] e1) := by
      have := (I'.hok _ _ eA).1
      rw [hφ] at this
      exact this
    have lk : kA.length = xs.length := by have := rk.length; rw [List.length_map] at this; exact this.symm
    try dsimp only
    refine wpAny_bind (listItems_at nk' rfl ?_)
    obtain ⟨G, g1, g2⟩ := restrict s'.heap fun b => decide (b ≠ kS)
    have gk : G.get? kS = none := g2 kS (decide_eq_false fun z => z rfl)
    have gu : ∀ b o, b ≠ kS → s'.heap.get? b = some o → G.get? b = some o := fun b o hb e => by rw [g1 b (decide_eq_true hb)]; exact e
    have kp : PySem.W.KeepsBut a G s'.heap := fun b o _ hb => by
      by_cases z : b = kS
      · subst z; rw [gk] at hb; cases hb
      · rw [g1 b (decide_eq_true z)] at hb; exact hb
    have hal : PySem.W.AllAlike (xs.map fun x => PyData.int (key x)) := by
      intro d hd d' hd'
      obtain ⟨x, _, rfl⟩ := List.mem_map.mp hd
      obtain ⟨y, _, rfl⟩ := List.mem_map.mp hd'
      simp [PySem.W.alike]
    have hsk2 : PySem.W.Sortable (xs.map fun x => PyData.int (key x)) := .inr fun d hd => by
      obtain ⟨x, _, rfl⟩ := List.mem_map.mp hd
      exact ⟨(fun z => by cases z), (fun _ z => by cases z)⟩
    have hk' := each_keys' (h := s'.heap) (key := key) rk
    have hu : ∀ d, d ∈ (xs.map fun x => PyData.int (key x)) → X.A.in1.in1.units + d.depth < cLine := by
      intro d hd
      obtain ⟨x, _, rfl⟩ := List.mem_map.mp hd
      have := hr.un
      have hr2 : Room 0 X.A.in1.in1 := hr.in1.in1
      have := hr2.un
      simp only [PyData.depth]
      omega
    refine PySem.W.keyH_end (κ := PySem.W.dataKind s'.heap (xs.map fun x => PyData.int (key x))) (b := false) (h₁ := G) (keys := kA.toArray) kp gk nk' na' hka (by rw [List.toList_toArray]; exact PySem.W.SortsAt.data hk' hal hsk2 hu) (by rw [List.size_toArray, lk, len]) hZ fun h3 tk3 c k3 n3 => ⟨rfl, ?_⟩
    have ko : PySem.W.KeyedOut false (xs.map fun x => PyData.int (key x)) vs (PySem.W.sortVals (PySem.W.dataKind s'.heap (xs.map fun x => PyData.int (key x))) false kA vs) := ⟨s'.heap, kA, hal, rfl, hk'⟩
    rw [List.toList_toArray] at n3
    generalize PySem.W.sortVals (PySem.W.dataKind s'.heap (xs.map fun x => PyData.int (key x))) false kA vs = out at n3 ko
    have eo := PySem.W.keyedOut_each (fun x => PyData.int (key x)) ko (each_vals rv)
    rw [PySem.W.dataLe_int] at eo
    have pm : (xs.mergeSort fun a b => decide (key a ≤ key b)).Perm xs := List.mergeSort_perm _ _
    have srt : ((xs.mergeSort fun a b => decide (key a ≤ key b)).map key).Pairwise (· ≤ ·) := by
      rw [List.pairwise_map]
      have := List.pairwise_mergeSort (le := fun a b => decide (key a ≤ key b)) (fun a b c h1 h2 => by simp only [decide_eq_true_eq] at *; omega) (fun a b => by simp only [Bool.or_eq_true, decide_eq_true_eq]; omega) xs
      exact this.imp fun h => of_decide_eq_true h
    generalize (xs.mergeSort fun a b => decide (key a ≤ key b)) = ys at eo pm srt
    have ro := vals_each eo
    have n0 : X.s_0.heap.get? kS = none := Heap.get?_none_of_le (Nat.le_trans I.sz hsk)
    have I6 : L2.Inv X pins σ (delH H' kS) { s' with heap := G, toks := s'.toks } := Inv.lose (t := s'.toks) I' ek n0 gu
    have eA6 : delH H' kS a = some (.ext φ) := by rw [delH_ne hka.symm]; exact eA
    have I7 : L2.Inv X pins σ (upd (delH H' kS) a (.lst ys)) { s' with heap := h3, toks := tk3 } :=
      I6.write (e := a) (t' := tk3) (by rw [eA6]; exact True.intro) (.inl rfl) (fun b u hb hu => k3 b u hb hu) ⟨_, n3⟩ ⟨by rw [pm.length_eq]; exact hz, out, c, ro, n3⟩
    refine ⟨.ref a, _, I7, rfl, q ys a _ (fun b o e => ?_) hfa upd_same pm srt⟩
    have b1 : b ≠ a := ne_of_none e hfa
    have b2 : b ≠ kS := ne_of_none e hf
    rw [upd_ne b1, delH_ne b2]
    exact S b o e
theorem sorted_key_run {fa : Addr} {fd : FuncData} {ps : List Str} {k : Nat} {sp : Sp} {key : V → Int} {l : Addr} {xs : List V} (F : FnG X.prog X.w X.K X.mg X.base k fa fd ps sp) (hr : Room (k + 2) X.A) (hG : X.A.guards = some []) (hb : Binds X.K fd ps []) (hc : X.calm = true)
    (I : L2.Inv X pins σ H s) (hs : SqL X.K H l xs) (turn : ∀ x ∈ xs, ∀ H', Same H H' → sp [x] H' (fun v H2 => v = .int (key x) ∧ Same H' H2) fun _ _ _ => False)
    (q : ∀ ys p H', Same H H' → H p = none → H' p = some (.lst ys) → ys.Perm xs → (ys.map key).Pairwise (· ≤ ·) → Q (.ref p) H') :
    wpAny (model X.prog X.w) X.A (call (.builtin "sorted") [.ref l] [(Str.ofString "key", .ref fa)]) (EP X pins σ Q) X.xe s := by
  refine sorted_key_runG (hr.mono (Nat.le_add_left 2 k)) I hs (fun x hx v H' s' I' S rx => ?_) q
  have hG2 : X.A.in1.in1.guards = some [] := hG
  have hr2 : Room k X.A.in1.in1 := hr.in1.in1
  have hsp := turn x hx H' S
  have sizes : ([v] ++ []).length = ps.length := by
    have b := F.len _ _ _ _ hsp
    simpa using b
  have bound := hb s' [v] I'.kIn sizes
  rw [List.append_nil] at bound
  have call_ok : wpAny (model X.prog X.w) X.A.in1.in1 (call (.ref fa) [v]) (EP X pins σ (fun v H2 => v = .int (key x) ∧ Same H' H2)) (fun _ _ => False) s' := by
    apply wpAny_call
    apply codeAny_mono (F.run X.A.in1.in1 X.stack s' H' ⟨[v], []⟩ [v] [x] _ _ hr2 hG2 I'.env0.in1.in1 bound (.cons rx .nil) hsp)
    intro res s'' got
    match res, got with
    | .error err, got =>
      obtain ⟨_, _, _, _, _, _, _, _, _, _, _, _, z⟩ := got
      exact z.elim
    | .ok (.ret u), got => exact I'.after got
    | .ok .next, got => exact got.elim
    | .ok .brk, got => exact got.elim
    | .ok .cont, got => exact got.elim
  exact call_ok
end
/-- sorted(l, key=f) -/
def rSortF (K : PySem.W.Frag) (sp : Sp) (fa : Addr) : List V → List V → Hp → VK → Prop := fun vs zs H Q => ∃ (l : Addr) (xs : List V) (key : V → Int), vs = [.ref l] ∧ zs = [.ref fa] ∧ SqL K H l xs ∧
  (∀ x ∈ xs, ∀ H', Same H H' → sp [x] H' (fun v H2 => v = .int (key x) ∧ Same H' H2) fun _ _ _ => False) ∧
  ∀ ys p H', Same H H' → H p = none → H' p = some (.lst ys) → ys.Perm xs → (ys.map key).Pairwise (· ≤ ·) → Q (.ref p) H'
theorem kSortF {X : Cx} {K : PySem.W.Frag} {fa : Addr} {fd : FuncData} {ps : List Str} {k : Nat} {sp : Sp} (F : FnG X.prog X.w X.K X.mg X.base k fa fd ps sp) (hr : Room (k + 2) X.A) (hG : X.A.guards = some []) (hb : Binds X.K fd ps []) (hc : X.calm = true) (hK : X.K = K := by rfl) :
    CallRK X (.builtin "sorted") [Str.ofString "key"] (rSortF K sp fa) := by
  subst hK
  intro pins s σ H vs zs us ws Q I r rz h
  obtain ⟨l, xs, key, rfl, rfl, hs, turn, q⟩ := h
  obtain rfl := Vals.ref1 r
  obtain ⟨w1, rfl, e1⟩ := vals1 rz
  obtain rfl : w1 = Value.ref fa := e1
  exact sorted_key_run F hr hG hb hc I hs turn q
theorem s_ckw {r : List V → List V → Hp → VK → Prop} {t tk : TA} {σ : Sl} {H : Hp} {Q : VK} (q : t σ H fun vs H1 => tk σ H1 fun zs H2 => r vs zs H2 Q) : tCKw r t tk σ H Q := q
/-- told trees, sorted by their least points -/
theorem s_sortLeast {K : PySem.W.Frag} {fa l : Addr} {H : Hp} {Q : VK} {xs : List V} {ts : List Tr} (h : SqL K H l xs) (hT : Paired (TAt H) xs ts) (g : ∀ t ∈ ts, t.Good)
    (q : ∀ ys us p H', Same H H' → H p = none → H' p = some (.lst ys) → us.Perm ts → Paired (TAt H') ys us → (us.map Tr.least).Pairwise (· ≤ ·) → Q (.ref p) H') : rSortF K sp_least fa [.ref l] [.ref fa] H Q := by
  classical
  obtain ⟨key, hkey⟩ : ∃ key : V → Int, ∀ x t, TAt H x t → t ∈ ts → key x = (t.least : Nat) := by
    refine ⟨fun x => if h : ∃ t, TAt H x t ∧ t ∈ ts then (h.choose.least : Nat) else 0, fun x t ht hm => ?_⟩
    have e : ∃ t, TAt H x t ∧ t ∈ ts := ⟨t, ht, hm⟩
    simp only [e, dif_pos]
    have := TAt.uniq e.choose_spec.1 ht
    rw [this]
  have each : ∀ x ∈ xs, ∃ t, TAt H x t ∧ t ∈ ts := by
    intro x hx
    obtain ⟨i, hi⟩ := List.getElem?_of_mem hx
    obtain ⟨t, ht, hxt⟩ := Paired.at' hT hi
    exact ⟨t, hxt, List.mem_of_getElem? ht⟩
  refine ⟨l, xs, key, rfl, rfl, h, fun x hx H' S => ?_, fun ys p H' S hp ep pm srt => ?_⟩
  · obtain ⟨t, ht, hm⟩ := each x hx
    exact u_least (ht.same S) (g t hm) ⟨by rw [hkey x t ht hm], Same.refl _⟩
  · obtain ⟨us, pu, hu⟩ := Paired.perm pm hT
    refine q ys us p H' S hp ep pu (TAts.same S hu) ?_
    have e : ys.map key = us.map fun t => ((Tr.least t : Nat) : Int) := by
      have hm : ∀ t ∈ us, t ∈ ts := fun t h => pu.mem_iff.mp h
      clear srt ep pm pu
      induction hu with
      | nil => rfl
      | cons a _ ih =>
        rw [List.map_cons, List.map_cons, hkey _ _ a (hm _ List.mem_cons_self), ih fun t h => hm t (List.mem_cons_of_mem _ h)]
    rw [e, List.pairwise_map] at srt
    rw [List.pairwise_map]
    exact srt.imp fun h => by omega
end J

/-! Joinside: the laws' own tree, grown in a table of nodes. -/
namespace J
open PySem PySem.Spec L2
inductive Nd where
  | leaf (p : Nat)
  | inner (w : Bool) (ids : List Nat)
inductive IT where
  | leaf (i p : Nat)
  | nd (i : Nat) (w : Bool) (cs : List IT)
theorem IT.ind {p : IT → Prop} (h1 : ∀ i n, p (.leaf i n)) (h2 : ∀ i w cs, (∀ t ∈ cs, p t) → p (.nd i w cs)) : ∀ t, p t
  | .leaf i n => h1 i n
  | .nd i w cs => h2 i w cs fun t ht => IT.ind h1 h2 t
termination_by t => sizeOf t
decreasing_by
  have := List.sizeOf_lt_of_mem ht
  simp only [IT.nd.sizeOf_spec]
  omega
def IT.id : IT → Nat
  | .leaf i _ => i
  | .nd i _ _ => i
def IT.word : IT → Str
  | .leaf _ _ => ""
  | .nd _ w _ => wd w
mutual
def IT.ids : IT → List Nat
  | .leaf i _ => [i]
  | .nd i _ cs => i :: idsL cs
def idsL : List IT → List Nat
  | [] => []
  | c :: cs => c.ids ++ idsL cs
end
mutual
/-- the inner nodes -/
def IT.iids : IT → List Nat
  | .leaf _ _ => []
  | .nd i _ cs => i :: iidsL cs
def iidsL : List IT → List Nat
  | [] => []
  | c :: cs => c.iids ++ iidsL cs
end
mutual
def IT.lids : IT → List Nat
  | .leaf i _ => [i]
  | .nd _ _ cs => lidsL cs
def lidsL : List IT → List Nat
  | [] => []
  | c :: cs => c.lids ++ lidsL cs
end
mutual
def IT.pts : IT → List Nat
  | .leaf _ p => [p]
  | .nd _ _ cs => iptsL cs
def iptsL : List IT → List Nat
  | [] => []
  | c :: cs => c.pts ++ iptsL cs
end
mutual
def IT.dep : IT → Nat
  | .leaf _ _ => 0
  | .nd _ _ cs => idepL cs + 1
def idepL : List IT → Nat
  | [] => 0
  | c :: cs => max c.dep (idepL cs)
end
mutual
/-- the table has the tree, below par -/
def Rep (N : List Nd) (ab : List (Option Nat)) : IT → Option Nat → Prop
  | .leaf i p, par => N[i]? = some (.leaf p) ∧ ab[i]? = some par
  | .nd i w cs, par => N[i]? = some (.inner w (cs.map IT.id)) ∧ ab[i]? = some par ∧ 2 ≤ cs.length ∧ RepL N ab w i cs
def RepL (N : List Nd) (ab : List (Option Nat)) (w : Bool) (i : Nat) : List IT → Prop
  | [] => True
  | c :: cs => (Rep N ab c (some i) ∧ c.word ≠ wd w) ∧ RepL N ab w i cs
end
theorem repL_iff {N : List Nd} {ab : List (Option Nat)} {w : Bool} {i : Nat} : ∀ {cs : List IT}, RepL N ab w i cs ↔ ∀ c ∈ cs, Rep N ab c (some i) ∧ c.word ≠ wd w
  | [] => by simp [RepL]
  | c :: cs => by rw [RepL, repL_iff (cs := cs)]; simp
mutual
/-- a leaf more, under q -/
def IT.app (q m p : Nat) : IT → IT
  | .leaf i x => .leaf i x
  | .nd i w cs => .nd i w (appL q m p cs ++ if i = q then [.leaf m p] else [])
def appL (q m p : Nat) : List IT → List IT
  | [] => []
  | c :: cs => c.app q m p :: appL q m p cs
end
mutual
/-- the leaf o becomes a node of two -/
def IT.spl (o m p : Nat) (w : Bool) : IT → IT
  | .leaf i x => if i = o then .nd i w [.leaf (m + 1) x, .leaf m p] else .leaf i x
  | .nd i v cs => .nd i v (splL o m p w cs)
def splL (o m p : Nat) (w : Bool) : List IT → List IT
  | [] => []
  | c :: cs => c.spl o m p w :: splL o m p w cs
end
theorem appL_eq {q m p : Nat} : ∀ cs : List IT, appL q m p cs = cs.map (IT.app q m p)
  | [] => rfl
  | c :: cs => by rw [appL, appL_eq cs, List.map_cons]
theorem splL_eq {o m p : Nat} {w : Bool} : ∀ cs : List IT, splL o m p w cs = cs.map (IT.spl o m p w)
  | [] => rfl
  | c :: cs => by rw [splL, splL_eq cs, List.map_cons]
theorem app_id {q m p : Nat} (t : IT) : (t.app q m p).id = t.id := by cases t <;> rw [IT.app] <;> rfl
theorem app_word {q m p : Nat} (t : IT) : (t.app q m p).word = t.word := by cases t <;> rw [IT.app] <;> rfl
theorem spl_id {o m p : Nat} {w : Bool} (t : IT) : (t.spl o m p w).id = t.id := by
  cases t with
  | leaf i x => rw [IT.spl]; split <;> rfl
  | nd i v cs => rw [IT.spl]; rfl
/-! ### the table after a step -/
theorem get_app {α : Type} {l r : List α} {i : Nat} {x : α} (h : l[i]? = some x) : (l ++ r)[i]? = some x := by
  rw [List.getElem?_append_left (List.getElem?_eq_some_iff.mp h).1]
  exact h
theorem get_last {α : Type} {l : List α} {x : α} : (l ++ [x])[l.length]? = some x := by simp
theorem get_set_ne {α : Type} {l : List α} {i j : Nat} {x : α} (h : i ≠ j) : (l.set j x)[i]? = l[i]? := by rw [List.getElem?_set_ne (Ne.symm h)]
theorem get_set_eq {α : Type} {l : List α} {i : Nat} {x y : α} (h : l[i]? = some y) : (l.set i x)[i]? = some x := List.getElem?_set_self (List.getElem?_eq_some_iff.mp h).1
theorem rep_app {N : List Nd} {ab : List (Option Nat)} {q p : Nat} {w : Bool} {is : List Nat} (hl : ab.length = N.length) (hq : N[q]? = some (.inner w is)) {t : IT} : ∀ {par : Option Nat}, Rep N ab t par → Rep ((N ++ [Nd.leaf p]).set q (Nd.inner w (is ++ [N.length]))) (ab ++ [some q]) (t.app q N.length p) par := by
  refine IT.ind (p := fun t => ∀ {par : Option Nat}, Rep N ab t par → Rep ((N ++ [Nd.leaf p]).set q (Nd.inner w (is ++ [N.length]))) (ab ++ [some q]) (t.app q N.length p) par) (fun i x par h => ?_) (fun i v cs ih par h => ?_) t
  · rw [Rep] at h
    rw [IT.app, Rep]
    have ne : i ≠ q := fun z => by subst z; rw [h.1] at hq; cases hq
    exact ⟨by rw [get_set_ne ne]; exact get_app h.1, get_app h.2⟩
  · rw [Rep] at h
    obtain ⟨h1, h2, h3, h4⟩ := h
    have h4 := repL_iff.mp h4
    rw [IT.app, Rep, appL_eq]
    have kids : ∀ c ∈ cs.map (IT.app q N.length p), Rep ((N ++ [Nd.leaf p]).set q (Nd.inner w (is ++ [N.length]))) (ab ++ [some q]) c (some i) ∧ c.word ≠ wd v := by
      intro c hc
      obtain ⟨d, hd, rfl⟩ := List.mem_map.mp hc
      exact ⟨ih d hd (h4 d hd).1, by rw [app_word]; exact (h4 d hd).2⟩
    have eid : (cs.map (IT.app q N.length p)).map IT.id = cs.map IT.id := by
      rw [List.map_map]
      exact List.map_congr_left fun c _ => app_id c
    by_cases e : i = q
    · subst e
      rw [hq] at h1
      injection h1 with h1
      injection h1 with e1 e2
      subst e1 e2
      rw [if_pos rfl, List.map_append, eid]
      refine ⟨by rw [get_set_eq (get_app hq)]; rfl, get_app h2, by rw [List.length_append, List.length_map]; omega, repL_iff.mpr fun c hc => ?_⟩
      rcases List.mem_append.mp hc with hc | hc
      · exact kids c hc
      · rw [List.mem_singleton] at hc
        subst hc
        have ne : N.length ≠ i := by have := (List.getElem?_eq_some_iff.mp hq).1; omega
        refine ⟨?_, fun z => wd_ne _ z.symm⟩
        rw [Rep]
        exact ⟨by rw [get_set_ne ne]; exact get_last, by rw [← hl]; exact get_last⟩
    · rw [if_neg e, List.append_nil, eid]
      exact ⟨by rw [get_set_ne e]; exact get_app h1, get_app h2, by rw [List.length_map]; exact h3, repL_iff.mpr kids⟩
theorem rep_spl {N : List Nd} {ab : List (Option Nat)} {o p x0 : Nat} {w : Bool} (hl : ab.length = N.length) (ho : N[o]? = some (.leaf x0)) (no : ∀ q v is, ab[o]? = some (some q) → N[q]? = some (.inner v is) → v ≠ w) {t : IT} : ∀ (par : Option Nat), Rep N ab t par → (∀ q, par = some q → ∃ v is, N[q]? = some (.inner v is)) →
    Rep ((N ++ [Nd.leaf p, Nd.leaf x0]).set o (Nd.inner w [N.length + 1, N.length])) (ab ++ [some o, some o]) (t.spl o N.length p w) par ∧ (∀ v, (∃ q is, par = some q ∧ N[q]? = some (.inner v is)) → t.word ≠ wd v → (t.spl o N.length p w).word ≠ wd v) := by
  have ol := (List.getElem?_eq_some_iff.mp ho).1
  have g0 : (N ++ [Nd.leaf p, .leaf x0])[N.length]? = some (.leaf p) := by simp
  have g1 : (N ++ [Nd.leaf p, .leaf x0])[N.length + 1]? = some (.leaf x0) := by simp
  have a0 : (ab ++ [some o, some o])[N.length]? = some (some o) := by rw [← hl]; simp
  have a1 : (ab ++ [some o, some o])[N.length + 1]? = some (some o) := by rw [← hl]; simp
  refine IT.ind (p := fun t => ∀ (par : Option Nat), Rep N ab t par → (∀ q, par = some q → ∃ v is, N[q]? = some (.inner v is)) → Rep ((N ++ [Nd.leaf p, Nd.leaf x0]).set o (Nd.inner w [N.length + 1, N.length])) (ab ++ [some o, some o]) (t.spl o N.length p w) par ∧ (∀ v, (∃ q is, par = some q ∧ N[q]? = some (.inner v is)) → t.word ≠ wd v → (t.spl o N.length p w).word ≠ wd v)) (fun i x par h hp => ?_) (fun i v cs ih par h hp => ?_) t
  · rw [Rep] at h
    rw [IT.spl]
    by_cases e : i = o
    · subst e
      rw [if_pos rfl, Rep]
      rw [ho] at h
      injection h.1 with ex
      injection ex with ex
      subst ex
      refine ⟨⟨by rw [get_set_eq (get_app ho)]; rfl, get_app h.2, by simp, repL_iff.mpr fun c hc => ?_⟩, fun v hv _ => ?_⟩
      · simp only [List.mem_cons, List.not_mem_nil, or_false] at hc
        rcases hc with rfl | rfl
        · rw [Rep]
          exact ⟨⟨by rw [get_set_ne (by omega)]; exact g1, a1⟩, fun z => wd_ne _ z.symm⟩
        · rw [Rep]
          exact ⟨⟨by rw [get_set_ne (by omega)]; exact g0, a0⟩, fun z => wd_ne _ z.symm⟩
      · obtain ⟨q, is, rfl, hq⟩ := hv
        exact fun z => no q v is h.2 hq (wd_inj z).symm
    · rw [if_neg e, Rep]
      exact ⟨⟨by rw [get_set_ne e]; exact get_app h.1, get_app h.2⟩, fun v _ hw => hw⟩
  · rw [Rep] at h
    obtain ⟨h1, h2, h3, h4⟩ := h
    have h4 := repL_iff.mp h4
    have ne : i ≠ o := fun z => by subst z; rw [h1] at ho; cases ho
    rw [IT.spl, Rep, splL_eq]
    have eid : (cs.map (IT.spl o N.length p w)).map IT.id = cs.map IT.id := by
      rw [List.map_map]
      exact List.map_congr_left fun c _ => spl_id c
    refine ⟨⟨by rw [get_set_ne ne, eid]; exact get_app h1, get_app h2, by rw [List.length_map]; exact h3, repL_iff.mpr fun c hc => ?_⟩, fun _ _ hw => hw⟩
    obtain ⟨d, hd, rfl⟩ := List.mem_map.mp hc
    obtain ⟨r1, r2⟩ := ih d hd _ (h4 d hd).1 fun q e => by
      injection e with e
      subst e
      exact ⟨_, _, h1⟩
    exact ⟨r1, r2 v ⟨i, _, rfl, h1⟩ (h4 d hd).2⟩
/-! ### its nodes, its points -/
theorem perm_mid {α : Type} {a b c d : List α} : ((a ++ b) ++ (c ++ d)).Perm ((a ++ c) ++ (b ++ d)) := by
  rw [List.append_assoc, List.append_assoc, ← List.append_assoc b c d, ← List.append_assoc c b d]
  exact List.Perm.append_left a (List.Perm.append_right d List.perm_append_comm)
theorem app_pts {q m p : Nat} {t : IT} : (t.app q m p).pts.Perm (t.pts ++ List.replicate (t.iids.count q) p) ∧ (t.app q m p).lids.Perm (t.lids ++ List.replicate (t.iids.count q) m) ∧ (t.app q m p).ids.Perm (t.ids ++ List.replicate (t.iids.count q) m) := by
  refine IT.ind (p := fun t => (t.app q m p).pts.Perm (t.pts ++ List.replicate (t.iids.count q) p) ∧ (t.app q m p).lids.Perm (t.lids ++ List.replicate (t.iids.count q) m) ∧ (t.app q m p).ids.Perm (t.ids ++ List.replicate (t.iids.count q) m)) (fun i x => ?_) (fun i w cs ih => ?_) t
  · rw [IT.app, IT.iids]; simp
  · have key : ∀ ds : List IT, (∀ d ∈ ds, (d.app q m p).pts.Perm (d.pts ++ List.replicate (d.iids.count q) p) ∧ (d.app q m p).lids.Perm (d.lids ++ List.replicate (d.iids.count q) m) ∧ (d.app q m p).ids.Perm (d.ids ++ List.replicate (d.iids.count q) m)) → ∀ rest : List IT,
        (iptsL (appL q m p ds ++ rest)).Perm ((iptsL ds ++ List.replicate ((iidsL ds).count q) p) ++ iptsL rest) ∧ (lidsL (appL q m p ds ++ rest)).Perm ((lidsL ds ++ List.replicate ((iidsL ds).count q) m) ++ lidsL rest) ∧ (idsL (appL q m p ds ++ rest)).Perm ((idsL ds ++ List.replicate ((iidsL ds).count q) m) ++ idsL rest) := by
      intro ds
      induction ds with
      | nil => intro _ rest; rw [appL, iptsL, lidsL, idsL, iidsL]; simp
      | cons d ds ih2 =>
        intro h rest
        obtain ⟨a1, a2, a3⟩ := h d List.mem_cons_self
        obtain ⟨b1, b2, b3⟩ := ih2 (fun e he => h e (List.mem_cons_of_mem _ he)) rest
        rw [appL, List.cons_append, iptsL, lidsL, idsL, iidsL, List.count_append, ← List.replicate_append_replicate, ← List.replicate_append_replicate, iptsL, lidsL, idsL]
        refine ⟨?_, ?_, ?_⟩
        · refine (a1.append b1).trans ?_
          rw [← List.append_assoc]
          exact perm_mid.append_right _
        · refine (a2.append b2).trans ?_
          rw [← List.append_assoc]
          exact perm_mid.append_right _
        · refine (a3.append b3).trans ?_
          rw [← List.append_assoc]
          exact perm_mid.append_right _
    rw [IT.app]
    by_cases e : i = q
    · subst e
      obtain ⟨k1, k2, k3⟩ := key cs ih [.leaf m p]
      rw [if_pos rfl, IT.pts, IT.lids, IT.ids, IT.iids, IT.pts, IT.lids, IT.ids, List.count_cons_self, List.replicate_succ', List.replicate_succ', ← List.append_assoc, ← List.append_assoc, ← List.append_assoc]
      have e1 : iptsL [IT.leaf m p] = [p] := by rw [iptsL, iptsL, IT.pts]; rfl
      have e2 : lidsL [IT.leaf m p] = [m] := by rw [lidsL, lidsL, IT.lids]; rfl
      have e3 : idsL [IT.leaf m p] = [m] := by rw [idsL, idsL, IT.ids]; rfl
      rw [e1] at k1
      rw [e2] at k2
      rw [e3] at k3
      exact ⟨k1, k2, k3.cons i⟩
    · obtain ⟨k1, k2, k3⟩ := key cs ih []
      rw [if_neg e, List.append_nil, IT.pts, IT.lids, IT.ids, IT.iids, IT.pts, IT.lids, IT.ids, List.count_cons_of_ne e]
      rw [List.append_nil, iptsL, List.append_nil] at k1
      rw [List.append_nil, lidsL, List.append_nil] at k2
      rw [List.append_nil, idsL, List.append_nil] at k3
      exact ⟨k1, k2, k3.cons i⟩
theorem spl_pts {o m p : Nat} {w : Bool} {t : IT} : (t.spl o m p w).pts.Perm (t.pts ++ List.replicate (t.lids.count o) p) ∧ (t.spl o m p w).lids.Perm ((t.lids.map fun x => if x = o then m + 1 else x) ++ List.replicate (t.lids.count o) m) ∧ (t.spl o m p w).ids.Perm (t.ids ++ (List.replicate (t.lids.count o) (m + 1) ++ List.replicate (t.lids.count o) m)) := by
  refine IT.ind (p := fun t => (t.spl o m p w).pts.Perm (t.pts ++ List.replicate (t.lids.count o) p) ∧ (t.spl o m p w).lids.Perm ((t.lids.map fun x => if x = o then m + 1 else x) ++ List.replicate (t.lids.count o) m) ∧ (t.spl o m p w).ids.Perm (t.ids ++ (List.replicate (t.lids.count o) (m + 1) ++ List.replicate (t.lids.count o) m))) (fun i x => ?_) (fun i v cs ih => ?_) t
  · rw [IT.spl]
    by_cases e : i = o
    · subst e
      rw [if_pos rfl]
      have c : List.count i [i] = 1 := by simp
      rw [IT.pts, IT.lids, IT.ids, IT.lids, IT.pts, IT.ids, c]
      rw [iptsL, iptsL, iptsL, lidsL, lidsL, lidsL, idsL, idsL, idsL, IT.pts, IT.pts, IT.lids, IT.lids, IT.ids, IT.ids]
      simp
    · rw [if_neg e]
      have c : List.count o [i] = 0 := by simp [e]
      rw [IT.pts, IT.lids, IT.ids, c]
      simp [e]
  · have key : ∀ ds : List IT, (∀ d ∈ ds, (d.spl o m p w).pts.Perm (d.pts ++ List.replicate (d.lids.count o) p) ∧ (d.spl o m p w).lids.Perm ((d.lids.map fun x => if x = o then m + 1 else x) ++ List.replicate (d.lids.count o) m) ∧ (d.spl o m p w).ids.Perm (d.ids ++ (List.replicate (d.lids.count o) (m + 1) ++ List.replicate (d.lids.count o) m))) →
        (iptsL (splL o m p w ds)).Perm (iptsL ds ++ List.replicate ((lidsL ds).count o) p) ∧ (lidsL (splL o m p w ds)).Perm (((lidsL ds).map fun x => if x = o then m + 1 else x) ++ List.replicate ((lidsL ds).count o) m) ∧ (idsL (splL o m p w ds)).Perm (idsL ds ++ (List.replicate ((lidsL ds).count o) (m + 1) ++ List.replicate ((lidsL ds).count o) m)) := by
      intro ds
      induction ds with
      | nil => intro _; rw [splL, iptsL, lidsL, idsL]; simp
      | cons d ds ih2 =>
        intro h
        obtain ⟨a1, a2, a3⟩ := h d List.mem_cons_self
        obtain ⟨b1, b2, b3⟩ := ih2 (fun e he => h e (List.mem_cons_of_mem _ he))
        rw [splL, iptsL, lidsL, idsL, lidsL, List.count_append, List.map_append, ← List.replicate_append_replicate, ← List.replicate_append_replicate, ← List.replicate_append_replicate, iptsL, idsL]
        refine ⟨(a1.append b1).trans perm_mid, (a2.append b2).trans perm_mid, (a3.append b3).trans ?_⟩
        refine perm_mid.trans (List.Perm.append_left _ perm_mid)
    obtain ⟨k1, k2, k3⟩ := key cs ih
    rw [IT.spl, IT.pts, IT.lids, IT.ids, IT.pts, IT.lids, IT.ids]
    exact ⟨k1, k2, k3.cons i⟩
theorem ids_perm {t : IT} : t.ids.Perm (t.lids ++ t.iids) := by
  refine IT.ind (p := fun t => t.ids.Perm (t.lids ++ t.iids)) (fun i x => by rw [IT.ids, IT.lids, IT.iids, List.append_nil]) (fun i w cs ih => ?_) t
  have key : ∀ ds : List IT, (∀ d ∈ ds, d.ids.Perm (d.lids ++ d.iids)) → (idsL ds).Perm (lidsL ds ++ iidsL ds) := by
    intro ds
    induction ds with
    | nil => intro _; rw [idsL, lidsL, iidsL]; exact .refl _
    | cons d ds ih2 =>
      intro h
      rw [idsL, lidsL, iidsL]
      exact ((h d List.mem_cons_self).append (ih2 fun e he => h e (List.mem_cons_of_mem _ he))).trans perm_mid
  rw [IT.ids, IT.lids, IT.iids]
  exact ((key cs ih).cons i).trans List.perm_middle.symm
theorem mem_idsL {x : Nat} : ∀ {cs : List IT}, x ∈ idsL cs ↔ ∃ c ∈ cs, x ∈ c.ids
  | [] => by simp [idsL]
  | c :: cs => by rw [idsL, List.mem_append, mem_idsL (cs := cs)]; simp
theorem mem_lidsL {x : Nat} : ∀ {cs : List IT}, x ∈ lidsL cs ↔ ∃ c ∈ cs, x ∈ c.lids
  | [] => by simp [lidsL]
  | c :: cs => by rw [lidsL, List.mem_append, mem_lidsL (cs := cs)]; simp
theorem mem_iidsL {x : Nat} : ∀ {cs : List IT}, x ∈ iidsL cs ↔ ∃ c ∈ cs, x ∈ c.iids
  | [] => by simp [iidsL]
  | c :: cs => by rw [iidsL, List.mem_append, mem_iidsL (cs := cs)]; simp
theorem rep_at {N : List Nd} {ab : List (Option Nat)} {t : IT} : ∀ {par : Option Nat}, Rep N ab t par → (∀ x ∈ t.lids, (∃ p, N[x]? = some (.leaf p)) ∧ (ab[x]? = some par ∨ ∃ q ∈ t.iids, ab[x]? = some (some q))) ∧ (∀ x ∈ t.iids, ∃ w is, N[x]? = some (.inner w is)) := by
  refine IT.ind (p := fun t => ∀ {par : Option Nat}, Rep N ab t par → (∀ x ∈ t.lids, (∃ p, N[x]? = some (.leaf p)) ∧ (ab[x]? = some par ∨ ∃ q ∈ t.iids, ab[x]? = some (some q))) ∧ (∀ x ∈ t.iids, ∃ w is, N[x]? = some (.inner w is))) (fun i p par h => ?_) (fun i w cs ih par h => ?_) t
  · rw [Rep] at h
    refine ⟨fun x hx => ?_, fun x hx => by rw [IT.iids] at hx; cases hx⟩
    rw [IT.lids, List.mem_singleton] at hx
    subst hx
    exact ⟨⟨p, h.1⟩, .inl h.2⟩
  · rw [Rep] at h
    obtain ⟨h1, h2, h3, h4⟩ := h
    have h4 := repL_iff.mp h4
    refine ⟨fun x hx => ?_, fun x hx => ?_⟩
    · rw [IT.lids] at hx
      obtain ⟨c, hc, hx⟩ := mem_lidsL.mp hx
      obtain ⟨a1, a2⟩ := (ih c hc (h4 c hc).1).1 x hx
      refine ⟨a1, .inr ?_⟩
      rcases a2 with a2 | ⟨q, hq, a2⟩
      · exact ⟨i, by rw [IT.iids]; exact List.mem_cons_self, a2⟩
      · exact ⟨q, by rw [IT.iids]; exact List.mem_cons_of_mem _ (mem_iidsL.mpr ⟨c, hc, hq⟩), a2⟩
    · rw [IT.iids] at hx
      rcases List.mem_cons.mp hx with rfl | hx
      · exact ⟨w, _, h1⟩
      · obtain ⟨c, hc, hx⟩ := mem_iidsL.mp hx
        exact (ih c hc (h4 c hc).1).2 x hx
structure Grown (N : List Nd) (ab : List (Option Nat)) (lv : List Nat) (t : IT) : Prop where
  rep : Rep N ab t none
  root : t.id = 0
  nd : t.ids.Nodup
  len : ab.length = N.length
  lvp : lv.Perm t.lids
  pts : t.pts.Perm (List.range lv.length)
section
variable {N : List Nd} {ab : List (Option Nat)} {lv : List Nat} {t : IT}
theorem Grown.nd2 (g : Grown N ab lv t) : t.lids.Nodup ∧ t.iids.Nodup := by
  have := ids_perm.nodup_iff.mp g.nd
  exact ⟨(List.nodup_append.mp this).1, (List.nodup_append.mp this).2.1⟩
theorem Grown.lt (g : Grown N ab lv t) : ∀ x ∈ t.ids, x < N.length := by
  intro x hx
  have := ids_perm.mem_iff.mp hx
  obtain ⟨h1, h2⟩ := rep_at g.rep
  rcases List.mem_append.mp this with hx | hx
  · obtain ⟨⟨p, e⟩, _⟩ := h1 x hx
    exact (List.getElem?_eq_some_iff.mp e).1
  · obtain ⟨w, is, e⟩ := h2 x hx
    exact (List.getElem?_eq_some_iff.mp e).1
theorem Grown.leaf (g : Grown N ab lv t) {k o : Nat} (h : lv[k]? = some o) : o < N.length ∧ (∃ p, N[o]? = some (.leaf p)) ∧ (ab[o]? = some none ∨ ∃ q w is, q ∈ t.iids ∧ ab[o]? = some (some q) ∧ N[q]? = some (.inner w is)) := by
  have hm : o ∈ t.lids := g.lvp.mem_iff.mp (List.mem_of_getElem? h)
  obtain ⟨h1, h2⟩ := rep_at g.rep
  obtain ⟨⟨p, e⟩, a⟩ := h1 o hm
  refine ⟨(List.getElem?_eq_some_iff.mp e).1, ⟨p, e⟩, ?_⟩
  rcases a with a | ⟨q, hq, a⟩
  · exact .inl a
  · obtain ⟨w, is, e2⟩ := h2 q hq
    exact .inr ⟨q, w, is, hq, a, e2⟩
theorem grown_start : Grown [.leaf 0] [none] [0] (.leaf 0 0) := by
  refine ⟨?_, rfl, ?_, rfl, ?_, ?_⟩
  · rw [Rep]; exact ⟨rfl, rfl⟩
  · rw [IT.ids]; simp
  · rw [IT.lids]
  · rw [IT.pts]; exact .refl _
theorem count_one {l : List Nat} {x : Nat} (nd : l.Nodup) (h : x ∈ l) : l.count x = 1 := by
  have h1 := List.nodup_iff_count.mp nd x
  have h2 := List.count_pos_iff.mpr h
  omega
theorem Grown.app (g : Grown N ab lv t) {q : Nat} {w : Bool} {is : List Nat} (hq : q ∈ t.iids) (e : N[q]? = some (.inner w is)) :
    Grown ((N ++ [Nd.leaf lv.length]).set q (Nd.inner w (is ++ [N.length]))) (ab ++ [some q]) (lv ++ [N.length]) (t.app q N.length lv.length) := by
  obtain ⟨a1, a2, a3⟩ := app_pts (q := q) (m := N.length) (p := lv.length) (t := t)
  have c := count_one g.nd2.2 hq
  rw [c] at a1 a2 a3
  refine ⟨rep_app g.len e g.rep, by rw [app_id]; exact g.root, ?_, by simp [g.len], ?_, ?_⟩
  · refine a3.nodup_iff.mpr ?_
    rw [List.nodup_append]
    refine ⟨g.nd, by simp, fun x hx y hy => ?_⟩
    have := g.lt x hx
    simp at hy
    omega
  · exact (g.lvp.append_right _).trans a2.symm
  · refine a1.trans ?_
    rw [List.length_append, List.length_singleton, List.range_succ]
    exact g.pts.append_right _
theorem set_map {l : List Nat} {k o z : Nat} (nd : l.Nodup) (h : l[k]? = some o) : l.set k z = l.map fun x => if x = o then z else x := by
  apply List.ext_getElem
  · simp
  · intro i h1 h2
    rw [List.length_set] at h1
    obtain ⟨hk, he⟩ := List.getElem?_eq_some_iff.mp h
    rw [List.getElem_set, List.getElem_map]
    by_cases e : k = i
    · subst e; rw [if_pos rfl, if_pos he]
    · rw [if_neg e, if_neg]
      intro z
      exact e ((List.getElem_inj nd).mp (he.trans z.symm))
theorem Grown.spl (g : Grown N ab lv t) {k o x0 : Nat} {w : Bool} (hk : lv[k]? = some o) (e : N[o]? = some (.leaf x0)) (no : ∀ q v is, ab[o]? = some (some q) → N[q]? = some (.inner v is) → v ≠ w) :
    Grown ((N ++ [Nd.leaf lv.length, Nd.leaf x0]).set o (Nd.inner w [N.length + 1, N.length])) (ab ++ [some o, some o]) ((lv ++ [N.length]).set k (N.length + 1)) (t.spl o N.length lv.length w) := by
  obtain ⟨a1, a2, a3⟩ := spl_pts (o := o) (m := N.length) (p := lv.length) (w := w) (t := t)
  have hm : o ∈ t.lids := g.lvp.mem_iff.mp (List.mem_of_getElem? hk)
  have c := count_one g.nd2.1 hm
  rw [c] at a1 a2 a3
  have kl := (List.getElem?_eq_some_iff.mp hk).1
  refine ⟨(rep_spl g.len e no _ g.rep fun q z => by cases z).1, by rw [spl_id]; exact g.root, ?_, by simp [g.len], ?_, ?_⟩
  · refine a3.nodup_iff.mpr ?_
    rw [List.nodup_append]
    refine ⟨g.nd, by simp, fun x hx y hy => ?_⟩
    have := g.lt x hx
    simp at hy
    omega
  · rw [List.set_append_left _ _ kl, set_map (g.lvp.nodup_iff.mpr g.nd2.1) hk]
    exact ((g.lvp.map _).append_right _).trans a2.symm
  · refine a1.trans ?_
    rw [List.length_set, List.length_append, List.length_singleton, List.range_succ]
    exact g.pts.append_right _
end
/-! ### how deep -/
theorem iptsL_eq : ∀ cs : List IT, iptsL cs = cs.flatMap IT.pts
  | [] => rfl
  | c :: cs => by rw [iptsL, iptsL_eq cs, List.flatMap_cons]
theorem idep_mem {t : IT} : ∀ {cs : List IT}, t ∈ cs → t.dep ≤ idepL cs
  | c :: cs, h => by
    rw [idepL]
    rcases List.mem_cons.mp h with rfl | h
    · exact Nat.le_max_left _ _
    · exact Nat.le_trans (idep_mem h) (Nat.le_max_right _ _)
theorem idepL_le {d : Nat} : ∀ {cs : List IT}, (∀ t ∈ cs, t.dep ≤ d) → idepL cs ≤ d
  | [], _ => by rw [idepL]; exact Nat.zero_le _
  | c :: cs, h => by
    rw [idepL]
    exact Nat.max_le.mpr ⟨h c List.mem_cons_self, idepL_le fun t ht => h t (List.mem_cons_of_mem _ ht)⟩
theorem idep_lt {N : List Nd} {ab : List (Option Nat)} {t : IT} : ∀ {par : Option Nat}, Rep N ab t par → t.dep < t.pts.length := by
  refine IT.ind (p := fun t => ∀ {par : Option Nat}, Rep N ab t par → t.dep < t.pts.length) (fun i p par h => by rw [IT.dep, IT.pts]; simp) (fun i w cs ih par h => ?_) t
  rw [Rep] at h
  obtain ⟨h1, h2, h3, h4⟩ := h
  have h4 := repL_iff.mp h4
  have pos : ∀ c ∈ cs, c.dep < c.pts.length := fun c hc => ih c hc (h4 c hc).1
  have key : ∀ ds : List IT, (∀ d ∈ ds, d.dep < d.pts.length) → ∀ d ∈ ds, d.pts.length + ds.length ≤ (iptsL ds).length + 1 := by
    intro ds
    induction ds with
    | nil => intro _ d hd; cases hd
    | cons e ds ih2 =>
      intro h d hd
      have he := h e List.mem_cons_self
      rw [iptsL, List.length_append, List.length_cons]
      have tail : ds.length ≤ (iptsL ds).length := by
        clear ih2 hd he
        induction ds with
        | nil => exact Nat.zero_le _
        | cons r rs ih3 =>
          have h1 := ih3 fun q hq => by
            rcases List.mem_cons.mp hq with rfl | hq
            · exact h _ List.mem_cons_self
            · exact h q (List.mem_cons_of_mem _ (List.mem_cons_of_mem _ hq))
          have h2 := h r (List.mem_cons_of_mem _ List.mem_cons_self)
          rw [iptsL, List.length_append, List.length_cons]
          omega
      rcases List.mem_cons.mp hd with rfl | hd
      · omega
      · have := ih2 (fun r hr => h r (List.mem_cons_of_mem _ hr)) d hd
        omega
  have big : ∀ c ∈ cs, c.dep + 2 ≤ (iptsL cs).length := fun c hc => by
    have := key cs pos c hc
    have := pos c hc
    omega
  have le : idepL cs ≤ (iptsL cs).length - 2 := idepL_le fun c hc => by have := big c hc; omega
  match cs, h3 with
  | c :: cs, _ =>
    have := big c List.mem_cons_self
    rw [IT.dep, IT.pts]
    omega
theorem ipts_len : ∀ {cs : List IT}, (∀ c ∈ cs, 0 < c.pts.length) → cs.length ≤ (iptsL cs).length
  | [], _ => Nat.zero_le _
  | c :: cs, h => by
    have h1 := ipts_len fun d hd => h d (List.mem_cons_of_mem c hd)
    have h2 := h c List.mem_cons_self
    rw [iptsL, List.length_append, List.length_cons]
    omega
theorem ipts_mem {c : IT} : ∀ {cs : List IT}, c ∈ cs → c.pts.length ≤ (iptsL cs).length
  | d :: cs, h => by
    rw [iptsL, List.length_append]
    rcases List.mem_cons.mp h with rfl | h
    · omega
    · have := ipts_mem h; omega
theorem rep_kids {N : List Nd} {ab : List (Option Nat)} {t : IT} : ∀ {par : Option Nat}, Rep N ab t par → ∀ q ∈ t.iids, ∀ (w : Bool) (is : List Nat), N[q]? = some (.inner w is) → is.length ≤ t.pts.length := by
  refine IT.ind (p := fun t => ∀ {par : Option Nat}, Rep N ab t par → ∀ q ∈ t.iids, ∀ (w : Bool) (is : List Nat), N[q]? = some (.inner w is) → is.length ≤ t.pts.length) (fun i p par h q hq => by rw [IT.iids] at hq; cases hq) (fun i v cs ih par h q hq w is e => ?_) t
  rw [Rep] at h
  obtain ⟨h1, h2, h3, h4⟩ := h
  have h4 := repL_iff.mp h4
  rw [IT.pts]
  rw [IT.iids] at hq
  rcases List.mem_cons.mp hq with rfl | hq
  · rw [h1] at e
    injection e with e
    injection e with e1 e2
    subst e2
    rw [List.length_map]
    exact ipts_len fun c hc => by have := idep_lt (h4 c hc).1; omega
  · obtain ⟨c, hc, hq⟩ := mem_iidsL.mp hq
    exact Nat.le_trans (ih c hc (h4 c hc).1 q hq w is e) (ipts_mem hc)
end J

/-! Joinside: the table of nodes in the heap. -/
namespace J
open PySem PySem.Spec L2
/-- a node's list at r; the list of its parts' numbers at c -/
def NdAt (H : Hp) (r c : Addr) : Nd → Prop
  | .leaf p => H r = some (.lst [.str "", .int p])
  | .inner w is => H r = some (.lst [.str (wd w), .ref c]) ∧ H c = some (.lst (msk is))
theorem NdAt.same {H H' : Hp} {r c : Addr} {n : Nd} (s : Same H H') (h : NdAt H r c n) : NdAt H' r c n := by
  cases n with
  | leaf p => exact s _ _ h
  | inner w is => exact ⟨s _ _ h.1, s _ _ h.2⟩
/-- no list of it starts with a text -/
def NoStr (xs : List V) : Prop := ∀ x r, xs ≠ .str x :: r
theorem noStr_msk (is : List Nat) : NoStr (msk is) := by
  intro x r e
  cases is with
  | nil => cases e
  | cons i is => unfold msk at e; rw [List.map_cons] at e; injection e with e _; cases e
theorem noStr_ref (rs : List Addr) : NoStr (rs.map V.ref) := by
  intro x r e
  cases rs with
  | nil => cases e
  | cons i is => rw [List.map_cons] at e; injection e with e _; cases e
def optV : Option Nat → V
  | none => .non
  | some q => .int q
theorem noStr_opt (ab : List (Option Nat)) : NoStr (ab.map optV) := by
  intro x r e
  cases ab with
  | nil => cases e
  | cons i is => rw [List.map_cons] at e; injection e with e _; cases i <;> cases e
theorem NdAt.head {H : Hp} {r c : Addr} {n : Nd} (h : NdAt H r c n) : ∃ x ys, H r = some (.lst (.str x :: ys)) := by
  cases n with
  | leaf p => exact ⟨_, _, h⟩
  | inner w is => exact ⟨_, _, h.1⟩
theorem NdAt.ne {H : Hp} {r c a : Addr} {n : Nd} {xs : List V} (h : NdAt H r c n) (e : H a = some (.lst xs)) (ns : NoStr xs) : r ≠ a := by
  obtain ⟨x, ys, h⟩ := h.head
  refine ne_of h e fun z => ?_
  injection z with z
  exact ns _ _ z.symm
/-- a list without a text at its head is changed, not the node's own -/
theorem NdAt.put {H : Hp} {r c a : Addr} {n : Nd} {xs : List V} {o : HO} (h : NdAt H r c n) (e : H a = some (.lst xs)) (ns : NoStr xs) (hc : ∀ w is, n = .inner w is → c ≠ a) : NdAt (upd H a o) r c n := by
  have hr := h.ne e ns
  cases n with
  | leaf p => exact up_ne hr h
  | inner w is => exact ⟨up_ne hr h.1, up_ne (hc _ _ rfl) h.2⟩
structure GrowAt (H0 H : Hp) (nl al ll : Addr) (rs : List Addr) (cA : Nat → Addr) (N : List Nd) (ab : List (Option Nat)) (lv : List Nat) : Prop where
  S : Same H0 H
  hn : H nl = some (.lst (rs.map V.ref))
  ha : H al = some (.lst (ab.map optV))
  hl : H ll = some (.lst (msk lv))
  fr : H0 nl = none ∧ H0 al = none ∧ H0 ll = none
  ne : nl ≠ al ∧ nl ≠ ll ∧ al ≠ ll
  len : rs.length = N.length
  at_ : ∀ (i : Nat) (n : Nd) (r : Addr), N[i]? = some n → rs[i]? = some r → NdAt H r (cA i) n
  fc : ∀ (i : Nat) (w : Bool) (is : List Nat), N[i]? = some (.inner w is) → H0 (cA i) = none ∧ cA i ≠ nl ∧ cA i ≠ al ∧ cA i ≠ ll ∧ ∀ (j : Nat) (v : Bool) (js : List Nat), N[j]? = some (.inner v js) → cA i = cA j → i = j
section
variable {H0 H : Hp} {nl al ll : Addr} {rs : List Addr} {cA : Nat → Addr} {N : List Nd} {ab : List (Option Nat)} {lv : List Nat}
theorem GrowAt.same {H' : Hp} (G : GrowAt H0 H nl al ll rs cA N ab lv) (s : Same H H') : GrowAt H0 H' nl al ll rs cA N ab lv :=
  ⟨G.S.trans s, s _ _ G.hn, s _ _ G.ha, s _ _ G.hl, G.fr, G.ne, G.len, fun i n r h1 h2 => (G.at_ i n r h1 h2).same s, G.fc⟩
theorem GrowAt.setL (G : GrowAt H0 H nl al ll rs cA N ab lv) (lv' : List Nat) : GrowAt H0 (upd H ll (.lst (msk lv'))) nl al ll rs cA N ab lv' :=
  ⟨Same.mut G.S G.fr.2.2, up_ne G.ne.2.1 G.hn, up_ne G.ne.2.2 G.ha, upd_same, G.fr, G.ne, G.len, fun i n r h1 h2 => (G.at_ i n r h1 h2).put G.hl (noStr_msk _) fun w is e => by subst e; exact (G.fc i w is h1).2.2.2.1, G.fc⟩
theorem GrowAt.setA (G : GrowAt H0 H nl al ll rs cA N ab lv) (ab' : List (Option Nat)) : GrowAt H0 (upd H al (.lst (ab'.map optV))) nl al ll rs cA N ab' lv :=
  ⟨Same.mut G.S G.fr.2.1, up_ne G.ne.1 G.hn, upd_same, up_ne G.ne.2.2.symm G.hl, G.fr, G.ne, G.len, fun i n r h1 h2 => (G.at_ i n r h1 h2).put G.ha (noStr_opt _) fun w is e => by subst e; exact (G.fc i w is h1).2.2.1, G.fc⟩
/-- a leaf more: its list at r -/
theorem GrowAt.push (G : GrowAt H0 H nl al ll rs cA N ab lv) {r : Addr} {p : Nat} (hr : H r = some (.lst [.str "", .int p])) : GrowAt H0 (upd H nl (.lst ((rs ++ [r]).map V.ref))) nl al ll (rs ++ [r]) cA (N ++ [.leaf p]) ab lv := by
  have rn : NdAt H r r (.leaf p) := hr
  have fc : ∀ (i : Nat) (w : Bool) (is : List Nat), (N ++ [Nd.leaf p])[i]? = some (.inner w is) → N[i]? = some (.inner w is) := by
    intro i w is h
    by_cases e : i < N.length
    · rw [List.getElem?_append_left e] at h; exact h
    · rw [List.getElem?_append_right (by omega)] at h
      have : i - N.length = 0 ∨ i - N.length ≠ 0 := by omega
      rcases this with z | z
      · rw [z] at h; cases h
      · rw [List.getElem?_eq_none (by simp; omega)] at h; cases h
  refine ⟨Same.mut G.S G.fr.1, upd_same, up_ne G.ne.1.symm G.ha, up_ne G.ne.2.1.symm G.hl, G.fr, G.ne, by simp [G.len], fun i n r' h1 h2 => ?_, fun i w is h => ?_⟩
  · by_cases e : i < N.length
    · rw [List.getElem?_append_left e] at h1
      rw [List.getElem?_append_left (by rw [G.len]; exact e)] at h2
      exact (G.at_ i n r' h1 h2).put G.hn (noStr_ref _) fun w is e => by subst e; exact (G.fc i w is h1).2.1
    · have hl := (List.getElem?_eq_some_iff.mp h1).1
      rw [List.length_append, List.length_singleton] at hl
      have ei : i = N.length := by omega
      subst ei
      have h2' : r = r' := by
        rw [← G.len] at h2
        rw [get_last] at h2
        exact Option.some.inj h2
      rw [get_last] at h1
      cases h1
      subst h2'
      exact up_ne (rn.ne G.hn (noStr_ref _)) hr
  · obtain ⟨f1, f2, f3, f4, f5⟩ := G.fc i w is (fc i w is h)
    exact ⟨f1, f2, f3, f4, fun j v js hj => f5 j v js (fc j v js hj)⟩
/-- a part more of the node q -/
theorem GrowAt.part (G : GrowAt H0 H nl al ll rs cA N ab lv) {q : Nat} {w : Bool} {is : List Nat} (hq : N[q]? = some (.inner w is)) (m : Nat) : GrowAt H0 (upd H (cA q) (.lst (msk (is ++ [m])))) nl al ll rs cA (N.set q (.inner w (is ++ [m]))) ab lv := by
  obtain ⟨c1, c2, c3, c4, c5⟩ := G.fc q w is hq
  have ql := (List.getElem?_eq_some_iff.mp hq).1
  obtain ⟨rq, hrq⟩ : ∃ r, rs[q]? = some r := ⟨_, List.getElem?_eq_getElem (by rw [G.len]; exact ql)⟩
  have nq := G.at_ q _ rq hq hrq
  have ec : H (cA q) = some (.lst (msk is)) := nq.2
  have back : ∀ (i : Nat) (v : Bool) (js : List Nat), (N.set q (Nd.inner w (is ++ [m])))[i]? = some (.inner v js) → ∃ v' js', N[i]? = some (.inner v' js') := by
    intro i v js h
    by_cases e : i = q
    · subst e; exact ⟨_, _, hq⟩
    · rw [get_set_ne e] at h; exact ⟨_, _, h⟩
  refine ⟨Same.mut G.S c1, up_ne c2.symm G.hn, up_ne c3.symm G.ha, up_ne c4.symm G.hl, G.fr, G.ne, by rw [List.length_set]; exact G.len, fun i n r h1 h2 => ?_, fun i v js h => ?_⟩
  · by_cases e : i = q
    · subst e
      rw [get_set_eq hq] at h1
      cases h1
      rw [hrq] at h2
      cases h2
      exact ⟨up_ne (nq.ne ec (noStr_msk _)) nq.1, upd_same⟩
    · rw [get_set_ne e] at h1
      exact (G.at_ i n r h1 h2).put ec (noStr_msk _) fun v js ev z => by subst ev; exact e ((G.fc i v js h1).2.2.2.2 q w is hq z)
  · obtain ⟨v', js', h'⟩ := back i v js h
    obtain ⟨f1, f2, f3, f4, f5⟩ := G.fc i v' js' h'
    refine ⟨f1, f2, f3, f4, fun j u ks hj z => ?_⟩
    obtain ⟨u', ks', hj'⟩ := back j u ks hj
    exact f5 j u' ks' hj' z
/-- a node is another one: its list at r, its parts at c -/
theorem GrowAt.turn (G : GrowAt H0 H nl al ll rs cA N ab lv) {o m k : Nat} {x0 : Nat} {w : Bool} {r c : Addr} (ho : N[o]? = some (.leaf x0)) (hr : H r = some (.lst [.str (wd w), .ref c])) (hc : H c = some (.lst (msk [m, k]))) (fc0 : H0 c = none) (cn : c ≠ nl) (ca : c ≠ al) (cl : c ≠ ll)
    (cf : ∀ (i : Nat) (v : Bool) (js : List Nat), N[i]? = some (.inner v js) → cA i ≠ c) : GrowAt H0 (upd H nl (.lst ((rs.set o r).map V.ref))) nl al ll (rs.set o r) (fun i => if i = o then c else cA i) (N.set o (.inner w [m, k])) ab lv := by
  have rn : NdAt H r c (.inner w [m, k]) := ⟨hr, hc⟩
  have ol := (List.getElem?_eq_some_iff.mp ho).1
  refine ⟨Same.mut G.S G.fr.1, upd_same, up_ne G.ne.1.symm G.ha, up_ne G.ne.2.1.symm G.hl, G.fr, G.ne, by rw [List.length_set, List.length_set]; exact G.len, fun i n r' h1 h2 => ?_, fun i v js h => ?_⟩
  · by_cases e : i = o
    · subst e
      rw [get_set_eq ho] at h1
      cases h1
      obtain ⟨rq, hrq⟩ : ∃ r, rs[i]? = some r := ⟨_, List.getElem?_eq_getElem (by rw [G.len]; exact ol)⟩
      rw [get_set_eq hrq] at h2
      cases h2
      simp only [if_true]
      exact rn.put G.hn (noStr_ref _) fun _ _ _ => cn
    · rw [get_set_ne e] at h1 h2
      simp only [e, if_false]
      exact (G.at_ i n r' h1 h2).put G.hn (noStr_ref _) fun w is ew => by subst ew; exact (G.fc i w is h1).2.1
  · by_cases e : i = o
    · subst e
      simp only [if_true]
      refine ⟨fc0, cn, ca, cl, fun j u ks hj z => ?_⟩
      by_cases e2 : j = i
      · exact e2.symm
      · rw [get_set_ne e2] at hj
        simp only [e2, if_false] at z
        exact absurd z.symm (cf j u ks hj)
    · rw [get_set_ne e] at h
      simp only [e, if_false]
      obtain ⟨f1, f2, f3, f4, f5⟩ := G.fc i v js h
      refine ⟨f1, f2, f3, f4, fun j u ks hj z => ?_⟩
      by_cases e2 : j = o
      · subst e2
        simp only [if_true] at z
        exact absurd z (cf i v js h)
      · rw [get_set_ne e2] at hj
        simp only [e2, if_false] at z
        exact f5 j u ks hj z
end
/-! ### the told tree of the table -/
/-- the table alone, as it is read -/
structure TabAt (H : Hp) (nl : Addr) (rs : List Addr) (cA : Nat → Addr) (N : List Nd) : Prop where
  hn : H nl = some (.lst (rs.map V.ref))
  len : rs.length = N.length
  at_ : ∀ (i : Nat) (n : Nd) (r : Addr), N[i]? = some n → rs[i]? = some r → NdAt H r (cA i) n
theorem TabAt.same {H H' : Hp} {nl : Addr} {rs : List Addr} {cA : Nat → Addr} {N : List Nd} (h : TabAt H nl rs cA N) (s : Same H H') : TabAt H' nl rs cA N := ⟨s _ _ h.hn, h.len, fun i n r h1 h2 => (h.at_ i n r h1 h2).same s⟩
theorem GrowAt.tab {H0 H : Hp} {nl al ll : Addr} {rs : List Addr} {cA : Nat → Addr} {N : List Nd} {ab : List (Option Nat)} {lv : List Nat} (G : GrowAt H0 H nl al ll rs cA N ab lv) : TabAt H nl rs cA N := ⟨G.hn, G.len, G.at_⟩
def sp__law_told (K : PySem.W.Frag) (d : Nat) : Sp := fun vs H Q _ => ∃ (nl nm : Addr) (rs : List Addr) (cA : Nat → Addr) (N : List Nd) (ab : List (Option Nat)) (names : List Nat) (t : IT) (par : Option Nat), vs = [.ref nl, .int (t.id : Nat), .ref nm] ∧
  TabAt H nl rs cA N ∧ Rep N ab t par ∧ SqL K H nm (msk names) ∧ names.Nodup ∧ (∀ x ∈ names, x < 30) ∧ t.pts.Nodup ∧ (∀ p ∈ t.pts, p < names.length) ∧ t.dep < d ∧
  ∀ u H' T, Same H H' → T.Good → T.word = t.word → T.pts.Perm (t.pts.map fun p => names.getD p 0) → TAt H' u T → Q u H'
theorem ipts_part {c : IT} : ∀ {cs : List IT}, (iptsL cs).Nodup → c ∈ cs → c.pts.Nodup ∧ ∀ p ∈ c.pts, p ∈ iptsL cs
  | d :: cs, nd, h => by
    rw [iptsL, List.nodup_append] at nd
    rw [iptsL]
    rcases List.mem_cons.mp h with rfl | h
    · exact ⟨nd.1, fun p hp => List.mem_append_left _ hp⟩
    · obtain ⟨h1, h2⟩ := ipts_part nd.2.1 h
      exact ⟨h1, fun p hp => List.mem_append_right _ (h2 p hp)⟩
theorem getD_inj {l : List Nat} (nd : l.Nodup) {i j : Nat} (hi : i < l.length) (hj : j < l.length) (e : l.getD i 0 = l.getD j 0) : i = j := by
  rw [List.getD_eq_getElem?_getD, List.getD_eq_getElem?_getD, List.getElem?_eq_getElem hi, List.getElem?_eq_getElem hj] at e
  exact (List.getElem_inj nd).mp e
theorem map_nodup {names : List Nat} (nd : names.Nodup) {ps : List Nat} (np : ps.Nodup) (lt : ∀ p ∈ ps, p < names.length) : (ps.map fun p => names.getD p 0).Nodup := by
  unfold List.Nodup
  rw [List.pairwise_map]
  exact List.Pairwise.imp_of_mem (fun ha hb ne e => ne (getD_inj nd (lt _ ha) (lt _ hb) e)) np
/-- what stands for a part -/
def Stands (names : List Nat) (H : Hp) (u : V) (c : IT) : Prop := ∃ T : Tr, T.Good ∧ T.word = c.word ∧ T.pts.Perm (c.pts.map fun p => names.getD p 0) ∧ TAt H u T
theorem stands_all {names : List Nat} {H : Hp} : ∀ {us : List V} {cs : List IT}, Paired (Stands names H) us cs → ∃ Ts, Paired (TAt H) us Ts ∧ (∀ T ∈ Ts, T.Good ∧ ∃ c ∈ cs, T.word = c.word) ∧ (ptsL Ts).Perm ((iptsL cs).map fun p => names.getD p 0) ∧ Ts.length = cs.length
  | _, _, .nil => ⟨[], .nil, (fun T h => by cases h), (by rw [ptsL, iptsL]; exact .refl _), rfl⟩
  | _, _, .cons (b := c) a b => by
    obtain ⟨T, g, w, p, h⟩ := a
    obtain ⟨Ts, h1, h2, h3, h4⟩ := stands_all b
    refine ⟨T :: Ts, .cons h h1, fun U hU => ?_, ?_, by rw [List.length_cons, List.length_cons, h4]⟩
    · rcases List.mem_cons.mp hU with rfl | hU
      · exact ⟨g, c, List.mem_cons_self, w⟩
      · obtain ⟨g2, d, hd, e⟩ := h2 U hU
        exact ⟨g2, d, List.mem_cons_of_mem _ hd, e⟩
    · rw [ptsL, iptsL, List.map_append]
      exact p.append h3
/-- parts in order make a tree -/
theorem sorted_good {j : Bool} {us Ts : List Tr} (pm : us.Perm Ts) (l2 : 2 ≤ Ts.length) (g : ∀ T ∈ Ts, T.Good ∧ T.word ≠ wd j) (nd : (ptsL Ts).Nodup) (srt : (us.map Tr.least).Pairwise (· ≤ ·)) : (Tr.nd j us).Good := by
  have pp : (ptsL us).Perm (ptsL Ts) := by rw [ptsL_eq, ptsL_eq]; exact pm.flatMap_right _
  have nd2 := pp.nodup_iff.mpr nd
  have gu : ∀ T ∈ us, T.Good ∧ T.word ≠ wd j := fun T h => g T (pm.mem_iff.mp h)
  rw [Tr.Good]
  refine ⟨by rw [pm.length_eq]; exact l2, goodL_iff.mpr gu, nd2, ?_⟩
  rw [List.pairwise_map] at srt ⊢
  have dist : us.Pairwise fun a b => a.least ≠ b.least := by
    clear srt pp pm l2
    induction us with
    | nil => exact .nil
    | cons u us ih =>
      rw [ptsL] at nd2
      obtain ⟨n1, n2, n3⟩ := List.nodup_append.mp nd2
      refine List.pairwise_cons.mpr ⟨fun v hv e => ?_, ih n2 fun T h => gu T (List.mem_cons_of_mem _ h)⟩
      have m1 := Tr.least_mem (gu u List.mem_cons_self).1
      have m2 := mem_ptsL.mpr ⟨v, hv, Tr.least_mem (gu v (List.mem_cons_of_mem _ hv)).1⟩
      exact n3 _ m1 _ m2 e
  exact (List.pairwise_and_iff.mpr ⟨srt, dist⟩).imp fun h => by omega
def sp__law_tree (K : PySem.W.Frag) : Sp := fun vs H Q _ => ∃ (a nm : Addr) (ns : List Int) (most : Nat) (names : List Nat), vs = [.ref a, .int most, .ref nm] ∧ SqL K H a (ns.map V.int) ∧ ns.length ≤ 63 ∧ 1 ≤ most ∧ most ≤ 30 ∧ SqL K H nm (msk names) ∧ names.Nodup ∧ (∀ x ∈ names, x < 30) ∧ 1 + min (most - 1) ns.length ≤ names.length ∧
  ∀ u H' T, Same H H' → T.Good → T.pts.Perm (names.take (1 + min (most - 1) ns.length)) → TAt H' u T → Q u H'
theorem take_range {names : List Nat} {n : Nat} (h : n ≤ names.length) : (List.range n).map (fun p => names.getD p 0) = names.take n := by
  apply List.ext_getElem
  · simp; omega
  · intro i h1 h2
    rw [List.length_map, List.length_range] at h1
    rw [List.getElem_map, List.getElem_range, List.getElem_take, List.getD_eq_getElem?_getD, List.getElem?_eq_getElem (by omega)]
    rfl
theorem s_index {K : PySem.W.Frag} {H : Hp} {Q : VK} {a : Addr} {is : List Nat} {k o : Nat} (h : SqL K H a (msk is)) (hk : is[k]? = some o) (first : ∀ m, m < k → is[m]? ≠ some o) (q : Q (.int k) H) : rIndex K (.ref a) [.int o] H Q := by
  have kl := (List.getElem?_eq_some_iff.mp hk).1
  refine ⟨a, msk is, .int o, k, .int o, rfl, rfl, h, rfl, flat_msk is, ?_, by simp [eqV], fun m z hm hz => ?_, q⟩
  · have := msk_get kl
    rw [List.getD_eq_getElem?_getD, hk] at this
    exact this
  · have ml : m < is.length := by omega
    rw [msk_get ml] at hz
    cases hz
    have n := first m hm
    rw [getD_at ml] at n
    show ((is.getD m 0 : Int) == (o : Int)) = false
    rw [Bool.beq_eq_decide_eq, decide_eq_false_iff_not]
    intro e
    exact n (by congr 1; omega)
theorem opt_get {ab : List (Option Nat)} {o : Nat} {x : Option Nat} (h : ab[o]? = some x) : (ab.map optV)[o]? = some (optV x) := by rw [List.getElem?_map, h]; rfl
theorem ref_get {rs : List Addr} {o : Nat} {x : Addr} (h : rs[o]? = some x) : (rs.map V.ref)[o]? = some (V.ref x) := by rw [List.getElem?_map, h]; rfl
end J

/-! Joinside: repr of any data, isinstance of trees. -/
namespace J
open PySem PySem.Spec PyProof.Rows L2
def rReprA (K : PySem.W.Frag) : List V → Hp → VK → Prop := fun xs H Q => ∃ (v : V) (d : PyData), xs = [v] ∧ Dp K H v d ∧ d.showable = true ∧ d.depth ≤ 100 ∧ d.shown.length ≤ sizeLine ∧ Q (.str d.shown) H
theorem call_reprA {X : Cx} (hG : X.A.guards = some []) (hu : X.A.units + 200 < cLine) : CallR X (.builtin "repr") (rReprA X.K) := by
  intro pins s σ H xs us Q I r h
  obtain ⟨v, d, rfl, hd, hs, hp, hz, q⟩ := h
  cases hd with
  | non =>
    obtain ⟨u, rfl, ru⟩ := vals1 r
    obtain rfl : u = Value.none := ru
    exact PySem.P.repr_of_none ⟨.str (PyData.shown .none), H, I.tok _, ⟨s.toks, by simp only [PyData.shown]⟩, q⟩
  | bl b =>
    obtain ⟨u, rfl, ru⟩ := vals1 r
    obtain rfl : u = Value.bool b := ru
    exact PySem.P.repr_of_bool ⟨.str (PyData.shown (.bool b)), H, I.tok _, ⟨s.toks, by simp only [PyData.shown]⟩, q⟩
  | int i =>
    obtain ⟨u, rfl, t, rfl⟩ := vals1 r
    simp only [PyData.showable, decide_eq_true_eq] at hs
    exact PySem.P.repr_of_int hs ⟨.str (PyData.shown (.int i)), H, I.tok _, ⟨s.toks, by simp only [PyData.shown]⟩, q⟩
  | str x =>
    obtain ⟨u, rfl, t, rfl⟩ := vals1 r
    exact PySem.P.repr_of_str ⟨.str (PyData.shown (.str x)), H, I.tok _, ⟨s.toks, by simp only [PyData.shown]⟩, q⟩ (by simpa only [PyData.shown] using hz)
  | lst h1 h2 => exact call_repr hG hu pins s σ H _ us Q I r ⟨_, _, rfl, .lst h1 h2, hs, hp, hz, q⟩
  | tup h1 h2 => exact call_repr hG hu pins s σ H _ us Q I r ⟨_, _, rfl, .tup h1 h2, hs, hp, hz, q⟩
theorem kReprA {X : Cx} {K : PySem.W.Frag} (hG : X.A.guards = some []) (hu : X.A.units + 200 < cLine) (hK : X.K = K := by rfl) : CallR X (.builtin "repr") (rReprA K) := by subst hK; exact call_reprA hG hu
section
variable {K : PySem.W.Frag} {H : Hp} {Q : VK} {a : Addr} {v : V} {t : Tr} {is : List Nat} {xs : List V} {qs : List (Nat × Nat)}
theorem u_repr {d : PyData} (hd : Dp K H v d) (hs : d.showable = true) (hp : d.depth ≤ 100) (hl : d.leavesShort 13 = true) (hw : d.weight ≤ 100000) (q : Q (.str d.shown) H) : rReprA K [v] H Q :=
  ⟨v, d, rfl, hd, hs, hp, PyData.shown_fits (B := 13) (by decide) (by decide) hl (Nat.le_trans hw (by decide)), q⟩
theorem u_reprT (h : TAt H v t) (g : t.Good) (q : Q (.str t.data.shown) H) : rReprA K [v] H Q := by
  obtain ⟨h1, h2, h3⟩ := data_show g
  have := data_dep (t := t)
  have := Tr.dep_29 g
  have := Tr.size g
  exact u_repr h.dp h3 (by omega) h1 (by omega) q
theorem u_reprI (h : SqL K H a (msk is)) (sm : ∀ i ∈ is, i < 1000) (hl : is.length ≤ 1000) (q : Q (.str (intD is).shown) H) : rReprA K [.ref a] H Q := by
  obtain ⟨h1, h2, h3⟩ := ints_show is sm
  have d := (intD_lay is).2
  refine u_repr (d := intD is) (.lst h (dp_ints is)) (by unfold intD; rw [PyData.showable]; exact h3) (by unfold intD; simp only [PyData.depth]; omega) (by unfold intD; rw [PyData.leavesShort]; exact h1) ?_ q
  unfold intD
  rw [PyData.weight]
  omega
end
/-! ### which class -/
theorem OAt.ty {K : PySem.W.Frag} {X : TC} {B : Addr → Prop} {H : Hp} {v : V} {t : Tr} (h : OAt X B H v t) (l1 : Cls K X.P) (l2 : ∀ j, Cls K (X.cl j)) (c1 : IsC K X.P) (c2 : ∀ j, IsC K (X.cl j)) : ∃ C, TyX K H v (.ref C) ∧ ((∃ n, t = .pt n ∧ C = X.P) ∨ ∃ j ps, t = .nd j ps ∧ C = X.cl j) := by
  cases h with
  | pt n ha => exact ⟨X.P, .base (.ins ha l1 c1.ha c1.hn c1.ht c1.hm), .inl ⟨n, rfl, rfl⟩⟩
  | @nd a dx l vs j ps ha hl nb hp => exact ⟨X.cl j, .base (.ins ha (l2 j) (c2 j).ha (c2 j).hn (c2 j).ht (c2 j).hm), .inr ⟨_, _, rfl, rfl⟩⟩
/-- lists of truths -/
def blD (bs : List Bool) : List PyData := bs.map PyData.bool
theorem dp_bls {K : PySem.W.Frag} {H : Hp} : ∀ bs : List Bool, DpAll K H (bs.map V.bl) (blD bs)
  | [] => .nil
  | _ :: bs => .cons (.bl _) (dp_bls bs)
theorem shaped_bls (bs : List Bool) : SeqAt.shaped (.list (blD bs)) = true := by
  have : PyData.canLayAll0 (blD bs) = true ∧ PyData.depthAll (blD bs) ≤ 0 := by
    induction bs with
    | nil => exact ⟨rfl, by decide⟩
    | cons b bs ih =>
      unfold blD at ih ⊢
      rw [List.map_cons]
      simp only [PyData.canLayAll0, PyData.canLay0, ih.1, PyData.depthAll, PyData.depth, Bool.and_self, true_and]
      have := ih.2
      omega
  unfold SeqAt.shaped
  rw [Bool.and_eq_true]
  exact ⟨this.1, decide_eq_true (by simp only [PyData.depth]; omega)⟩
theorem s_neBls {K : PySem.W.Frag} {H : Hp} {Q : VK} {a b : Addr} {bs : List Bool} (h : SqL K H a (bs.map V.bl)) (h' : SqL K H b (bs.map V.bl)) (q : Q (.bl false) H) : rNeA K (.ref a) (.ref b) H Q :=
  s_neD (.lst h (dp_bls bs)) (.lst h' (dp_bls bs)) (shaped_bls bs) (shaped_bls bs) (by rw [show PyData.eqv (.list (blD bs)) (.list (blD bs)) = true from SeqAt.eqv_refl _ (SeqAt.canLay_of_shaped (shaped_bls bs))]; exact q)
def sp_k03_is (K : PySem.W.Frag) (X : TC) : Sp := fun vs H Q _ => ∃ u v t, vs = [u, v] ∧ OAt X No H u t ∧ TAt H v t ∧ t.Good ∧ ∀ H', Same H H' → Q (.bl true) H'
def sp_k03_right (K : PySem.W.Frag) (X : TC) : Sp := fun vs H Q _ => ∃ (u v : V) (t : Tr) (a : Addr) (ns : List Int), vs = [u, v, .ref a] ∧ OAt X No H u t ∧ TAt H v t ∧ t.Good ∧ SqL K H a (ns.map V.int) ∧ ∀ H', Same H H' → Q (.bl true) H'
/-- what web_of is due to say -/
def DueAt (H : Hp) (v : V) (t : Tr) : Prop := (t.srt ≠ List.range t.pts.length ∧ v = .str "tree") ∨ (t.srt = List.range t.pts.length ∧ ∃ p q ys, v = .ref p ∧ H p = some (.tup [.int (t.pts.length : Nat), .ref q]) ∧ H q = some (.lst ys) ∧ PairsAt H ys (tiesR t.pts.length t.rel))
def sp_k03_said (K : PySem.W.Frag) : Sp := fun vs H Q _ => ∃ v t, vs = [v] ∧ TAt H v t ∧ t.Good ∧ ∀ u H', Same H H' → DueAt H' u t → Q u H'
theorem DueAt.same {H H' : Hp} {v : V} {t : Tr} (s : Same H H') (h : DueAt H v t) : DueAt H' v t := by
  rcases h with ⟨ne, rfl⟩ | ⟨e, p, q, ys, rfl, e1, e2, e3⟩
  · exact .inl ⟨ne, rfl⟩
  · exact .inr ⟨e, p, q, ys, rfl, s _ _ e1, s _ _ e2, e3.same s⟩
noncomputable def dueD (t : Tr) : PyData := open Classical in if t.srt = List.range t.pts.length then .tuple [.int (t.pts.length : Nat), .list (pairsD (tiesR t.pts.length t.rel))] else .str "tree"
theorem DueAt.dp {K : PySem.W.Frag} {H : Hp} {v : V} {t : Tr} (h : DueAt H v t) : Dp K H v (dueD t) := by
  classical
  unfold dueD
  rcases h with ⟨ne, rfl⟩ | ⟨e, p, q, ys, rfl, e1, e2, e3⟩
  · rw [if_neg ne]
    exact .str _
  · rw [if_pos e]
    exact .tup (SqT.of e1) (.cons (.int _) (.cons (.lst (SqL.of e2) e3.dp) .nil))
theorem ties_tell' {t : Tr} (g : t.Good) {n : Nat} (h : ∀ x ∈ t.pts, x < n) : Tell t.ties n t.rel := by
  obtain ⟨h1, h2⟩ := ties_both g
  refine ⟨h1, fun a b => ?_⟩
  rw [h2]
  exact ⟨fun z => ⟨z.1, h _ (rel_in _ _ z.2).2, z.2⟩, fun z => ⟨z.1, z.2.2⟩⟩
theorem tiesR_small {n : Nat} {R : Rel} (h : n ≤ 30) : ∀ q ∈ tiesR n R, Small q := by
  rintro ⟨a, b⟩ hq
  have := mem_tiesR.mp hq
  exact ⟨by show a < 1000; omega, by show b < 1000; omega⟩
theorem u_reprDue {K : PySem.W.Frag} {H : Hp} {Q : VK} {v : V} {t : Tr} (g : t.Good) (h : DueAt H v t) (q : Q (.str (dueD t).shown) H) : rReprA K [v] H Q := by
  have sz := Tr.size g
  have key : (dueD t).showable = true ∧ (dueD t).depth ≤ 100 ∧ (dueD t).leavesShort 13 = true ∧ (dueD t).weight ≤ 100000 := by
    classical
    unfold dueD
    by_cases e : t.srt = List.range t.pts.length
    · rw [if_pos e]
      obtain ⟨p1, p2, p3⟩ := pairs_show (tiesR t.pts.length t.rel) (tiesR_small sz)
      obtain ⟨i1, i2, i3⟩ := small_int (i := t.pts.length) (by omega)
      have pl := tiesR_le t.pts.length t.rel sz
      have pd := (pairs_lay (tiesR t.pts.length t.rel)).2
      refine ⟨?_, ?_, ?_, ?_⟩
      · simp only [PyData.showable, PyData.showableAll, p3, Bool.and_true, Bool.and_self] at i3 ⊢
        exact i3
      · simp only [PyData.depth, PyData.depthAll]; omega
      · rw [PyData.leavesShort, PyData.leavesShortAll, i1, PyData.leavesShortAll, PyData.leavesShort, p1]; rfl
      · rw [PyData.weight, PyData.weightAll, PyData.weightAll, PyData.weightAll]
        have e2 : PyData.weight (.list (pairsD (tiesR t.pts.length t.rel))) = PyData.weightAll (pairsD (tiesR t.pts.length t.rel)) := by rw [PyData.weight]
        rw [e2]
        omega
    · rw [if_neg e]
      exact ⟨rfl, by simp [PyData.depth], by decide +kernel, by decide +kernel⟩
  exact u_repr h.dp key.1 key.2.1 key.2.2.1 key.2.2.2 q
end J

/-! Joinside: how many crowds a tree has; sets of points tried one by one. -/
namespace J
open PySem PySem.Spec L2
/-! ### counting -/
section
variable {R R' : Nat → Nat → Bool}
def cnt (R : Nat → Nat → Bool) : List Nat → Nat
  | [] => 1
  | p :: l => cnt R l + cnt R (l.filter (R p))
termination_by l => l.length
decreasing_by
  · simp
  · refine Nat.lt_succ_of_le ?_
    rw [List.length_unattach]
    exact Nat.le_trans (List.length_filter_le _ _) (by rw [List.length_attach]; exact Nat.le_refl _)
theorem cnt_nil : cnt R [] = 1 := by rw [cnt]
theorem cnt_cons {p : Nat} {l : List Nat} : cnt R (p :: l) = cnt R l + cnt R (l.filter (R p)) := by rw [cnt]
theorem filt_comm (p q : Nat → Bool) (l : List Nat) : (l.filter p).filter q = (l.filter q).filter p := by
  rw [List.filter_filter, List.filter_filter]
  exact List.filter_congr fun x _ => by rw [Bool.and_comm]
theorem cnt_perm (sy : ∀ a b, R a b = R b a) : ∀ (n : Nat) (l l' : List Nat), l.length ≤ n → l.Perm l' → cnt R l = cnt R l' := by
  intro n
  induction n with
  | zero =>
    intro l l' h p
    have : l = [] := List.length_eq_zero_iff.mp (by omega)
    subst this
    rw [List.Perm.nil_eq p]
  | succ n ih =>
    intro l l' h p
    induction p with
    | nil => rfl
    | @cons x l1 l2 p _ =>
      rw [cnt_cons, cnt_cons, ih l1 l2 (by simpa using h) p, ih _ _ (Nat.le_trans (List.length_filter_le _ _) (by simpa using h)) (p.filter (R x))]
    | swap x y l =>
      rw [cnt_cons, cnt_cons, cnt_cons, cnt_cons, List.filter_cons, List.filter_cons, sy x y]
      by_cases c : R y x = true
      · rw [if_pos c, if_pos c, cnt_cons, cnt_cons, filt_comm (R x) (R y)]
        omega
      · rw [if_neg c, if_neg c]
        omega
    | trans p1 p2 h1 h2 => rw [h1 h, h2 (by rw [← p1.length_eq]; exact h)]
theorem cnt_congr : ∀ (n : Nat) (l : List Nat), l.length ≤ n → l.Pairwise (fun a b => R a b = R' a b) → cnt R l = cnt R' l
  | _, [], _, _ => by rw [cnt_nil, cnt_nil]
  | n + 1, p :: l, h, k => by
    rw [List.pairwise_cons] at k
    have hl : l.length ≤ n := by simpa using h
    rw [cnt_cons, cnt_cons, cnt_congr n l hl k.2, List.filter_congr fun x hx => k.1 x hx, cnt_congr n _ (Nat.le_trans (List.length_filter_le _ _) hl) (k.2.filter _)]
theorem cnt_all : ∀ (n : Nat) (l m : List Nat), l.length ≤ n → (∀ a ∈ l, ∀ b ∈ m, R a b = true) → cnt R (l ++ m) = cnt R l * cnt R m
  | _, [], m, _, _ => by rw [cnt_nil, List.nil_append, Nat.one_mul]
  | n + 1, p :: l, m, h, k => by
    have hl : l.length ≤ n := by simpa using h
    have kl : ∀ a ∈ l, ∀ b ∈ m, R a b = true := fun a ha => k a (List.mem_cons_of_mem _ ha)
    rw [List.cons_append, cnt_cons, cnt_cons, List.filter_append, List.filter_eq_self.mpr (k p List.mem_cons_self), cnt_all n l m hl kl, cnt_all n _ m (Nat.le_trans (List.length_filter_le _ _) hl) fun a ha => kl a (List.mem_filter.mp ha).1, Nat.add_mul]
theorem cnt_none : ∀ (n : Nat) (l m : List Nat), l.length ≤ n → (∀ a ∈ l, ∀ b ∈ m, R a b = false) → cnt R (l ++ m) + 1 = cnt R l + cnt R m
  | _, [], m, _, _ => by rw [cnt_nil, List.nil_append]; omega
  | n + 1, p :: l, m, h, k => by
    have hl : l.length ≤ n := by simpa using h
    have kl : ∀ a ∈ l, ∀ b ∈ m, R a b = false := fun a ha => k a (List.mem_cons_of_mem _ ha)
    have e : m.filter (R p) = [] := List.filter_eq_nil_iff.mpr fun b hb => by rw [k p List.mem_cons_self b hb]; exact Bool.false_ne_true
    have := cnt_none n l m hl kl
    rw [List.cons_append, cnt_cons, cnt_cons, List.filter_append, e, List.append_nil]
    omega
/-! ### sets tried one by one: of what is turned over, its last point first -/
def en (R : Nat → Nat → Bool) : List Nat → List (List Nat)
  | [] => [[]]
  | p :: r => en R r ++ ((en R r).filter fun s => s.all fun o => R o p).map (· ++ [p])
theorem en_filter (q : Nat → Bool) : ∀ r : List Nat, (en R r).filter (fun s => s.all q) = en R (r.filter q)
  | [] => by simp [en]
  | p :: r => by
    rw [en, List.filter_append, List.filter_map, List.filter_filter, en_filter q r, List.filter_cons]
    by_cases c : q p = true
    · rw [if_pos c, en, ← en_filter q r, List.filter_filter]
      congr 2
      refine List.filter_congr fun s _ => ?_
      simp [c, Bool.and_comm]
    · rw [if_neg c]
      have : (fun s : List Nat => (((fun s => s.all q) ∘ fun x => x ++ [p]) s && s.all fun o => R o p)) = fun _ => false := by
        funext s
        simp [c]
      rw [this, List.filter_eq_nil_iff.mpr fun _ _ => Bool.false_ne_true, List.map_nil, List.append_nil]
theorem en_len (sy : ∀ a b, R' a b = R' b a) : ∀ (n : Nat) (r : List Nat), r.length ≤ n → r.Pairwise (fun p o => R o p = R' p o) → (en R r).length = cnt R' r
  | _, [], _, _ => by rw [cnt_nil]; rfl
  | n + 1, p :: r, h, k => by
    rw [List.pairwise_cons] at k
    have hl : r.length ≤ n := by simpa using h
    rw [en, List.length_append, List.length_map, en_filter, cnt_cons, en_len sy n r hl k.2, en_len sy n _ (Nat.le_trans (List.length_filter_le _ _) hl) (k.2.filter _)]
    congr 2
    exact List.filter_congr fun x hx => k.1 x hx
theorem en_le {R : Nat → Nat → Bool} : ∀ r : List Nat, (en R r).length ≤ 2 ^ r.length
  | [] => by simp [en]
  | p :: r => by
    have h1 := en_le (R := R) r
    have h2 := List.length_filter_le (fun s : List Nat => s.all fun o => R o p) (en R r)
    rw [en, List.length_append, List.length_map, List.length_cons, Nat.pow_succ]
    omega
theorem en_each : ∀ r : List Nat, ∀ s ∈ en R r, s.length ≤ r.length ∧ ∀ x ∈ s, x ∈ r
  | [], s, h => by
    rw [en, List.mem_singleton] at h
    subst h
    simp
  | p :: r, s, h => by
    rw [en, List.mem_append] at h
    rcases h with h | h
    · obtain ⟨h1, h2⟩ := en_each r s h
      exact ⟨by rw [List.length_cons]; omega, fun x hx => List.mem_cons_of_mem _ (h2 x hx)⟩
    · obtain ⟨u, hu, rfl⟩ := List.mem_map.mp h
      obtain ⟨h1, h2⟩ := en_each r u ((List.mem_filter.mp hu).1)
      refine ⟨by simp only [List.length_append, List.length_cons, List.length_nil]; omega, fun x hx => ?_⟩
      rcases List.mem_append.mp hx with hx | hx
      · exact List.mem_cons_of_mem _ (h2 x hx)
      · rw [List.mem_singleton] at hx
        subst hx
        exact List.mem_cons_self
end
theorem part_uniq {x : Nat} {p q : Tr} : ∀ {ps : List Tr}, (ptsL ps).Nodup → p ∈ ps → q ∈ ps → x ∈ p.pts → x ∈ q.pts → p = q
  | r :: ps, nd, hp, hq, hx, hy => by
    rw [ptsL, List.nodup_append] at nd
    rcases List.mem_cons.mp hp with e | hp
    · rcases List.mem_cons.mp hq with e2 | hq
      · rw [e, e2]
      · rw [e] at hx
        exact absurd rfl (nd.2.2 _ hx _ (mem_ptsL.mpr ⟨q, hq, hy⟩))
    · rcases List.mem_cons.mp hq with e | hq
      · rw [e] at hy
        exact absurd rfl (nd.2.2 _ hy _ (mem_ptsL.mpr ⟨p, hp, hx⟩))
      · exact part_uniq nd.2.1 hp hq hx hy
/-! ### the crowds of a tree -/
mutual
def Tr.mc : Tr → Nat
  | .pt _ => 2
  | .nd j ps => if j = true then mcP ps else 1 + mcS ps
def mcP : List Tr → Nat
  | [] => 1
  | p :: ps => mcP ps * p.mc
def mcS : List Tr → Nat
  | [] => 0
  | p :: ps => (p.mc - 1) + mcS ps
end
theorem mc_bounds (t : Tr) : 1 ≤ t.mc ∧ t.mc ≤ 2 ^ t.pts.length := by
  refine Tr.ind (p := fun t => 1 ≤ t.mc ∧ t.mc ≤ 2 ^ t.pts.length) (fun n => by rw [Tr.mc, Tr.pts]; exact ⟨by decide, Nat.le_refl 2⟩) (fun j ps ih => ?_) t
  rw [Tr.mc, Tr.pts]
  have hP : ∀ ps : List Tr, (∀ p ∈ ps, 1 ≤ p.mc ∧ p.mc ≤ 2 ^ p.pts.length) → (1 ≤ mcP ps ∧ mcP ps ≤ 2 ^ (ptsL ps).length) ∧ 1 + mcS ps ≤ 2 ^ (ptsL ps).length := by
    intro ps
    induction ps with
    | nil => intro _; rw [mcP, mcS, ptsL]; decide
    | cons p ps ih =>
      intro h
      obtain ⟨⟨h1, h2⟩, h3⟩ := ih fun q hq => h q (List.mem_cons_of_mem _ hq)
      obtain ⟨h4, h5⟩ := h p List.mem_cons_self
      rw [mcP, mcS, ptsL, List.length_append, Nat.pow_add]
      refine ⟨⟨Nat.mul_pos h1 h4, by rw [Nat.mul_comm]; exact Nat.mul_le_mul h5 h2⟩, ?_⟩
      have h6 : 1 ≤ 2 ^ (ptsL ps).length := Nat.one_le_two_pow
      have h7 := Nat.mul_le_mul (Nat.le_refl (2 ^ p.pts.length - 1)) h6
      have h8 : (2 ^ p.pts.length - 1) * 2 ^ (ptsL ps).length + 2 ^ (ptsL ps).length = 2 ^ p.pts.length * 2 ^ (ptsL ps).length := by
        conv => lhs; rhs; rw [← Nat.one_mul (2 ^ (ptsL ps).length)]
        rw [← Nat.add_mul, Nat.sub_add_cancel Nat.one_le_two_pow]
      omega
  obtain ⟨⟨h1, h2⟩, h3⟩ := hP ps ih
  by_cases c : j = true
  · rw [if_pos c]; exact ⟨h1, h2⟩
  · rw [if_neg c]; exact ⟨by omega, h3⟩
theorem mc_30 {t : Tr} (g : t.Good) : t.mc ≤ 1073741824 := Nat.le_trans (mc_bounds t).2 (Nat.pow_le_pow_right (n := 2) (by decide) (Tr.size g))
theorem part_29 {j : Bool} {ps : List Tr} (g : (Tr.nd j ps).Good) {p : Tr} (hp : p ∈ ps) : p.pts.length ≤ 29 := by
  have sz := Tr.size g
  rw [Tr.pts] at sz
  have g' := g
  rw [Tr.Good] at g'
  have key : ∀ (qs : List Tr), (∀ q ∈ qs, 1 ≤ q.pts.length) → qs.length ≤ (ptsL qs).length := by
    intro qs
    induction qs with
    | nil => intro _; exact Nat.zero_le _
    | cons q qs ih =>
      intro h
      have h1 := h q List.mem_cons_self
      have h2 := ih fun r hr => h r (List.mem_cons_of_mem _ hr)
      rw [ptsL, List.length_append, List.length_cons]
      omega
  have one : ∀ q ∈ ps, 1 ≤ q.pts.length := fun q hq => List.length_pos_iff.mpr (Tr.pts_ne (good_part g hq).1)
  obtain ⟨l1, l2, rfl⟩ := List.append_of_mem hp
  have e : (ptsL (l1 ++ p :: l2)).length = (ptsL l1).length + (p.pts.length + (ptsL l2).length) := by
    rw [ptsL_eq, ptsL_eq, ptsL_eq, List.flatMap_append, List.flatMap_cons]
    simp only [List.length_append]
  have h1 := key l1 fun q hq => one q (List.mem_append_left _ hq)
  have h2 := key l2 fun q hq => one q (List.mem_append_right _ (List.mem_cons_of_mem _ hq))
  have h3 := g'.1
  rw [List.length_append, List.length_cons] at h3
  omega
theorem mc_part {j : Bool} {ps : List Tr} (g : (Tr.nd j ps).Good) {p : Tr} (hp : p ∈ ps) : p.mc ≤ 536870912 := Nat.le_trans (mc_bounds p).2 (Nat.pow_le_pow_right (n := 2) (by decide) (part_29 g hp))
theorem mcP_take {ps : List Tr} : ∀ {i : Nat} {p : Tr}, ps[i]? = some p → mcP (ps.take (i + 1)) = mcP (ps.take i) * p.mc := by
  have app : ∀ (as : List Tr) (p : Tr), mcP (as ++ [p]) = mcP as * p.mc := by
    intro as p
    induction as with
    | nil => simp [mcP]
    | cons a as ih => rw [List.cons_append, mcP, mcP, ih, Nat.mul_right_comm]
  intro i p h
  rw [take_succ_of' h, app]
/-- tied (b), or not -/
def relB (b : Bool) (t : Tr) : Nat → Nat → Bool := fun x y => t.rel x y == b
theorem mc_cnt (b : Bool) {t : Tr} : t.Good → cnt (relB b t) t.pts = (if b = true then t else t.turn).mc := by
  refine Tr.ind (p := fun t => t.Good → cnt (relB b t) t.pts = (if b = true then t else t.turn).mc) (fun n _ => ?_) (fun j ps ih g => ?_) t
  · rw [Tr.pts, cnt_cons, List.filter_nil, cnt_nil]
    cases b <;> rfl
  · have g' := g
    rw [Tr.Good] at g'
    have nd := g'.2.2.1
    have gp := fun p (hp : p ∈ ps) => (good_part g hp).1
    have key : ∀ qs : List Tr, (∀ p ∈ qs, p ∈ ps) → qs.Nodup → (ptsL qs).Nodup → (∀ x ∈ qs, ∀ y ∈ qs, x ≠ y → ∀ a ∈ x.pts, a ∉ y.pts) → cnt (relB b (.nd j ps)) (ptsL qs) = if (j == b) = true then mcP (qs.map fun t => if b = true then t else t.turn) else 1 + mcS (qs.map fun t => if b = true then t else t.turn) := by
      intro qs
      induction qs with
      | nil =>
        intro _ _ _ _
        rw [ptsL, cnt_nil, List.map_nil, mcP, mcS]
        split <;> rfl
      | cons q qs ihq =>
        intro hm hn hnd hdj
        have hq := hm q List.mem_cons_self
        rw [ptsL, List.nodup_append] at hnd
        rw [List.nodup_cons] at hn
        have ih2 := ihq (fun p hp => hm p (List.mem_cons_of_mem _ hp)) hn.2 hnd.2.1 fun x hx y hy => hdj x (List.mem_cons_of_mem _ hx) y (List.mem_cons_of_mem _ hy)
        have e1 : cnt (relB b (.nd j ps)) q.pts = cnt (relB b q) q.pts := by
          refine cnt_congr _ _ (Nat.le_refl _) (List.pairwise_iff_forall_sublist.mpr fun {x y} hxy => ?_)
          have hx : x ∈ q.pts := hxy.subset (by simp)
          have hy : y ∈ q.pts := hxy.subset (by simp)
          unfold relB
          rw [Tr.rel, rel_part nd hq hx hy]
        have ap : ∀ x ∈ q.pts, ∀ y ∈ ptsL qs, relB b (.nd j ps) x y = (j == b) := by
          intro x hx y hy
          unfold relB
          rw [Tr.rel, rel_apart (mem_ptsL.mpr ⟨q, hq, hx⟩) (mem_ptsL.mpr (by obtain ⟨r, hr, hyr⟩ := mem_ptsL.mp hy; exact ⟨r, hm r (List.mem_cons_of_mem _ hr), hyr⟩))]
          rintro r hr ⟨h1, h2⟩
          obtain ⟨s, hs, hys⟩ := mem_ptsL.mp hy
          have hs' := hm s (List.mem_cons_of_mem _ hs)
          have e : ∀ u ∈ ps, ∀ v ∈ ps, ∀ z, z ∈ u.pts → z ∈ v.pts → u = v := by
            intro u hu v hv z hzu hzv
            exact part_uniq nd hu hv hzu hzv
          have e1 := e r hr q hq x h1 hx
          have e2 := e r hr s hs' y h2 hys
          subst e1
          subst e2
          exact hn.1 hs
        rw [ptsL, List.map_cons, mcP, mcS]
        have ihq' : cnt (relB b q) q.pts = (if b = true then q else q.turn).mc := ih q hq (gp q hq)
        by_cases c : (j == b) = true
        · rw [if_pos c] at ih2 ⊢
          rw [cnt_all _ _ _ (Nat.le_refl _) fun x hx y hy => (ap x hx y hy).trans c, e1, ihq', ih2, Nat.mul_comm]
        · rw [if_neg c] at ih2 ⊢
          have := cnt_none (R := relB b (.nd j ps)) _ q.pts (ptsL qs) (Nat.le_refl _) fun x hx y hy => (ap x hx y hy).trans (by simpa using c)
          rw [e1, ihq', ih2] at this
          have h1 := (mc_bounds (if b = true then q else q.turn)).1
          omega
    have hn : ps.Nodup := by
      refine (List.pairwise_map.mp g'.2.2.2).imp ?_
      intro x y h e
      subst e
      exact Nat.lt_irrefl _ h
    rw [Tr.pts, key ps (fun _ h => h) hn nd fun x hx y hy ne a ha hb => ne (part_uniq nd hx hy ha hb)]
    cases b with
    | true =>
      simp only [beq_true, if_true, List.map_id']
      rw [Tr.mc]
    | false =>
      simp only [Bool.false_eq_true, if_false, beq_false]
      rw [Tr.turn, Tr.mc, turnL_eq]
/-! ### promises -/
def S_many : TSp := fun t xs H Q => xs = [] ∧ ∀ H', Same H H' → Q (.int t.mc) H'
theorem u_manyC {t : Tr} {H : Hp} {Q : VK} (q : ∀ H', Same H H' → Q (.int t.mc) H') : S_many t [] H Q := ⟨rfl, q⟩
def sp_many_crowds : Sp := fun vs H Q _ => ∃ (v : V) (t : Tr), vs = [v] ∧ TAt H v t ∧ t.Good ∧ ∀ H', Same H H' → Q (.int t.mc) H'
def sp_many_stills : Sp := fun vs H Q _ => ∃ (v : V) (t : Tr), vs = [v] ∧ TAt H v t ∧ t.Good ∧ ∀ H', Same H H' → Q (.int t.turn.mc) H'
/-- numbers that stand in a list -/
def intV : V → Int
  | .int i => i
  | _ => 0
theorem ints_back : ∀ {us : List V} {ps : List Tr}, Paired (fun y p => y = .int ((Tr.mc p - 1 : Nat) : Int)) us ps → (us.map intV).map V.int = us
  | _, _, .nil => rfl
  | _, _, .cons a b => by subst a; rw [List.map_cons, List.map_cons, ints_back b]; rfl
theorem ints_sum : ∀ {us : List V} {ps : List Tr}, Paired (fun y p => y = .int ((Tr.mc p - 1 : Nat) : Int)) us ps → (1 : Int) + (us.map intV).sum = ((1 + mcS ps : Nat) : Int)
  | _, _, .nil => rfl
  | _, _, @Paired.cons _ _ _ x y xs ys a b => by
    have ih := ints_sum b
    subst a
    rw [List.map_cons, List.sum_cons, mcS, show intV (.int ((Tr.mc y - 1 : Nat) : Int)) = ((Tr.mc y - 1 : Nat) : Int) from rfl]
    omega
/-- both counts in a list -/
def mcs (t : Tr) : List Nat := [t.mc, t.turn.mc]
def sp__law_counts : Sp := fun vs H Q _ => ∃ (v : V) (t : Tr), vs = [v] ∧ TAt H v t ∧ t.Good ∧ t.pts.length ≤ 10 ∧ ∀ q H', Same H H' → H' q = some (.lst (msk (mcs t))) → Q (.ref q) H'
def sp_k11_is (K : PySem.W.Frag) : Sp := fun vs H Q _ => ∃ (v : V) (q : Addr) (t : Tr), vs = [v, .ref q] ∧ TAt H v t ∧ t.Good ∧ SqL K H q (msk (mcs t)) ∧ ∀ H', Same H H' → Q (.bl true) H'
/-- lists of numbers in a list -/
def LsAt (H : Hp) (ys : List V) (ss : List (List Nat)) : Prop := Paired (fun y s => ∃ a, y = .ref a ∧ H a = some (.lst (msk s))) ys ss
theorem LsAt.same {H H' : Hp} {ys : List V} {ss : List (List Nat)} (s : Same H H') (h : LsAt H ys ss) : LsAt H' ys ss := Paired.imp h fun a b _ ⟨x, e, h⟩ => ⟨x, e, s _ _ h⟩
theorem dec_bl {c b : Bool} : decide (V.bl c = V.bl b) = (c == b) := by cases c <;> cases b <;> first | rfl | simp
theorem LsAt.app {H : Hp} {ys zs : List V} {ss us : List (List Nat)} (h : LsAt H ys ss) (h2 : LsAt H zs us) : LsAt H (ys ++ zs) (ss ++ us) := Paired.app h h2
theorem LsAt.put {H : Hp} {ys : List V} {ss : List (List Nat)} {p : Addr} {o : HO} (ne : ∀ y ∈ ys, y ≠ .ref p) (h : LsAt H ys ss) : LsAt (upd H p o) ys ss := by
  induction h with
  | nil => exact .nil
  | cons a b ih =>
    obtain ⟨x, rfl, h⟩ := a
    exact .cons ⟨x, rfl, up_ne (fun z => ne _ List.mem_cons_self (by rw [z])) h⟩ (ih fun y hy => ne y (List.mem_cons_of_mem _ hy))
/-- a comprehension that keeps some numbers of a list -/
theorem lc_filt {K : PySem.W.Frag} {l D : Addr} {is : List Nat} {c : Nat → Bool} {σ : Sl} {k : Nat} {tt : TT} {te : TE} {H : Hp} {Qd : Hp → Prop} (hl : SqL K H l (msk is)) (hz : is.length ≤ 100000) (hD : H D = none)
    (step : ∀ (x : Nat) (H' : Hp), x ∈ is → Same H H' → ∀ Q' : Bool → Hp → Prop, (∀ H4, Same H' H4 → Q' (c x) H4) → tt ((wipe σ [k]).set k (some (.int x))) H' Q')
    (el : ∀ (x : Nat) (H' : Hp) (Q' : VK), Q' (.int x) H' → te ((wipe σ [k]).set k (some (.int x))) H' Q')
    (hw : ∀ x, wipe ((wipe σ [k]).set k (some x)) [k] = wipe σ [k]) (fin : ∀ H', Same H H' → H' D = some (.lst (msk (is.filter c))) → Qd H') :
    ∃ W : Nat → Nat → Hp → Prop, (∃ m, W 0 m (upd H D (.lst []))) ∧ ∀ i m H, W i m H →
      ((Itl K l).stop i H ∧ Qd H) ∨ ((Itl K l).go i H ∧ ∃ Nx : Hp → Prop, (∀ H', Nx H' → ∃ m', m' < m ∧ W (i + 1) m' H') ∧ ∀ x H', (Itl K l).yld i H x H' → gName k x (wipe σ [k]) H' fun σ2 H2 => wipe σ2 [k] = wipe σ [k] ∧ tt σ2 H2 fun b H3 =>
        if b = true then te σ2 H3 fun y H4 => ∃ acc, H4 D = some (.lst acc) ∧ acc.length < sizeLine ∧ Nx (upd H4 D (.lst (acc ++ [y]))) else Nx H3) := by
  refine lc_list (K := K) (a := l) (xs := msk is) (fun i H' => Same H H' ∧ H' D = some (.lst (msk ((is.take i).filter c)))) ⟨Same.new hD, by rw [List.take_zero]; exact upd_same⟩ ?_ ?_ ?_
  · rintro i H' _ ⟨S, _⟩
    exact Same.seq S hl
  · rintro i x H' hx ⟨S, eD⟩
    have hi : i < is.length := by have := (List.getElem?_eq_some_iff.mp hx).1; rw [msk_length] at this; exact this
    have hk := getD_at hi
    rw [msk_get hi] at hx
    cases hx
    generalize is.getD i 0 = x at hk ⊢
    refine ⟨hw _, step x H' (List.mem_of_getElem? hk) S _ fun H4 S4 => ?_⟩
    have e4 := S4 _ _ eD
    have tk : (is.take (i + 1)).filter c = (is.take i).filter c ++ if c x = true then [x] else [] := by
      rw [take_succ_of' hk, List.filter_append, List.filter_cons, List.filter_nil]
    cases hc : c x with
    | true =>
      rw [if_pos rfl]
      refine el x H4 _ ⟨_, e4, ?_, Same.mut (S.trans S4) hD, ?_⟩
      · have h1 := List.length_filter_le c (is.take i)
        rw [List.length_take] at h1
        rw [msk_length]
        exact Nat.lt_of_le_of_lt (m := 100000) (by omega) (by decide)
      · rw [tk, hc, if_pos rfl]
        unfold msk
        rw [List.map_append]
        exact upd_same
    | false =>
      rw [if_neg Bool.false_ne_true]
      refine ⟨S.trans S4, ?_⟩
      rw [tk, hc, if_neg Bool.false_ne_true, List.append_nil]
      exact e4
  · rintro H' ⟨S, eD⟩
    rw [msk_length, List.take_length] at eD
    exact fin H' S eD
/-- tied as the list of ties says (b), or not -/
def tyB (b : Bool) (t : Tr) : Nat → Nat → Bool := fun o p => decide ((o, p) ∈ t.ties) == b
/-- the counts of a tree, by trying -/
theorem en_mc (b : Bool) {t : Tr} (g : t.Good) : (en (tyB b t) t.srt.reverse).length = (if b = true then t else t.turn).mc := by
  have sy : ∀ x y, relB b t x y = relB b t y x := fun x y => by unfold relB; rw [rel_sy]
  rw [en_len (R' := relB b t) sy _ _ (Nat.le_refl _), cnt_perm sy _ t.srt.reverse t.pts (Nat.le_refl _) ((List.reverse_perm _).trans (Tr.srt_perm g).symm), mc_cnt b g]
  rw [List.pairwise_reverse]
  refine (Tr.srt_lt t).imp fun {o p} h => ?_
  unfold tyB relB
  congr 1
  refine bool_eq ?_
  rw [decide_eq_true_iff, (ties_both g).2]
  rw [rel_sy]
  exact ⟨fun h => h.2, fun h2 => ⟨h, h2⟩⟩
theorem en_snoc {R : Nat → Nat → Bool} {l : List Nat} {i x : Nat} (h : l[i]? = some x) : en R (l.take (i + 1)).reverse = en R (l.take i).reverse ++ ((en R (l.take i).reverse).filter fun s => s.all fun o => R o x).map (· ++ [x]) := by
  rw [take_succ_of' h, List.reverse_append, List.reverse_singleton, List.singleton_append, en]
theorem filt_all {c : Nat → Bool} {s : List Nat} : decide (s.filter (fun o => !c o) = []) = s.all c := by
  refine bool_eq ?_
  rw [decide_eq_true_iff, List.filter_eq_nil_iff, List.all_eq_true]
  exact ⟨fun h x hx => by simpa using h x hx, fun h x hx => by simp [h x hx]⟩
theorem filt_snoc {α : Type} {p : α → Bool} {f : α → α} {l : List α} {i : Nat} {x : α} (h : l[i]? = some x) : ((l.take (i + 1)).filter p).map f = ((l.take i).filter p).map f ++ if p x = true then [f x] else [] := by
  rw [take_succ_of' h, List.filter_append, List.map_append, List.filter_cons, List.filter_nil]
  split <;> rfl
theorem s_rng3 {ta : TA} {σ : Sl} {H : Hp} {R : It → Hp → Prop} (q : ta σ H fun vs H1 => ∃ (i j c : Int) (n : Nat), vs = [.int i, .int j, .int c] ∧ RgC i j c n ∧ R (Itc i c n) H1) : iRng3 ta σ H R := q
theorem rg_8 {j : Nat} (h : j < 64) : ∃ n, n ≤ 8 ∧ RgC 0 j 8 n := by
  have k : ∀ j : Fin 64, Builtin.Range.small 0 (j : Nat) 8 = true ∧ 0 ≤ Builtin.Range.rangeSize 0 (j : Nat) 8 ∧ Builtin.Range.rangeSize 0 (j : Nat) 8 ≤ 8 := by decide +kernel
  have k' := k ⟨j, h⟩
  have k0 : ((⟨j, h⟩ : Fin 64) : Nat) = j := rfl
  rw [k0] at k'
  obtain ⟨k1, k2, k3⟩ := k'
  exact ⟨(Builtin.Range.rangeSize 0 (j : Nat) 8).toNat, by omega, by decide, by decide, k1, (Int.toNat_of_nonneg k2).symm⟩
theorem cut_map (ns : List Int) (lo hi : Option Int) : ∃ ms : List Int, cutV (ns.map V.int) lo hi = ms.map V.int ∧ ms.length ≤ ns.length := by
  refine ⟨(ns.drop (HT.sIx (ns.map V.int).length 0 lo)).take (HT.sIx (ns.map V.int).length (ns.map V.int).length hi - HT.sIx (ns.map V.int).length 0 lo), ?_, ?_⟩
  · unfold cutV
    rw [← List.map_drop, ← List.map_take]
  · rw [List.length_take, List.length_drop]
    omega
/-- points all side by side, or all joined -/
theorem mc_flat (j : Bool) (ns : List Nat) : (Tr.nd j (ns.map Tr.pt)).mc = if j = true then 2 ^ ns.length else ns.length + 1 := by
  rw [Tr.mc]
  have h : mcP (ns.map Tr.pt) = 2 ^ ns.length ∧ mcS (ns.map Tr.pt) = ns.length := by
    induction ns with
    | nil => exact ⟨rfl, rfl⟩
    | cons n ns ih =>
      rw [List.map_cons, mcP, mcS, ih.1, ih.2, Tr.mc, List.length_cons, Nat.pow_succ]
      exact ⟨rfl, by omega⟩
  rw [h.1, h.2, Nat.add_comm]
theorem turn_flat (j : Bool) (ns : List Nat) : (Tr.nd j (ns.map Tr.pt)).turn = .nd (!j) (ns.map Tr.pt) := by
  rw [Tr.turn, turnL_eq, List.map_map]
  rfl
theorem flat_pts (ns : List Nat) : ptsL (ns.map Tr.pt) = ns := by
  induction ns with
  | nil => rfl
  | cons n ns ih => rw [List.map_cons, ptsL, ih]; rfl
theorem flat_good {j : Bool} {ns : List Nat} (h2 : 2 ≤ ns.length) (lt : ∀ n ∈ ns, n < 30) (od : ns.Pairwise (· < ·)) : (Tr.nd j (ns.map Tr.pt)).Good := by
  rw [Tr.Good, List.length_map, flat_pts]
  refine ⟨h2, goodL_iff.mpr fun p hp => ?_, od.imp fun h => Nat.ne_of_lt h, ?_⟩
  · obtain ⟨n, hn, rfl⟩ := List.mem_map.mp hp
    exact ⟨by rw [Tr.Good]; exact lt n hn, (wd_ne j).symm⟩
  · rw [List.map_map]
    exact List.pairwise_map.mpr (od.imp fun h => h)
theorem flat_at {H : Hp} : ∀ ns : List Nat, Paired (TAt H) (msk ns) (ns.map Tr.pt)
  | [] => .nil
  | n :: ns => .cons (.pt n) (flat_at ns)
theorem flat_mcs (j : Bool) (ns : List Nat) : mcs (.nd j (ns.map Tr.pt)) = if j = true then [2 ^ ns.length, ns.length + 1] else [ns.length + 1, 2 ^ ns.length] := by
  unfold mcs
  rw [turn_flat, mc_flat, mc_flat]
  cases j <;> rfl
theorem msk_takeR (n m : Nat) (h : m ≤ n) : (msk (List.range n)).take m = msk (List.range m) := by
  unfold msk
  rw [← List.map_take, List.take_range, Nat.min_eq_left h]
end J

/-! Joinside: sorted(xs, key=lambda x: ..), the lambda made in a def's body, without names of the def. -/
namespace J
open PySem PySem.Spec PyProof.Rows L2 LamX
/-- the lambda is called -/
theorem lam_run {CX : CXT} {P : Program} {w : World} {K : PySem.W.Frag} {mg : Str → Option Value} {base : Heap} {k : Nat} {f c' : Addr} {q : Str} {params : Arguments} {body : Expr} {scope : Scope} {pm ctv : Value} {N ps : List Str}
    {A : Around} {outer : List Env} {s : Shared} {H : Hp} {us : List Value} {vs : List V} {Q : VK} {E : XK} (of : s.heap.get? f = some (PySem.W.kla_obj "<lambda>" q params body scope [] pm c' ctv)) (hc : H c' = some (CodeO c' q)) (S : FnScope N ps scope)
    (hr : Room (k + 1) A) (e0 : Env0 P w K mg base A outer s H) (hb : bindArgs (PySem.W.kla_fn "<lambda>" q params body scope [] pm (.ref c') ctv) ⟨us, []⟩ = pure (ps.zip us)) (r : Vals vs us) (hl : vs.length = ps.length)
    (hbody : Room k (A.deeper (envOfC q scope s.heap.objs.size f (.ref c'))) → ∃ te, PE (cxOf CX P w K mg base N q scope f (.ref c') A outer s H E) body te ∧ te (L2.start N vs) H Q) :
    codeAny (model P w) A (.call (.ref f) ⟨us, []⟩) (CR CX outer P w H s Q E) s := by
  have KX : K.In s.heap := e0.mod.kin.keeps fun b o e => (e0.bs b o e).1
  have lim : s.heap.NoLimit := e0.mod.nolimit.keeps fun b o e => (e0.bs b o e).1
  obtain ⟨⟨oc, ws, t, hoc, hdc, hvc⟩, _, _⟩ := e0.hok c' _ hc
  have hkind : ∀ y ∈ ps.zip us, scope.names.lookup y.1 = some .local ∨ (scope.names.lookup y.1 = some .cell ∧ ((cellsFrom (s.heap.objs.size + 1) scope.names []).lookup y.1).isSome = true) := fun ⟨n, v⟩ hy => by
    rcases S.par n (List.of_mem_zip hy).1 with q | q
    · exact .inl q
    · exact .inr ⟨q, PySem.W.cellsFrom_some _ _ _ (.inl q)⟩
  refine PySem.W.kla_callFunE hr.depth of rfl S.co S.gen rfl ⟨c', oc, ws, t, rfl, hoc, hdc, hvc⟩ ?_
  rw [hb]
  refine wpAny_pure (wpAny_newFunctionEnv_cells S.kind hkind fun env he s1 x => ?_)
  subst he
  refine ⟨lim.keeps x.toInCall.keep, ?_⟩
  obtain ⟨te, ht, hq⟩ := hbody (hr.deeper _)
  have I : L2.Inv (cxOf CX P w K mg base N q scope f (.ref c') A outer s H E) [] (L2.start N vs) H s1 := inv_start S hr.hd e0 hl r x
  refine PySem.W.kla_codeExpr (wpAny_mono (ht.run [] s1 (L2.start N vs) H Q I hq) (fun v s' hq => ?_) fun e s' hq => hq)
  obtain ⟨w', H', J', rv, q⟩ := hq
  exact ⟨w', H', J'.os, J'.bare, J'.base, J'.hok, rv, q⟩
/-- what the sort with a lambda as its key asks -/
def tSortLam (K : PySem.W.Frag) (T : List (Addr × Str)) (N : List Str) (te tb : TE) : TE := fun σ H Q => te σ H fun v H1 => ∃ (l : Addr) (xs : List V) (key : V → Int), v = .ref l ∧ SqL K H1 l xs ∧ Tabs T H1 ∧
  ∀ H2, ExtN H1 H2 → Tabs T H2 → (∀ x ∈ xs, ∀ H3, Same H2 H3 → tb (L2.start N [x]) H3 fun v H4 => v = .int (key x) ∧ Same H3 H4) ∧
    ∀ ys p H3, Same H2 H3 → H2 p = none → H3 p = some (.lst ys) → ys.Perm xs → (ys.map key).Pairwise (· ≤ ·) → Q (.ref p) H3
theorem sqL_extN {K : PySem.W.Frag} {H H' : Hp} {l : Addr} {xs : List V} (e : ExtN H H') (h : SqL K H l xs) : SqL K H' l xs := by
  rcases h with (h | ⟨o, h⟩) | h
  · exact .inl (.inl (e _ _ h fun _ z => by cases z))
  · exact .inl (.inr ⟨o, e _ _ h fun _ z => by cases z⟩)
  · exact .inr h
theorem fs_sub {X : Cx} (ok : X.Ok) {b : Addr} (h : b ∈ X.fs) : b ∈ frs X.stack := by
  rcases ok.stk with e | ⟨e, hf⟩
  · rw [e]; exact h
  · rw [e]
    unfold frs
    rw [List.filterMap_cons]
    split
    · exact h
    · exact List.mem_cons_of_mem _ h
theorem pe_sortLam {X : Cx} {K : PySem.W.Frag} {T : List (Addr × Str)} {c P : Addr} {params : Arguments} {body e : Expr} {scope : Scope} {lpos kpos p pos : Pos} {te tb : TE} {k : Nat} {N : List Str} {x : Str}
    (hg : Gl X "sorted") (hm : X.mg "sorted" = none) (he0 : PE X e te) (TB : TabB X.base X.mg c P) (hcode : X.env.code = .ref c) (hmT : (P, X.env.qual ++ "<lambda>") ∈ T) (hu : ∀ p ∈ T, p.1 = P → p.2 = X.env.qual ++ "<lambda>")
    (hr : Room (k + 3) X.A) (hG : X.A.guards = some []) (S : FnScope N [x] scope) (hcl : cloFrom X.env.cells scope.names [] = []) (hdef : defaultsOf params X.env = ([], []))
    (hbind : ∀ (u pm cv ctv : Value), bindArgs (PySem.W.kla_fn "<lambda>" (X.env.qual ++ "<lambda>") params body scope [] pm cv ctv) ⟨[u], []⟩ = pure [(x, u)])
    (hbody : ∀ (A : Around) (outer : List Env) (s : Shared) (H : Hp) (E : XK) (f c' : Addr), A.guards = some [] → Room k (A.deeper (envOfC (X.env.qual ++ "<lambda>") scope s.heap.objs.size f (.ref c'))) →
      PE (cxOf (L2.CX X.prog X.w) X.prog X.w X.K X.mg X.base N (X.env.qual ++ "<lambda>") scope f (.ref c') A outer s H E) body tb)
    (hs : starEach [e] X.env = [(false, eval e X.env)] := by rfl) (hK : X.K = K := by rfl) :
    PE X (.Call (.Name "sorted" p) [e] [⟨some "key", .Lambda params body scope lpos, kpos⟩] pos) (tSortLam K T N te tb) := by
  subst hK
  have nofree : ∀ y ∈ scope.names, y.2 = .free → ∃ c, X.env.cells.lookup y.1 = some c := fun y hy e => absurd e (S.nofree y hy)
  refine ⟨fun pins s σ H Q I h => ?_⟩
  have he : backTo pos (starEach [e] X.env) = (false, eval e X.env) :: backTo pos (starEach [] X.env) := by rw [hs]; rfl
  refine wpAny_Call_Name_kw (ld_blt I hg hm bt_sorted ?_)
  refine PyProof.Rows.callWith_kw ?_ he (by rw [he]; rfl) (by rfl) (by rfl)
  rw [he]
  refine Calls.spliced_cons (thn (he0.run pins s σ H _ I h) fun u s1 ⟨v, H1, I1, r1, q1⟩ => ?_)
  obtain ⟨l, xs, key, rfl, hl, hT, q⟩ := q1
  obtain rfl : u = Value.ref l := r1
  refine Calls.spliced_nil ?_
  show wpAny _ _ (evalAll [do let v ← eval (.Lambda params body scope lpos) X.env; standAt pos; pure v]) _ _ s1
  refine wpAny_evalAll_cons (wpAny_bind (lam_make2 I1 TB hcode hmT hu hT hdef nofree fun f c' pm ctv H2 s2 I2 eN T2 hf hfn hfr hco => wpAny_bind (wpAny_standAt (wpAny_pure ?_))))
  refine wpAny_evalAll_nil ?_
  rw [hcl] at hf
  obtain ⟨turn, fin⟩ := q H2 eN T2
  have nloc : f ≠ X.env.locals := fun z => by
    obtain ⟨m, ⟨o, es, ep, h1, h2, _⟩, _⟩ := I2.loc
    rw [z] at hf
    rw [hf] at h1
    cases h1
    cases h2
  have I3 : L2.Inv X (pins ++ [(f, PySem.W.kla_obj "<lambda>" (X.env.qual ++ "<lambda>") params body scope [] pm c' ctv)]) σ H2 s2 := I2.pins_of fun p hp => by
    rcases List.mem_append.mp hp with hp | hp
    · exact I2.pin p (List.mem_append_right _ hp)
    · rw [List.mem_singleton] at hp
      subst hp
      exact ⟨hf, hfn, nloc, fun z => hfr (fs_sub I2.ok z), fun v z => by cases z⟩
  show wpAny _ _ (call (.builtin "sorted") [.ref l] [(Str.ofString "key", .ref f)]) _ _ s2
  refine wpAny_mono (sorted_key_runG (Q := Q) (key := key) (hr.mono (Nat.le_add_left 2 (k + 1))) I3 (sqL_extN eN hl) (fun y hy v H' s' I' S' rv => ?_) fun ys p H3 S3 hp ep pm srt => fin ys p H3 S3 hp ep pm srt) (fun v s' ⟨w', H', J, r, z⟩ => ⟨w', H', J.unpinned, r, z⟩) fun _ _ z => z
  have of : s'.heap.get? f = some (PySem.W.kla_obj "<lambda>" (X.env.qual ++ "<lambda>") params body scope [] pm c' ctv) := (I'.pin (f, _) (List.mem_append_right _ (List.mem_append_right _ (List.mem_singleton.mpr rfl)))).1
  have hr2 : Room (k + 1) X.A.in1.in1 := hr.in1.in1
  have hG2 : X.A.in1.in1.guards = some [] := hG
  apply wpAny_call
  refine codeAny_mono (lam_run (CX := L2.CX X.prog X.w) (N := N) (ps := [x]) (us := [v]) (vs := [y]) (E := fun _ _ _ => False) of (S' _ _ hco) S hr2 I'.env0.in1.in1 (hbind v pm (.ref c') ctv) (.cons rv .nil) rfl fun hr3 => ⟨_, hbody _ _ _ _ _ _ _ hG2 hr3, turn y hy H' S'⟩) ?_
  intro res s'' got
  match res, got with
  | .error err, got =>
    obtain ⟨_, _, _, _, _, _, _, _, _, _, _, _, z⟩ := got
    exact z.elim
  | .ok (.ret u), got => exact I'.after got
  | .ok .next, got => exact got.elim
  | .ok .brk, got => exact got.elim
  | .ok .cont, got => exact got.elim
/-- the name of the lambda in a def of the top -/
abbrev lamQ (n : Str) : Str := (n ++ ".<locals>.") ++ "<lambda>"
theorem lamT1 (p : Addr) (q : Str) : ∀ r ∈ [(p, q)], r.1 = p → r.2 = q := fun r h _ => by
  rw [List.mem_singleton] at h
  rw [h]
/-- the table of a code object -/
def tabOf (K : PySem.W.Frag) (c : Addr) : Option Addr := match K.lookup c with
  | some ⟨_, _, .fields vs, _⟩ => (match (vs[11]? : Option Value) with
    | some (.ref P) => some P
    | _ => none)
  | _ => none
section
variable {P : Program} {w : World} {K : PySem.W.Frag} {mg : Str → Option Value} {base : Heap}
/-- the rule of a def whose code object is known -/
theorem okC {x qual : Str} {st : Stmt} {f qc : Addr} {fd : FuncData} {N ps : List Str} {k : Nat} {sp : Sp} (F : Fun K x qual st f fd) (hq : fd.code = .ref qc) (S : FnScope N ps (defScope st)) (len : ∀ vs H Q E, sp vs H Q E → vs.length = ps.length)
    (walk : ∀ (A : Around) (outer : List Env) (s : Shared) (H : Hp) (vs : List V) (Q : VK) (E : XK), Room k (A.deeper (envOfC qual (defScope st) s.heap.objs.size f (.ref qc))) → A.guards = some [] → sp vs H Q E →
      ∃ t, PSs (cxOf (L2.CX P w) P w K mg base N qual (defScope st) f (.ref qc) A outer s H E) (defBody st) t ∧ t { nx := fun _ H' => Q .non H', rt := Q } (L2.start N vs) H) : FnG P w K mg base (k + 1) f fd ps sp := by
  obtain ⟨oc, od, kV, doc, pm, an, cdv, ct, osl, rfl, lk, hcd⟩ := F.ex
  have hq : cdv = .ref qc := hq
  subst hq
  constructor
  · exact len
  intro A outer s H args us vs Q E room gd env bnd rel asked
  have size_eq := len _ _ _ _ asked
  have kin : K.In s.heap := env.mod.kin.keeps fun b o z => (env.bs b o z).1
  have nolim : s.heap.NoLimit := env.mod.nolimit.keeps fun b o z => (env.bs b o z).1
  have kinds : ∀ y ∈ ps.zip us, (defScope st).names.lookup y.1 = some .local ∨ ((defScope st).names.lookup y.1 = some .cell ∧ ((cellsFrom (s.heap.objs.size + 1) (defScope st).names []).lookup y.1).isSome = true) := by
    rintro ⟨n, v⟩ mem
    have q := S.par n (List.of_mem_zip mem).1
    cases q with
    | inl q => exact Or.inl q
    | inr q => exact Or.inr (And.intro q (PySem.W.cellsFrom_some _ _ _ (Or.inl q)))
  apply codeAny_call_function room.depth (kin _ _ lk) rfl S.co S.gen rfl (PySem.W.codeRec_of kin hcd)
  apply bnd
  refine wpAny_newFunctionEnv_cells S.kind kinds (fun fr hfr s1 inC => ?_)
  subst hfr
  constructor
  · exact nolim.keeps inC.toInCall.keep
  apply codeAny_func
  have todo := walk A outer s H vs Q E (room.deeper _) gd asked
  obtain ⟨t, derived, reading⟩ := todo
  have I0 := inv_start (E := E) (CX := L2.CX P w) S room.hd env size_eq rel inC
  apply wpAny_mono (derived.run [] s1 (L2.start N vs) H _ I0 reading)
  · intro fl s' got
    match fl, got with
    | .ret u, ⟨v, σ', H', J, rv, q⟩ => exact ⟨v, H', J.os, J.bare, J.base, J.hok, rv, q⟩
    | .next, ⟨σ', H', J, q⟩ => exact ⟨V.non, H', J.os, J.bare, J.base, J.hok, rfl, q⟩
    | .brk, ⟨_, _, _, q⟩ => exact q.elim
    | .cont, ⟨_, _, _, q⟩ => exact q.elim
  · intro e s' q
    exact q
end
end J

/-! Joinside: trees laid together. -/
namespace J
open PySem PySem.Spec L2 LamX
/-! ### all but the tables stay -/
theorem Same.extN {H H' : Hp} (s : Same H H') : ExtN H H' := ExtN.of s
theorem extN_tups {H H' : Hp} (e : ExtN H H') : Tups H H' := fun a xs h => e a _ h fun _ z => by cases z
theorem TAt.ext {H H' : Hp} (e : ExtN H H') {v : V} {t : Tr} (h : TAt H v t) : TAt H' v t := h.keep (extN_tups e)
theorem OAt.ext {X : TC} {B : Addr → Prop} {H H' : Hp} (s : ExtN H H') {t : Tr} : ∀ {v : V}, OAt X B H v t → OAt X B H' v t := by
  refine Tr.ind (p := fun t => ∀ {v : V}, OAt X B H v t → OAt X B H' v t) (fun n v h => ?_) (fun j ps ih v h => ?_) t
  · cases h with | pt _ ha => exact .pt n (s _ _ ha (fun xs z => by cases z))
  · cases h with
    | nd ha hl nb h => exact .nd (s _ _ ha (fun xs z => by cases z)) (s _ _ hl (fun _ z => by cases z)) nb (Paired.imp h fun a b m k => ih b m k)
theorem OAts.ext {X : TC} {B : Addr → Prop} {H H' : Hp} (s : ExtN H H') {vs : List V} {ts : List Tr} (h : Paired (OAt X B H) vs ts) : Paired (OAt X B H') vs ts := Paired.imp h fun _ _ _ k => k.ext s
theorem lst_ext {H H' : Hp} (e : ExtN H H') {a : Addr} {xs : List V} (h : H a = some (.lst xs)) : H' a = some (.lst xs) := e _ _ h fun _ z => by cases z
theorem OAts.pts {X : TC} {H : Hp} : ∀ {vs : List V} {ps qs : List Tr}, (∀ p ∈ ps, ∀ {v : V} {u : Tr}, OAt X No H v p → OAt X No H v u → p.pts = u.pts) → Paired (OAt X No H) vs ps → Paired (OAt X No H) vs qs → ptsL ps = ptsL qs
  | _, _, _, _, .nil, .nil => rfl
  | _, _, _, k, .cons a b, .cons c d => by
    rw [ptsL, ptsL, k _ List.mem_cons_self a c, OAts.pts (fun p hp => k p (List.mem_cons_of_mem _ hp)) b d]
/-- a made thing has the points of one tree -/
theorem OAt.pts_one {X : TC} {H : Hp} {t : Tr} : ∀ {v : V} {u : Tr}, OAt X No H v t → OAt X No H v u → t.pts = u.pts := by
  refine Tr.ind (p := fun t => ∀ {v : V} {u : Tr}, OAt X No H v t → OAt X No H v u → t.pts = u.pts) (fun n v u h k => ?_) (fun j ps ih v u h k => ?_) t
  · obtain ⟨a, dx, rfl, ha⟩ := h.ptE
    cases u with
    | pt m =>
      obtain ⟨a', dx', e, hb⟩ := k.ptE
      cases e
      rw [ha] at hb
      cases hb
      rfl
    | nd j ps =>
      obtain ⟨a', dx', l, vs, e, hb, _⟩ := k.ndE
      cases e
      rw [ha] at hb
      injection hb with hb
      injection hb with _ _ hb
      injection hb with hb _
      injection hb with hb _
      exact absurd hb (by decide +kernel)
  · obtain ⟨a, dx, l, vs, rfl, ha, hl, hp, _⟩ := h.ndE
    cases u with
    | pt m =>
      obtain ⟨a', dx', e, hb⟩ := k.ptE
      cases e
      rw [ha] at hb
      injection hb with hb
      injection hb with _ _ hb
      injection hb with hb _
      injection hb with hb _
      exact absurd hb (by decide +kernel)
    | nd j' qs =>
      obtain ⟨a', dx', l', vs', e, hb, hl', hq, _⟩ := k.ndE
      cases e
      rw [ha] at hb
      injection hb with hb
      injection hb with _ _ hb
      injection hb with hb _
      injection hb with _ hb
      cases hb
      rw [hl] at hl'
      cases hl'
      rw [Tr.pts, Tr.pts]
      exact OAts.pts ih hp hq
/-- made trees, sorted by their least points with a lambda -/
theorem s_sortLamO {K : PySem.W.Frag} {X : TC} {T : List (Addr × Str)} {N : List Str} {te tb : TE} {σ : Sl} {H : Hp} {Q : VK}
    (q : te σ H fun v H1 => ∃ (l : Addr) (xs : List V) (ts : List Tr), v = .ref l ∧ H1 l = some (.lst xs) ∧ Paired (OAt X No H1) xs ts ∧ (∀ t ∈ ts, t.Good) ∧ Tabs T H1 ∧
      ∀ H2, ExtN H1 H2 → Tabs T H2 → (∀ x t H3, t ∈ ts → OAt X No H3 x t → Same H2 H3 → ∀ Q' : VK, (∀ H4, Same H3 H4 → Q' (.int (t.least : Nat)) H4) → tb (L2.start N [x]) H3 Q') ∧
        ∀ ys us p H3, Same H2 H3 → H2 p = none → H3 p = some (.lst ys) → us.Perm ts → Paired (OAt X No H3) ys us → (us.map Tr.least).Pairwise (· ≤ ·) → Q (.ref p) H3) : ∀ (mono : ∀ F G : VK, (∀ v H', F v H' → G v H') → te σ H F → te σ H G), tSortLam K T N te tb σ H Q := by
  intro mono
  refine mono _ _ ?_ q
  rintro v H1 ⟨l, xs, ts, rfl, el, hp, g, hT, k⟩
  classical
  obtain ⟨key, hkey⟩ : ∃ key : V → Int, ∀ x t, OAt X No H1 x t → t ∈ ts → key x = (t.least : Nat) := by
    refine ⟨fun x => if h : ∃ t, OAt X No H1 x t ∧ t ∈ ts then (h.choose.least : Nat) else 0, fun x t ht hm => ?_⟩
    have e : ∃ t, OAt X No H1 x t ∧ t ∈ ts := ⟨t, ht, hm⟩
    simp only [e, dif_pos]
    unfold Tr.least
    rw [OAt.pts_one e.choose_spec.1 ht]
  refine ⟨l, xs, key, rfl, SqL.of el, hT, fun H2 e2 T2 => ?_⟩
  obtain ⟨k1, k2⟩ := k H2 e2 T2
  refine ⟨fun x hx H3 S3 => ?_, fun ys p H3 S3 hp0 ep pm srt => ?_⟩
  · obtain ⟨i, hi⟩ := List.getElem?_of_mem hx
    obtain ⟨t, ht, hxt⟩ := Paired.at' hp hi
    have hm := List.mem_of_getElem? ht
    exact k1 x t H3 hm ((hxt.ext e2).same S3) S3 _ fun H4 S4 => ⟨by rw [hkey x t hxt hm], S4⟩
  · obtain ⟨us, pu, hu⟩ := Paired.perm pm hp
    refine k2 ys us p H3 S3 hp0 ep pu (OAts.same S3 (OAts.ext e2 hu)) ?_
    have e : ys.map key = us.map fun t => ((Tr.least t : Nat) : Int) := by
      have hm : ∀ t ∈ us, t ∈ ts := fun t h => pu.mem_iff.mp h
      clear srt ep pm pu
      induction hu with
      | nil => rfl
      | cons a _ ih =>
        rw [List.map_cons, List.map_cons, hkey _ _ a (hm _ List.mem_cons_self), ih fun t h => hm t (List.mem_cons_of_mem _ h)]
    rw [e, List.pairwise_map] at srt
    rw [List.pairwise_map]
    exact srt.imp fun h => by omega
/-! ### the tree -/
def Tr.pcs (j : Bool) : Tr → List Tr
  | .pt n => [.pt n]
  | .nd k ps => if k = j then ps else [.nd k ps]
/-- ts are the parts of both laid together -/
structure LaidT (j : Bool) (t1 t2 : Tr) (ts : List Tr) : Prop where
  perm : ts.Perm (t1.pcs j ++ t2.pcs j)
  srt : (ts.map Tr.least).Pairwise (· ≤ ·)
theorem pcs_pts (j : Bool) (t : Tr) : ptsL (t.pcs j) = t.pts := by
  cases t with
  | pt n => rw [Tr.pcs, ptsL, ptsL]; simp
  | nd k ps =>
    rw [Tr.pcs]
    split
    · rw [Tr.pts]
    · rw [ptsL, ptsL]; simp
theorem pcs_good {j : Bool} {t : Tr} (g : t.Good) : ∀ p ∈ t.pcs j, p.Good ∧ p.word ≠ wd j := by
  cases t with
  | pt n =>
    intro p hp
    rw [Tr.pcs, List.mem_singleton] at hp
    subst hp
    exact ⟨g, (wd_ne j).symm⟩
  | nd k ps =>
    intro p hp
    rw [Tr.pcs] at hp
    split at hp
    · rename_i e
      subst e
      exact good_part g hp
    · rename_i ne
      rw [List.mem_singleton] at hp
      subst hp
      exact ⟨g, fun e => ne (wd_inj e)⟩
theorem pcs_len {j : Bool} {t : Tr} (g : t.Good) : 1 ≤ (t.pcs j).length ∧ (t.pcs j).length ≤ 30 := by
  cases t with
  | pt n => rw [Tr.pcs]; exact ⟨Nat.le_refl 1, Nat.le_of_ble_eq_true rfl⟩
  | nd k ps =>
    rw [Tr.pcs]
    split
    · have := parts_30 g
      rw [Tr.Good] at g
      exact ⟨by omega, this⟩
    · exact ⟨by simp, by simp⟩
theorem least_mem {t : Tr} (g : t.Good) : t.least ∈ t.pts := by
  unfold Tr.least
  cases h : t.pts with
  | nil => exact absurd h (Tr.pts_ne g)
  | cons a l => simp
section
variable {j : Bool} {t1 t2 : Tr} {ts : List Tr}
theorem LaidT.good (L : LaidT j t1 t2 ts) (g1 : t1.Good) (g2 : t2.Good) (dj : ∀ x ∈ t1.pts, x ∉ t2.pts) : (Tr.nd j ts).Good := by
  have gp : ∀ p ∈ ts, p.Good ∧ p.word ≠ wd j := fun p hp => by
    rcases List.mem_append.mp (L.perm.mem_iff.mp hp) with h | h
    · exact pcs_good g1 p h
    · exact pcs_good g2 p h
  have pp : (ptsL ts).Perm (t1.pts ++ t2.pts) := by
    have h := (L.perm.flatMap_right (f := Tr.pts))
    rw [← ptsL_eq, ← ptsL_eq] at h
    refine h.trans ?_
    rw [ptsL_eq, List.flatMap_append, ← ptsL_eq, ← ptsL_eq, pcs_pts, pcs_pts]
  have nd : (ptsL ts).Nodup := by
    rw [pp.nodup_iff, List.nodup_append]
    exact ⟨Tr.nodup g1, Tr.nodup g2, fun a ha b hb e => dj a ha (e ▸ hb)⟩
  rw [Tr.Good]
  refine ⟨?_, goodL_iff.mpr gp, nd, ?_⟩
  · rw [L.perm.length_eq, List.length_append]
    have h1 := (pcs_len (j := j) g1).1
    have h2 := (pcs_len (j := j) g2).1
    omega
  · have key : ∀ us : List Tr, (∀ p ∈ us, p.Good) → (ptsL us).Nodup → (us.map Tr.least).Pairwise (· ≤ ·) → (us.map Tr.least).Pairwise (· < ·) := by
      intro us
      induction us with
      | nil => intro _ _ _; exact .nil
      | cons u us ih =>
        intro g nd s
        rw [ptsL, List.nodup_append] at nd
        rw [List.map_cons, List.pairwise_cons] at s ⊢
        refine ⟨fun x hx => Nat.lt_of_le_of_ne (s.1 x hx) fun e => ?_, ih (fun p hp => g p (List.mem_cons_of_mem _ hp)) nd.2.1 s.2⟩
        obtain ⟨r, hr, rfl⟩ := List.mem_map.mp hx
        exact nd.2.2 _ (least_mem (g u List.mem_cons_self)) _ (mem_ptsL.mpr ⟨r, hr, least_mem (g r (List.mem_cons_of_mem _ hr))⟩) e
    exact key ts (fun p hp => (gp p hp).1) nd L.srt
theorem LaidT.pts (L : LaidT j t1 t2 ts) : (ptsL ts).Perm (t1.pts ++ t2.pts) := by
  have h := (L.perm.flatMap_right (f := Tr.pts))
  rw [← ptsL_eq, ← ptsL_eq] at h
  refine h.trans ?_
  rw [ptsL_eq, List.flatMap_append, ← ptsL_eq, ← ptsL_eq, pcs_pts, pcs_pts]
theorem LaidT.flip (L : LaidT j t1 t2 ts) : LaidT j t2 t1 ts := ⟨L.perm.trans List.perm_append_comm, L.srt⟩
end
/-- laid(one, other, word) -/
def sp_laid (p : Addr) (q : Str) : Sp := fun vs H Q _ => ∃ (v1 v2 : V) (t1 t2 : Tr) (j : Bool), vs = [v1, v2, .str (wd j)] ∧ TAt H v1 t1 ∧ TAt H v2 t2 ∧ t1.Good ∧ t2.Good ∧ (∀ x ∈ t1.pts, x ∉ t2.pts) ∧ Tabs [(p, q)] H ∧
  ∀ u ts H', ExtN H H' → Tabs [(p, q)] H' → LaidT j t1 t2 ts → TAt H' u (.nd j ts) → Q u H'
def sp_sided (j : Bool) (p : Addr) (q : Str) : Sp := fun vs H Q _ => ∃ (v1 v2 : V) (t1 t2 : Tr), vs = [v1, v2] ∧ TAt H v1 t1 ∧ TAt H v2 t2 ∧ t1.Good ∧ t2.Good ∧ (∀ x ∈ t1.pts, x ∉ t2.pts) ∧ Tabs [(p, q)] H ∧
  ∀ u ts H', ExtN H H' → Tabs [(p, q)] H' → LaidT j t1 t2 ts → TAt H' u (.nd j ts) → Q u H'
def sp_lawT (K : PySem.W.Frag) (p : Addr) : Sp := fun vs H Q _ => ∃ (a : Addr) (ns : List Int), vs = [.ref a] ∧ SqL K H a (ns.map V.int) ∧ ns.length ≤ 63 ∧ H p = some (.tbl #[]) ∧ ∀ H', Q (.bl true) H'
theorem flatPcs_take {j : Bool} {l : List Tr} {i : Nat} {t : Tr} (h : l[i]? = some t) : (l.take (i + 1)).flatMap (Tr.pcs j) = (l.take i).flatMap (Tr.pcs j) ++ t.pcs j := by
  rw [take_succ_of' h, List.flatMap_append]
  simp
def sp__law_laid : Sp := fun vs H Q _ => ∃ (v1 v2 : V) (t1 t2 : Tr) (j : Bool), vs = [v1, v2, .str (wd j)] ∧ TAt H v1 t1 ∧ TAt H v2 t2 ∧ t1.Good ∧ t2.Good ∧ ∀ u ts H', Same H H' → LaidT j t1 t2 ts → TAt H' u (.nd j ts) → Q u H'
def sp__law_between : Sp := fun vs H Q _ => ∃ (v1 v2 : V) (t1 t2 : Tr), vs = [v1, v2] ∧ TAt H v1 t1 ∧ TAt H v2 t2 ∧ t1.Good ∧ t2.Good ∧ ∀ q ys H', Same H H' → H' q = some (.lst ys) → PairsAt H' ys (crossL t1.pts t2.pts) → Q (.ref q) H'
def sp_k05_is : Sp := fun vs H Q _ => ∃ (u w : V) (t : Tr), vs = [u, w] ∧ TAt H u t ∧ TAt H w t ∧ t.Good ∧ ∀ H', Same H H' → Q (.bl true) H'
def sp__law_both (p : Addr) (q : Str) : Sp := fun vs H Q _ => ∃ (v1 v2 : V) (t1 t2 : Tr), vs = [v1, v2] ∧ TAt H v1 t1 ∧ TAt H v2 t2 ∧ t1.Good ∧ t2.Good ∧ (∀ x ∈ t1.pts, x ∉ t2.pts) ∧ t1.pts.length + t2.pts.length ≤ 30 ∧ Tabs [(p, q)] H ∧
  ∀ H', ExtN H H' → Tabs [(p, q)] H' → Q (.bl true) H'
section
variable {j : Bool} {t1 t2 : Tr} {ts us : List Tr}
theorem LaidT.nd (L : LaidT j t1 t2 ts) (g1 : t1.Good) (g2 : t2.Good) (dj : ∀ x ∈ t1.pts, x ∉ t2.pts) : (ptsL ts).Nodup := by
  have g := L.good g1 g2 dj
  rw [Tr.Good] at g
  exact g.2.2.1
/-- trees with unlike least points, in rising order: one order -/
theorem least_one : ∀ {ts us : List Tr}, ts.Perm us → (ts.map Tr.least).Pairwise (· < ·) → (us.map Tr.least).Pairwise (· < ·) → ts = us
  | [], us, p, _, _ => by rw [List.Perm.nil_eq p]
  | t :: ts, [], p, _, _ => by exact absurd p.length_eq (by simp)
  | t :: ts, u :: us, p, h1, h2 => by
    have e : t = u := by
      rcases List.mem_cons.mp (p.mem_iff.mp List.mem_cons_self) with e | e
      · exact e
      · rcases List.mem_cons.mp (p.mem_iff.mpr (List.mem_cons_self (a := u))) with e2 | e2
        · exact e2.symm
        · rw [List.map_cons, List.pairwise_cons] at h1 h2
          have := h1.1 _ (List.mem_map.mpr ⟨u, e2, rfl⟩)
          have := h2.1 _ (List.mem_map.mpr ⟨t, e, rfl⟩)
          omega
    subst e
    rw [List.map_cons, List.pairwise_cons] at h1 h2
    rw [least_one (p.cons_inv) h1.2 h2.2]
theorem LaidT.one (L : LaidT j t1 t2 ts) (M : LaidT j t1 t2 us) (g1 : t1.Good) (g2 : t2.Good) (dj : ∀ x ∈ t1.pts, x ∉ t2.pts) : ts = us := by
  have a := L.good g1 g2 dj
  have b := M.good g1 g2 dj
  rw [Tr.Good] at a b
  exact least_one (L.perm.trans M.perm.symm) a.2.2.2 b.2.2.2
theorem pcs_self : (Tr.nd j ts).pcs j = ts := by rw [Tr.pcs, if_pos rfl]
/-- where a part of one of both has two points -/
theorem pcs_rel {t : Tr} (g : t.Good) {a b : Nat} (ha : a ∈ t.pts) (hb : b ∈ t.pts) : (∃ p ∈ t.pcs j, a ∈ p.pts ∧ b ∈ p.pts ∧ p.rel a b = t.rel a b) ∨ ((∀ p ∈ t.pcs j, ¬ (a ∈ p.pts ∧ b ∈ p.pts)) ∧ t.rel a b = j) := by
  cases t with
  | pt n => exact .inl ⟨.pt n, by rw [Tr.pcs]; exact List.mem_cons_self, ha, hb, rfl⟩
  | nd k ps =>
    rw [Tr.pcs]
    split
    · rename_i e
      subst e
      have g' := g
      rw [Tr.Good] at g'
      rw [Tr.pts] at ha hb
      by_cases h : ∃ p ∈ ps, a ∈ p.pts ∧ b ∈ p.pts
      · obtain ⟨p, hp, h1, h2⟩ := h
        exact .inl ⟨p, hp, h1, h2, by rw [Tr.rel, rel_part g'.2.2.1 hp h1 h2]⟩
      · have h' : ∀ p ∈ ps, ¬ (a ∈ p.pts ∧ b ∈ p.pts) := fun p hp z => h ⟨p, hp, z⟩
        exact .inr ⟨h', by rw [Tr.rel, rel_apart ha hb h']⟩
    · exact .inl ⟨_, List.mem_cons_self, ha, hb, rfl⟩
theorem LaidT.mem (L : LaidT j t1 t2 ts) {p : Tr} : p ∈ ts ↔ p ∈ t1.pcs j ∨ p ∈ t2.pcs j := by rw [L.perm.mem_iff, List.mem_append]
theorem pcs_sub {t p : Tr} (h : p ∈ t.pcs j) {x : Nat} (hx : x ∈ p.pts) : x ∈ t.pts := by
  rw [← pcs_pts j t]
  exact mem_ptsL.mpr ⟨p, h, hx⟩
theorem LaidT.rel1 (L : LaidT j t1 t2 ts) (g1 : t1.Good) (g2 : t2.Good) (dj : ∀ x ∈ t1.pts, x ∉ t2.pts) {a b : Nat} (ha : a ∈ t1.pts) (hb : b ∈ t1.pts) : relL j ts a b = t1.rel a b := by
  have nd := L.nd g1 g2 dj
  rcases pcs_rel (j := j) g1 ha hb with ⟨p, hp, h1, h2, e⟩ | ⟨h, e⟩
  · rw [rel_part nd (L.mem.mpr (.inl hp)) h1 h2, e]
  · have hin : ∀ x ∈ t1.pts, x ∈ ptsL ts := fun x hx => L.pts.mem_iff.mpr (List.mem_append_left _ hx)
    rw [rel_apart (hin _ ha) (hin _ hb), e]
    rintro p hp ⟨h1, h2⟩
    rcases L.mem.mp hp with hp | hp
    · exact h p hp ⟨h1, h2⟩
    · exact dj _ ha (pcs_sub hp h1)
theorem LaidT.rel12 (L : LaidT j t1 t2 ts) (dj : ∀ x ∈ t1.pts, x ∉ t2.pts) {a b : Nat} (ha : a ∈ t1.pts) (hb : b ∈ t2.pts) : relL j ts a b = j := by
  refine rel_apart (L.pts.mem_iff.mpr (List.mem_append_left _ ha)) (L.pts.mem_iff.mpr (List.mem_append_right _ hb)) ?_
  rintro p hp ⟨h1, h2⟩
  rcases L.mem.mp hp with hp | hp
  · exact dj _ (pcs_sub hp h2) hb
  · exact dj _ ha (pcs_sub hp h1)
/-- the ties of both laid together -/
theorem LaidT.ties (L : LaidT j t1 t2 ts) (g1 : t1.Good) (g2 : t2.Good) (dj : ∀ x ∈ t1.pts, x ∉ t2.pts) : (Tr.nd j ts).ties.Perm (t1.ties ++ t2.ties ++ if j = true then crossL t1.pts t2.pts else []) := by
  have g := L.good g1 g2 dj
  have dj' : ∀ x ∈ t2.pts, x ∉ t1.pts := fun x h1 h2 => dj x h2 h1
  have ndc : (if j = true then crossL t1.pts t2.pts else []).Nodup := by
    split
    · exact nodup_crossL (Tr.nodup g1) (Tr.nodup g2) dj
    · exact List.nodup_nil
  have m1 := fun {x y : Nat} (h : (x, y) ∈ t1.ties) => rel_in _ _ (((ties_both g1).2 x y).mp h).2
  have m2 := fun {x y : Nat} (h : (x, y) ∈ t2.ties) => rel_in _ _ (((ties_both g2).2 x y).mp h).2
  have mc : ∀ x y, (x, y) ∈ (if j = true then crossL t1.pts t2.pts else []) ↔ j = true ∧ x < y ∧ ((x ∈ t1.pts ∧ y ∈ t2.pts) ∨ (y ∈ t1.pts ∧ x ∈ t2.pts)) := by
    intro x y
    cases j with
    | true => rw [if_pos rfl, mem_crossL dj, cr_iff]; simp
    | false => simp
  have nd : (t1.ties ++ t2.ties ++ if j = true then crossL t1.pts t2.pts else []).Nodup := by
    rw [List.nodup_append, List.nodup_append]
    refine ⟨⟨(ties_both g1).1, (ties_both g2).1, ?_⟩, ndc, ?_⟩
    · rintro ⟨x, y⟩ h1 ⟨u, v⟩ h2 e
      rw [Prod.mk.injEq] at e
      obtain ⟨rfl, rfl⟩ := e
      exact dj _ (m1 h1).1 (m2 h2).1
    · rintro ⟨x, y⟩ h1 ⟨u, v⟩ h2 e
      rw [Prod.mk.injEq] at e
      obtain ⟨rfl, rfl⟩ := e
      have h2 := (mc _ _).mp h2
      rcases List.mem_append.mp h1 with h1 | h1
      · have h1 := m1 h1
        rcases h2.2.2 with h | h
        · exact dj _ h1.2 h.2
        · exact dj _ h1.1 h.2
      · have h1 := m2 h1
        rcases h2.2.2 with h | h
        · exact dj _ h.1 h1.1
        · exact dj _ h.1 h1.2
  refine (List.perm_ext_iff_of_nodup (ties_both g).1 nd).mpr ?_
  rintro ⟨x, y⟩
  rw [(ties_both g).2, List.mem_append, List.mem_append, (ties_both g1).2, (ties_both g2).2, mc, Tr.rel]
  constructor
  · rintro ⟨lt, h⟩
    obtain ⟨hx, hy⟩ := relL_in' h
    rcases List.mem_append.mp (L.pts.mem_iff.mp hx) with hx | hx <;> rcases List.mem_append.mp (L.pts.mem_iff.mp hy) with hy | hy
    · rw [L.rel1 g1 g2 dj hx hy] at h
      exact .inl (.inl ⟨lt, h⟩)
    · rw [L.rel12 dj hx hy] at h
      exact .inr ⟨h, lt, .inl ⟨hx, hy⟩⟩
    · rw [L.flip.rel12 dj' hx hy] at h
      exact .inr ⟨h, lt, .inr ⟨hy, hx⟩⟩
    · rw [L.flip.rel1 g2 g1 dj' hx hy] at h
      exact .inl (.inr ⟨lt, h⟩)
  · rintro ((⟨lt, h⟩ | ⟨lt, h⟩) | ⟨hj, lt, h⟩)
    · obtain ⟨hx, hy⟩ := rel_in _ _ h
      exact ⟨lt, by rw [L.rel1 g1 g2 dj hx hy]; exact h⟩
    · obtain ⟨hx, hy⟩ := rel_in _ _ h
      exact ⟨lt, by rw [L.flip.rel1 g2 g1 dj' hx hy]; exact h⟩
    · refine ⟨lt, ?_⟩
      rcases h with ⟨hx, hy⟩ | ⟨hy, hx⟩
      · rw [L.rel12 dj hx hy]; exact hj
      · rw [L.flip.rel12 dj' hx hy]; exact hj
end
theorem s_neTT {K : PySem.W.Frag} {H : Hp} {Q : VK} {u v : V} {t : Tr} (h : TAt H v t) (h' : TAt H u t) (g : t.Good) (q : Q (.bl false) H) : rNeA K v u H Q :=
  s_neD h.dp h'.dp (data_shaped g) (data_shaped g) (by rw [show PyData.eqv t.data t.data = true from SeqAt.eqv_refl _ data_lay]; exact q)
theorem seg_mem {l : List Nat} {i n x : Nat} (h : x ∈ (l.drop i).take n) : ∃ k, i ≤ k ∧ k < i + n ∧ l[k]? = some x := by
  obtain ⟨k, hk, e⟩ := List.mem_iff_getElem.mp h
  rw [List.length_take, List.length_drop] at hk
  refine ⟨i + k, by omega, by omega, ?_⟩
  rw [← e, List.getElem_take, List.getElem_drop, List.getElem?_eq_getElem]
theorem nd_idx {l : List Nat} (nd : l.Nodup) {i k x : Nat} (h1 : l[i]? = some x) (h2 : l[k]? = some x) : i = k := by
  obtain ⟨a1, b1⟩ := List.getElem?_eq_some_iff.mp h1
  obtain ⟨a2, b2⟩ := List.getElem?_eq_some_iff.mp h2
  exact (List.getElem_inj nd).mp (b1.trans b2.symm)
theorem LaidT.assoc {j : Bool} {t1 t2 t3 : Tr} {a b l r : List Tr} (A : LaidT j t1 t2 a) (L : LaidT j (.nd j a) t3 l) (B : LaidT j t2 t3 b) (R : LaidT j t1 (.nd j b) r) : r.Perm l := by
  have h1 := L.perm
  have h2 := R.perm
  rw [pcs_self] at h1 h2
  refine h2.trans ((List.Perm.append_left _ B.perm).trans ?_)
  rw [← List.append_assoc]
  exact (List.Perm.append_right _ A.perm.symm).trans h1.symm
theorem good_srt {j : Bool} {ts : List Tr} (g : (Tr.nd j ts).Good) : (ts.map Tr.least).Pairwise (· < ·) := by
  rw [Tr.Good] at g
  exact g.2.2.2
theorem LaidT.mem_pts {j : Bool} {t1 t2 : Tr} {ts : List Tr} (L : LaidT j t1 t2 ts) {x : Nat} : x ∈ (Tr.nd j ts).pts ↔ x ∈ t1.pts ∨ x ∈ t2.pts := by rw [Tr.pts, L.pts.mem_iff, List.mem_append]
theorem LaidT.len_pts {j : Bool} {t1 t2 : Tr} {ts : List Tr} (L : LaidT j t1 t2 ts) : (Tr.nd j ts).pts.length = t1.pts.length + t2.pts.length := by rw [Tr.pts, L.pts.length_eq, List.length_append]
end J

/-! Joinside: a greatest crowd of a tree, its shades. -/
namespace J
open PySem PySem.Spec L2
def upto (l : List Nat) : List Nat := (List.range 30).filter fun x => decide (x ∈ l)
theorem mem_upto {l : List Nat} {x : Nat} (lt : ∀ y ∈ l, y < 30) : x ∈ upto l ↔ x ∈ l := by
  unfold upto
  rw [List.mem_filter, List.mem_range, decide_eq_true_eq]
  exact ⟨fun h => h.2, fun h => ⟨lt x h, h⟩⟩
theorem upto_perm {l : List Nat} (nd : l.Nodup) (lt : ∀ y ∈ l, y < 30) : l.Perm (upto l) :=
  perm_of nd (List.nodup_range.sublist List.filter_sublist) fun x => (mem_upto lt).symm
theorem upto_lt (l : List Nat) : (upto l).Pairwise (· < ·) := List.pairwise_lt_range.filter _
/-- the first of the longest -/
def longer (b y : List Nat) : List Nat := if b.length < y.length then y else b
def mxL : List (List Nat) → List Nat
  | [] => []
  | x :: xs => xs.foldl longer x
theorem longer_mem (b y : List Nat) : longer b y = b ∨ longer b y = y := by
  unfold longer
  split
  · exact .inr rfl
  · exact .inl rfl
theorem longer_le (b y : List Nat) : b.length ≤ (longer b y).length ∧ y.length ≤ (longer b y).length := by
  unfold longer
  split <;> omega
theorem fold_mem : ∀ (xs : List (List Nat)) (x : List Nat), xs.foldl longer x ∈ x :: xs
  | [], x => List.mem_cons_self
  | y :: xs, x => by
    rw [List.foldl_cons]
    rcases List.mem_cons.mp (fold_mem xs (longer x y)) with h | h
    · rw [h]
      rcases longer_mem x y with e | e <;> rw [e]
      · exact List.mem_cons_self
      · exact List.mem_cons_of_mem _ List.mem_cons_self
    · exact List.mem_cons_of_mem _ (List.mem_cons_of_mem _ h)
theorem fold_le : ∀ (xs : List (List Nat)) (x y : List Nat), y ∈ x :: xs → y.length ≤ (xs.foldl longer x).length
  | [], x, y, h => by
    rw [List.mem_singleton] at h
    rw [h]
    exact Nat.le_refl _
  | z :: xs, x, y, h => by
    rw [List.foldl_cons]
    have l := longer_le x z
    have t := fold_le xs (longer x z) (longer x z) List.mem_cons_self
    rcases List.mem_cons.mp h with rfl | h
    · omega
    · rcases List.mem_cons.mp h with rfl | h
      · omega
      · exact fold_le xs _ y (List.mem_cons_of_mem _ h)
theorem mxL_mem {xs : List (List Nat)} (h : xs ≠ []) : mxL xs ∈ xs := by
  cases xs with
  | nil => exact absurd rfl h
  | cons x xs => exact fold_mem xs x
theorem mxL_le {xs : List (List Nat)} {y : List Nat} (h : y ∈ xs) : y.length ≤ (mxL xs).length := by
  cases xs with
  | nil => cases h
  | cons x xs => exact fold_le xs x y h
mutual
/-- a greatest crowd, as the program tells it -/
def Tr.cw : Tr → List Nat
  | .pt n => [n]
  | .nd j ps => if j = true then upto (cwL ps).flatten else mxL (cwL ps)
def cwL : List Tr → List (List Nat)
  | [] => []
  | p :: ps => p.cw :: cwL ps
end
theorem cwL_eq : ∀ ps : List Tr, cwL ps = ps.map Tr.cw
  | [] => rfl
  | p :: ps => by rw [cwL, cwL_eq ps, List.map_cons]
structure CwOk (t : Tr) : Prop where
  sub : ∀ x ∈ t.cw, x ∈ t.pts
  asc : t.cw.Pairwise (· < ·)
  tied : ∀ x ∈ t.cw, ∀ y ∈ t.cw, x ≠ y → t.rel x y = true
  ne : t.cw ≠ []
theorem cw_ok {t : Tr} : t.Good → CwOk t := by
  refine Tr.ind (p := fun t => t.Good → CwOk t) (fun n g => ?_) (fun j ps ih g => ?_) t
  · refine ⟨fun x h => h, List.pairwise_singleton _ _, fun x hx y hy ne => ?_, by rw [Tr.cw]; simp⟩
    rw [Tr.cw, List.mem_singleton] at hx hy
    exact absurd (hx.trans hy.symm) ne
  · have g' := g
    rw [Tr.Good] at g'
    have nd := g'.2.2.1
    have gp := fun p (hp : p ∈ ps) => (good_part g hp).1
    have nps : ps ≠ [] := fun e => by rw [e] at g'; exact absurd g'.1 (by decide)
    cases j with
    | false =>
      have hc : (Tr.nd false ps).cw = mxL (cwL ps) := by rw [Tr.cw, if_neg Bool.false_ne_true]
      have hm : mxL (cwL ps) ∈ cwL ps := mxL_mem (by rw [cwL_eq]; intro e; exact nps (List.map_eq_nil_iff.mp e))
      rw [cwL_eq] at hm
      obtain ⟨p, hp, e⟩ := List.mem_map.mp hm
      rw [← cwL_eq] at e
      have o := ih p hp (gp p hp)
      refine ⟨fun x hx => ?_, ?_, fun x hx y hy ne => ?_, ?_⟩
      · rw [hc, ← e] at hx
        rw [Tr.pts]
        exact mem_ptsL.mpr ⟨p, hp, o.sub x hx⟩
      · rw [hc, ← e]; exact o.asc
      · rw [hc, ← e] at hx hy
        rw [Tr.rel, rel_part nd hp (o.sub x hx) (o.sub y hy)]
        exact o.tied x hx y hy ne
      · rw [hc, ← e]; exact o.ne
    | true =>
      have hc : (Tr.nd true ps).cw = upto (cwL ps).flatten := by rw [Tr.cw, if_pos rfl]
      have sub : ∀ x ∈ (cwL ps).flatten, ∃ p ∈ ps, x ∈ p.cw := fun x hx => by
        rw [cwL_eq, List.mem_flatten] at hx
        obtain ⟨l, hl, hx⟩ := hx
        obtain ⟨p, hp, rfl⟩ := List.mem_map.mp hl
        exact ⟨p, hp, hx⟩
      have lt : ∀ x ∈ (cwL ps).flatten, x < 30 := fun x hx => by
        obtain ⟨p, hp, h⟩ := sub x hx
        exact Tr.lt (gp p hp) x ((ih p hp (gp p hp)).sub x h)
      refine ⟨fun x hx => ?_, by rw [hc]; exact upto_lt _, fun x hx y hy ne => ?_, fun e => ?_⟩
      · rw [hc, mem_upto lt] at hx
        obtain ⟨p, hp, h⟩ := sub x hx
        rw [Tr.pts]
        exact mem_ptsL.mpr ⟨p, hp, (ih p hp (gp p hp)).sub x h⟩
      · rw [hc, mem_upto lt] at hx hy
        obtain ⟨p, hp, h⟩ := sub x hx
        obtain ⟨q, hq, k⟩ := sub y hy
        have hx' := (ih p hp (gp p hp)).sub x h
        have hy' := (ih q hq (gp q hq)).sub y k
        rw [Tr.rel]
        by_cases c : ∃ r ∈ ps, x ∈ r.pts ∧ y ∈ r.pts
        · obtain ⟨r, hr, h1, h2⟩ := c
          have e1 := part_uniq nd hp hr hx' h1
          have e2 := part_uniq nd hq hr hy' h2
          subst e1
          subst e2
          rw [rel_part nd hp hx' hy']
          exact (ih _ hp (gp _ hp)).tied x h y k ne
        · exact rel_apart (mem_ptsL.mpr ⟨p, hp, hx'⟩) (mem_ptsL.mpr ⟨q, hq, hy'⟩) fun r hr z => c ⟨r, hr, z⟩
      · obtain ⟨p, ps', rfl⟩ := List.exists_cons_of_ne_nil nps
        obtain ⟨x, hx⟩ := List.exists_mem_of_ne_nil _ (ih p List.mem_cons_self (gp p List.mem_cons_self)).ne
        have : x ∈ upto (cwL (p :: ps')).flatten := (mem_upto lt).mpr (by rw [cwL, List.flatten_cons]; exact List.mem_append_left _ hx)
        rw [← hc, e] at this
        cases this
/-! ### how many -/
mutual
def Tr.chi : Tr → Nat
  | .pt _ => 1
  | .nd j ps => if j = true then chiS ps else chiM ps
def chiS : List Tr → Nat
  | [] => 0
  | p :: ps => p.chi + chiS ps
def chiM : List Tr → Nat
  | [] => 0
  | p :: ps => max p.chi (chiM ps)
end
theorem chi_cw {t : Tr} : t.Good → t.chi = t.cw.length := by
  refine Tr.ind (p := fun t => t.Good → t.chi = t.cw.length) (fun n g => ?_) (fun j ps ih g => ?_) t
  · rw [Tr.chi, Tr.cw]; rfl
  · have g' := g
    rw [Tr.Good] at g'
    have nd := g'.2.2.1
    have gp := fun p (hp : p ∈ ps) => (good_part g hp).1
    have nps : ps ≠ [] := fun e => by rw [e] at g'; exact absurd g'.1 (by decide)
    have ih' : ∀ p ∈ ps, p.chi = p.cw.length := fun p hp => ih p hp (gp p hp)
    cases j with
    | false =>
      rw [Tr.chi, Tr.cw, if_neg Bool.false_ne_true, if_neg Bool.false_ne_true]
      have le : ∀ qs : List Tr, (∀ p ∈ qs, p.chi = p.cw.length) → ∀ m, (∀ p ∈ qs, p.cw.length ≤ m) → chiM qs ≤ m := by
        intro qs
        induction qs with
        | nil => intro _ m _; rw [chiM]; exact Nat.zero_le _
        | cons q qs ihq =>
          intro h m k
          rw [chiM, h q List.mem_cons_self]
          exact Nat.max_le.mpr ⟨k q List.mem_cons_self, ihq (fun p hp => h p (List.mem_cons_of_mem _ hp)) m fun p hp => k p (List.mem_cons_of_mem _ hp)⟩
      have ge : ∀ qs : List Tr, (∀ p ∈ qs, p.chi = p.cw.length) → ∀ p ∈ qs, p.cw.length ≤ chiM qs := by
        intro qs
        induction qs with
        | nil => intro _ p hp; cases hp
        | cons q qs ihq =>
          intro h p hp
          rw [chiM]
          rcases List.mem_cons.mp hp with rfl | hp
          · rw [h p List.mem_cons_self]; exact Nat.le_max_left _ _
          · exact Nat.le_trans (ihq (fun p hp => h p (List.mem_cons_of_mem _ hp)) p hp) (Nat.le_max_right _ _)
      have hm : mxL (cwL ps) ∈ cwL ps := mxL_mem (by rw [cwL_eq]; intro e; exact nps (List.map_eq_nil_iff.mp e))
      rw [cwL_eq] at hm
      obtain ⟨p, hp, e⟩ := List.mem_map.mp hm
      rw [← cwL_eq] at e
      refine Nat.le_antisymm (le ps ih' _ fun q hq => mxL_le (by rw [cwL_eq]; exact List.mem_map.mpr ⟨q, hq, rfl⟩)) ?_
      rw [← e]
      exact ge ps ih' p hp
    | true =>
      rw [Tr.chi, Tr.cw, if_pos rfl, if_pos rfl]
      have key : ∀ qs : List Tr, (∀ p ∈ qs, p.Good ∧ p.chi = p.cw.length) → (ptsL qs).Nodup → chiS qs = (cwL qs).flatten.length ∧ (cwL qs).flatten.Nodup ∧ ∀ x ∈ (cwL qs).flatten, x ∈ ptsL qs ∧ x < 30 := by
        intro qs
        induction qs with
        | nil => intro _ _; rw [chiS, cwL]; exact ⟨rfl, List.nodup_nil, fun x h => by cases h⟩
        | cons q qs ihq =>
          intro h nd
          rw [ptsL, List.nodup_append] at nd
          obtain ⟨h1, h2, h3⟩ := ihq (fun p hp => h p (List.mem_cons_of_mem _ hp)) nd.2.1
          obtain ⟨gq, eq⟩ := h q List.mem_cons_self
          have o := cw_ok gq
          rw [chiS, cwL, List.flatten_cons, List.length_append, ← h1, eq, List.nodup_append, ptsL]
          refine ⟨rfl, ⟨o.asc.imp fun h => Nat.ne_of_lt h, h2, fun a ha b hb => nd.2.2 _ (o.sub a ha) _ (h3 b hb).1⟩, fun x hx => ?_⟩
          rcases List.mem_append.mp hx with hx | hx
          · exact ⟨List.mem_append_left _ (o.sub x hx), Tr.lt gq x (o.sub x hx)⟩
          · exact ⟨List.mem_append_right _ (h3 x hx).1, (h3 x hx).2⟩
      obtain ⟨k1, k2, k3⟩ := key ps (fun p hp => ⟨gp p hp, ih' p hp⟩) nd
      rw [k1, (upto_perm k2 fun x hx => (k3 x hx).2).length_eq]
/-! ### shades -/
theorem chiM_mem : ∀ {ps : List Tr} {p : Tr}, p ∈ ps → p.chi ≤ chiM ps
  | q :: ps, p, h => by
    rw [chiM]
    rcases List.mem_cons.mp h with rfl | h
    · exact Nat.le_max_left _ _
    · exact Nat.le_trans (chiM_mem h) (Nat.le_max_right _ _)
theorem chiM_at : ∀ {ps : List Tr} {v : Nat}, v < chiM ps → ∃ p ∈ ps, v < p.chi
  | [], v, h => by rw [chiM] at h; exact absurd h (Nat.not_lt_zero _)
  | q :: ps, v, h => by
    rw [chiM] at h
    by_cases c : v < q.chi
    · exact ⟨q, List.mem_cons_self, c⟩
    · obtain ⟨p, hp, k⟩ := chiM_at (ps := ps) (v := v) (by omega)
      exact ⟨p, List.mem_cons_of_mem _ hp, k⟩
mutual
/-- points with their shades, in the order in which the program's dict gets them -/
def Tr.sh : Tr → List (Nat × Nat)
  | .pt n => [(n, 0)]
  | .nd j ps => shL j 0 ps
def shL (j : Bool) : Nat → List Tr → List (Nat × Nat)
  | _, [] => []
  | u, p :: ps => (p.sh.map fun q => (q.1, q.2 + u)) ++ shL j (if j = true then u + p.chi else u) ps
end
theorem shL_keys {j : Bool} : ∀ {ps : List Tr} {u : Nat}, (∀ p ∈ ps, p.sh.map (·.1) = p.pts) → (shL j u ps).map (·.1) = ptsL ps
  | [], u, _ => by rw [shL, ptsL]; rfl
  | p :: ps, u, h => by
    rw [shL, ptsL, List.map_append, List.map_map, shL_keys fun q hq => h q (List.mem_cons_of_mem _ hq), ← h p List.mem_cons_self]
    rfl
theorem sh_keys {t : Tr} : t.sh.map (·.1) = t.pts := by
  refine Tr.ind (p := fun t => t.sh.map (·.1) = t.pts) (fun n => rfl) (fun j ps ih => ?_) t
  rw [Tr.sh, Tr.pts]
  exact shL_keys ih
theorem mem_shL_join : ∀ {ps : List Tr} {u : Nat} {x v : Nat}, (∀ p ∈ ps, ∀ q ∈ p.sh, q.2 < p.chi) → (x, v) ∈ shL true u ps → u ≤ v ∧ v < u + chiS ps
  | p :: ps, u, x, v, k, h => by
    rw [shL, List.mem_append, if_pos rfl] at h
    rw [chiS]
    rcases h with h | h
    · obtain ⟨q, hq, e⟩ := List.mem_map.mp h
      have := k p List.mem_cons_self q hq
      rw [Prod.mk.injEq] at e
      omega
    · have := mem_shL_join (fun r hr => k r (List.mem_cons_of_mem _ hr)) h
      omega
theorem all_shL_join : ∀ {ps : List Tr} {u : Nat} {v : Nat}, (∀ p ∈ ps, ∀ v, v < p.chi → ∃ x, (x, v) ∈ p.sh) → u ≤ v → v < u + chiS ps → ∃ x, (x, v) ∈ shL true u ps
  | [], u, v, _, h1, h2 => by rw [chiS] at h2; omega
  | p :: ps, u, v, k, h1, h2 => by
    rw [chiS] at h2
    rw [shL, if_pos rfl]
    by_cases c : v < u + p.chi
    · obtain ⟨x, hx⟩ := k p List.mem_cons_self (v - u) (by omega)
      exact ⟨x, List.mem_append_left _ (List.mem_map.mpr ⟨_, hx, by rw [Prod.mk.injEq]; exact ⟨rfl, by omega⟩⟩)⟩
    · obtain ⟨x, hx⟩ := all_shL_join (ps := ps) (u := u + p.chi) (v := v) (fun r hr => k r (List.mem_cons_of_mem _ hr)) (by omega) (by omega)
      exact ⟨x, List.mem_append_right _ hx⟩
theorem shL_side : ∀ {ps : List Tr} {q : Nat × Nat}, q ∈ shL false 0 ps ↔ ∃ p ∈ ps, q ∈ p.sh
  | [], q => by rw [shL]; simp
  | p :: ps, q => by
    rw [shL, if_neg Bool.false_ne_true, List.mem_append, shL_side (ps := ps)]
    have e : (p.sh.map fun q => (q.1, q.2 + 0)) = p.sh := by
      rw [show (fun q : Nat × Nat => (q.1, q.2 + 0)) = id from rfl, List.map_id]
    rw [e]
    simp
/-- the shades are all from 0 on -/
theorem sh_vals {t : Tr} : (∀ q ∈ t.sh, q.2 < t.chi) ∧ ∀ v, v < t.chi → ∃ x, (x, v) ∈ t.sh := by
  refine Tr.ind (p := fun t => (∀ q ∈ t.sh, q.2 < t.chi) ∧ ∀ v, v < t.chi → ∃ x, (x, v) ∈ t.sh) (fun n => ?_) (fun j ps ih => ?_) t
  · rw [Tr.sh, Tr.chi]
    refine ⟨fun q hq => by rw [List.mem_singleton] at hq; subst hq; exact Nat.one_pos, fun v hv => ⟨n, by rw [show v = 0 by omega]; exact List.mem_cons_self⟩⟩
  · rw [Tr.sh, Tr.chi]
    cases j with
    | true =>
      rw [if_pos rfl]
      refine ⟨fun q hq => ?_, fun v hv => all_shL_join (fun p hp => (ih p hp).2) (Nat.zero_le _) (by omega)⟩
      have := mem_shL_join (fun p hp => (ih p hp).1) (show (q.1, q.2) ∈ _ from hq)
      omega
    | false =>
      rw [if_neg Bool.false_ne_true]
      refine ⟨fun q hq => ?_, fun v hv => ?_⟩
      · obtain ⟨p, hp, h⟩ := shL_side.mp hq
        exact Nat.lt_of_lt_of_le ((ih p hp).1 q h) (chiM_mem hp)
      · obtain ⟨p, hp, h⟩ := chiM_at hv
        obtain ⟨x, hx⟩ := (ih p hp).2 v h
        exact ⟨x, shL_side.mpr ⟨p, hp, hx⟩⟩
theorem sh_in {t : Tr} {x v : Nat} (h : (x, v) ∈ t.sh) : x ∈ t.pts := by
  rw [← sh_keys (t := t)]
  exact List.mem_map.mpr ⟨_, h, rfl⟩
/-- one shade of two points of a join: both of one part -/
theorem shL_same : ∀ {ps : List Tr} {u : Nat} {x y v : Nat}, (ptsL ps).Nodup → (∀ p ∈ ps, ∀ q ∈ p.sh, q.2 < p.chi) → (x, v) ∈ shL true u ps → (y, v) ∈ shL true u ps → ∃ p ∈ ps, ∃ w, (x, w) ∈ p.sh ∧ (y, w) ∈ p.sh
  | p :: ps, u, x, y, v, nd, k, hx, hy => by
    rw [ptsL, List.nodup_append] at nd
    rw [shL, List.mem_append, if_pos rfl] at hx hy
    have lo : ∀ z, (z, v) ∈ (p.sh.map fun q => (q.1, q.2 + u)) → v < u + p.chi ∧ (z, v - u) ∈ p.sh := fun z h => by
      obtain ⟨⟨z', w⟩, hq, e⟩ := List.mem_map.mp h
      rw [Prod.mk.injEq] at e
      obtain ⟨rfl, rfl⟩ := e
      have := k p List.mem_cons_self _ hq
      exact ⟨by omega, by rw [show w + u - u = w by omega]; exact hq⟩
    have hi : ∀ z, (z, v) ∈ shL true (u + p.chi) ps → u + p.chi ≤ v := fun z h => (mem_shL_join (fun r hr => k r (List.mem_cons_of_mem _ hr)) h).1
    rcases hx with hx | hx <;> rcases hy with hy | hy
    · exact ⟨p, List.mem_cons_self, _, (lo x hx).2, (lo y hy).2⟩
    · have := (lo x hx).1
      have := hi y hy
      omega
    · have := (lo y hy).1
      have := hi x hx
      omega
    · obtain ⟨q, hq, w, h1, h2⟩ := shL_same nd.2.1 (fun r hr => k r (List.mem_cons_of_mem _ hr)) hx hy
      exact ⟨q, List.mem_cons_of_mem _ hq, w, h1, h2⟩
/-- two points of one shade are not tied -/
theorem sh_apart {t : Tr} : t.Good → ∀ x y v, (x, v) ∈ t.sh → (y, v) ∈ t.sh → t.rel x y = false := by
  refine Tr.ind (p := fun t => t.Good → ∀ x y v, (x, v) ∈ t.sh → (y, v) ∈ t.sh → t.rel x y = false) (fun n g x y v hx hy => rfl) (fun j ps ih g x y v hx hy => ?_) t
  have g' := g
  rw [Tr.Good] at g'
  have nd := g'.2.2.1
  rw [Tr.sh] at hx hy
  rw [Tr.rel]
  cases j with
  | true =>
    obtain ⟨p, hp, w, h1, h2⟩ := shL_same nd (fun p hp => (sh_vals (t := p)).1) hx hy
    rw [rel_part nd hp (sh_in h1) (sh_in h2)]
    exact ih p hp (good_part g hp).1 x y w h1 h2
  | false =>
    obtain ⟨p, hp, h1⟩ := shL_side.mp hx
    obtain ⟨q, hq, h2⟩ := shL_side.mp hy
    by_cases c : ∃ r ∈ ps, x ∈ r.pts ∧ y ∈ r.pts
    · obtain ⟨r, hr, k1, k2⟩ := c
      have e1 := part_uniq nd hp hr (sh_in h1) k1
      have e2 := part_uniq nd hq hr (sh_in h2) k2
      subst e1
      subst e2
      rw [rel_part nd hp k1 k2]
      exact ih _ hp (good_part g hp).1 x y v h1 h2
    · exact rel_apart (mem_ptsL.mpr ⟨p, hp, sh_in h1⟩) (mem_ptsL.mpr ⟨q, hq, sh_in h2⟩) fun r hr z => c ⟨r, hr, z⟩
/-- the opposite tree ties what the tree does not -/
theorem rel_turn {t : Tr} : t.Good → ∀ x ∈ t.pts, ∀ y ∈ t.pts, x ≠ y → t.turn.rel x y = !t.rel x y := by
  refine Tr.ind (p := fun t => t.Good → ∀ x ∈ t.pts, ∀ y ∈ t.pts, x ≠ y → t.turn.rel x y = !t.rel x y) (fun n g x hx y hy ne => ?_) (fun j ps ih g x hx y hy ne => ?_) t
  · rw [Tr.pts, List.mem_singleton] at hx hy
    exact absurd (hx.trans hy.symm) ne
  · have g' := g
    rw [Tr.Good] at g'
    have nd := g'.2.2.1
    rw [Tr.pts] at hx hy
    have et : (Tr.nd j ps).turn = .nd (!j) (ps.map Tr.turn) := by rw [Tr.turn, turnL_eq]
    have ep : ptsL (ps.map Tr.turn) = ptsL ps := by
      have := turn_pts (t := .nd j ps)
      rw [et, Tr.pts, Tr.pts] at this
      exact this
    rw [et, Tr.rel, Tr.rel]
    by_cases c : ∃ r ∈ ps, x ∈ r.pts ∧ y ∈ r.pts
    · obtain ⟨r, hr, k1, k2⟩ := c
      rw [rel_part nd hr k1 k2, rel_part (p := r.turn) (by rw [ep]; exact nd) (List.mem_map.mpr ⟨r, hr, rfl⟩) (by rw [turn_pts]; exact k1) (by rw [turn_pts]; exact k2)]
      exact ih r hr (good_part g hr).1 x k1 y k2 ne
    · rw [rel_apart hx hy fun r hr z => c ⟨r, hr, z⟩, rel_apart (by rw [ep]; exact hx) (by rw [ep]; exact hy) ?_]
      intro r hr z
      obtain ⟨r', hr', rfl⟩ := List.mem_map.mp hr
      rw [turn_pts] at z
      exact c ⟨r', hr', z⟩
/-! ### promises -/
def S_crowd : TSp := fun t xs H Q => xs = [] ∧ ∀ q H', Same H H' → H q = none → H' q = some (.lst (msk t.cw)) → Q (.ref q) H'
theorem u_crowd {t : Tr} {H : Hp} {Q : VK} (q : ∀ q H', Same H H' → H q = none → H' q = some (.lst (msk t.cw)) → Q (.ref q) H') : S_crowd t [] H Q := ⟨rfl, q⟩
def sp_crowd : Sp := fun vs H Q _ => ∃ (v : V) (t : Tr), vs = [v] ∧ TAt H v t ∧ t.Good ∧ ∀ q H', Same H H' → H q = none → H' q = some (.lst (msk t.cw)) → Q (.ref q) H'
def sp_still : Sp := fun vs H Q _ => ∃ (v : V) (t : Tr), vs = [v] ∧ TAt H v t ∧ t.Good ∧ ∀ q H', Same H H' → H q = none → H' q = some (.lst (msk t.turn.cw)) → Q (.ref q) H'
theorem cw_le {t : Tr} (g : t.Good) : t.cw.length ≤ 30 := by
  have o := cw_ok g
  exact pts_le (n := 30) (o.asc.imp fun h => Nat.ne_of_lt h) fun x hx => Tr.lt g x (o.sub x hx)
theorem cws_len {j : Bool} {ps : List Tr} (g : (Tr.nd j ps).Good) (i : Nat) : ((ps.take i).flatMap Tr.cw).length ≤ 900 := by
  have h := flat_len (f := Tr.cw) (c := 30) (ps := ps.take i) fun p hp => cw_le (good_part g (List.mem_of_mem_take hp)).1
  have := parts_30 g
  rw [List.length_take] at h
  omega
theorem cws_perm {ps : List Tr} {j : Bool} (g : (Tr.nd j ps).Good) : (ps.flatMap Tr.cw).Perm (upto (ps.flatMap Tr.cw)) := by
  have g' := g
  rw [Tr.Good] at g'
  have gp := fun p (hp : p ∈ ps) => (good_part g hp).1
  refine upto_perm ?_ fun y hy => ?_
  · have key : ∀ qs : List Tr, (∀ p ∈ qs, p.Good) → (ptsL qs).Nodup → (qs.flatMap Tr.cw).Nodup ∧ ∀ x ∈ qs.flatMap Tr.cw, x ∈ ptsL qs := by
      intro qs
      induction qs with
      | nil => intro _ _; exact ⟨List.nodup_nil, fun x h => by cases h⟩
      | cons q qs ihq =>
        intro h nd
        rw [ptsL, List.nodup_append] at nd
        obtain ⟨h2, h3⟩ := ihq (fun p hp => h p (List.mem_cons_of_mem _ hp)) nd.2.1
        have o := cw_ok (h q List.mem_cons_self)
        rw [List.flatMap_cons, List.nodup_append, ptsL]
        refine ⟨⟨o.asc.imp fun h => Nat.ne_of_lt h, h2, fun a ha b hb => nd.2.2 _ (o.sub a ha) _ (h3 b hb)⟩, fun x hx => ?_⟩
        rcases List.mem_append.mp hx with hx | hx
        · exact List.mem_append_left _ (o.sub x hx)
        · exact List.mem_append_right _ (h3 x hx)
    exact (key ps gp g'.2.2.1).1
  · obtain ⟨p, hp, hy⟩ := List.mem_flatMap.mp hy
    exact Tr.lt (gp p hp) y ((cw_ok (gp p hp)).sub y hy)
end J

/-! Joinside: max(xs, key=len) of lists. -/
namespace J
open PySem PySem.Spec PyProof.Rows L2
/-- all but the locals' own object stay, and the locals tell the same -/
theorem Inv.keptL {X : Cx} {pins : List (Addr × Obj)} {σ : L2.St} {H : Hp} {s : Shared} {G : Heap} {t : Nat} {m : Str → Option Value} (I : L2.Inv X pins σ H s) (hn : s.heap.Ns X.env.locals m)
    (look : ∀ (i : Nat) (x : Str) (v : V), X.N[i]? = some x → σ[i]? = some (some v) → Vis X.env.scope x → ∃ u, RelV v u ∧ Look X.env s.heap m x u)
    (gn : G.Ns X.env.locals m) (gk : ∀ b o, b ≠ X.env.locals → s.heap.get? b = some o → G.get? b = some o) : L2.Inv X pins σ H { s with heap := G, toks := t } := by
  have early : ∀ b o, X.s_0.heap.get? b = some o → b ≠ X.env.locals := fun b o e z => by
    have h1 := Heap.lt_size e
    have h2 := I.ok.above
    rw [z] at h1
    exact Nat.lt_irrefl _ (Nat.lt_of_lt_of_le h1 h2)
  have away : ∀ b, H b ≠ none → b ≠ X.env.locals := fun b h z => by subst z; exact h I.free
  have cells : ∀ d v, s.heap.IsCell d v → G.IsCell d v := by
    rintro d v ⟨ob, h1, h2⟩
    refine ⟨ob, gk d ob (fun z => ?_) h1, h2⟩
    obtain ⟨o, es, ep, e1, e2, _⟩ := hn
    rw [z] at h1
    rw [h1] at e1
    cases e1
    rw [h2] at e2
    cases e2
  constructor
  · exact I.ok
  · exact I.os
  · exact I.bare
  · constructor
    · exact fun b ob e n1 n2 n3 => gk b ob (early b ob e) (I.base.keep b ob e n1 n2 n3)
    · intro b ob e n1 n2 n3
      obtain ⟨sl, h⟩ := I.base.slot b ob e n1 n2 n3
      exact ⟨sl, gk b _ (early b ob e) h⟩
    · exact fun b ob e n1 n2 => I.base.free b ob e n1 n2
    · intro b ob e n1
      obtain ⟨ob', h⟩ := I.base.there b ob e n1
      exact ⟨ob', gk b ob' (early b ob e) h⟩
    · exact I.base.tups
    · exact I.base.frzs
    · exact I.base.tbls
  · refine ⟨m, gn, fun i x v q1 q2 q3 => ?_⟩
    obtain ⟨u, r1, r2⟩ := look i x v q1 q2 q3
    refine ⟨u, r1, ?_⟩
    rcases r2 with r2 | ⟨k1, d, k2, k3⟩
    · exact .inl r2
    · exact .inr ⟨k1, d, k2, cells d _ k3⟩
  · intro x d e
    obtain ⟨v, h⟩ := I.cell x d e
    exact ⟨v, cells d v h⟩
  · exact I.free
  · exact I.freeC
  · intro p hp
    obtain ⟨h1, h2, h3, h4, h5⟩ := I.pin p hp
    exact ⟨gk _ _ h3 h1, h2, h3, h4, h5⟩
  · intro b u e
    have hb : b ≠ X.env.locals := away b (by rw [e]; simp)
    refine (I.hok b u e).stay (fun d v hd q => gk d v ?_ q) (fun d q => q) fun d ws q => q
    rcases hd with rfl | hd
    · exact hb
    · exact away d (by rw [hd]; simp)
  · exact I.len
def noHeap : Heap := { objs := #[] }
theorem noHeap_get (b : Addr) : noHeap.get? b = none := Heap.get?_none_of_le (Nat.zero_le _)
/-- every object but one -/
def allBut (h : Heap) (L : Addr) : List (Addr × Obj) := (List.range h.objs.size).filterMap fun b => if b = L then none else (h.get? b).map fun o => (b, o)
theorem mem_allBut {h : Heap} {L : Addr} {p : Addr × Obj} : p ∈ allBut h L ↔ p.1 ≠ L ∧ h.get? p.1 = some p.2 := by
  unfold allBut
  rw [List.mem_filterMap]
  constructor
  · rintro ⟨b, _, e⟩
    split at e
    · cases e
    · rename_i ne
      cases g : h.get? b with
      | none => rw [g] at e; cases e
      | some o =>
        rw [g] at e
        cases e
        exact ⟨ne, g⟩
  · rintro ⟨ne, g⟩
    exact ⟨p.1, List.mem_range.mpr (Heap.lt_size g), by rw [if_neg ne, g]; rfl⟩
theorem max_len_run {X : Cx} {pins : List (Addr × Obj)} {σ : L2.St} {H : Hp} {s : Shared} {Q : VK} {l : Addr} {xs : List V} {key : V → Nat} (I : L2.Inv X pins σ H s) (hh : X.A.handled = none) (hs : SqL X.K H l xs) (hne : xs ≠ [])
    (each : ∀ x ∈ xs, ∃ a ys, x = .ref a ∧ H a = some (.lst ys) ∧ key x = ys.length)
    (q : ∀ (i : Nat) (x : V), xs[i]? = some x → (∀ (j : Nat) (y : V), xs[j]? = some y → key y ≤ key x ∧ (j < i → key y < key x)) → Q x H) :
    wpAny (model X.prog X.w) X.A (call (.builtin "max") [.ref l] [(Str.ofString "key", .builtin "len")]) (EP X pins σ Q) X.xe s := by
  obtain ⟨vs, rv, hl, hz⟩ := I.list hs
  have len : vs.length = xs.length := rv.length.symm
  obtain ⟨m, hn, look⟩ := I.loc
  have nL : ∀ {b : Addr}, H b ≠ none → b ≠ X.env.locals := fun h z => by subst z; exact h I.free
  have F : Fr noHeap X.env.locals s.heap m := ⟨hn, (fun b o e => by rw [noHeap_get] at e; cases e), Nat.zero_le _⟩
  have N : News noHeap X.env.locals s.heap (allBut s.heap X.env.locals) := fun p hp => ⟨(mem_allBut.mp hp).2, (mem_allBut.mp hp).1, noHeap_get _⟩
  have kept : ∀ {h : Heap} {own : List (Addr × Obj)}, News noHeap X.env.locals h (allBut s.heap X.env.locals ++ own) → ∀ b o, b ≠ X.env.locals → s.heap.get? b = some o → h.get? b = some o := fun N' b o hb e => (N' (b, o) (List.mem_append_left _ (mem_allBut.mpr ⟨hb, e⟩))).1
  have kept0 : ∀ {h : Heap}, News noHeap X.env.locals h (allBut s.heap X.env.locals) → ∀ b o, b ≠ X.env.locals → s.heap.get? b = some o → h.get? b = some o := fun N' b o hb e => (N' (b, o) (mem_allBut.mpr ⟨hb, e⟩)).1
  have isL : ∀ {h : Heap} {a : Addr} {us : Array Value}, (∀ b o, b ≠ X.env.locals → s.heap.get? b = some o → h.get? b = some o) → s.heap.IsList a us → a ≠ X.env.locals → h.IsList a us := by
    rintro h a us k ⟨o, e, r⟩ na
    exact ⟨o, k a o na e, r⟩
  have llo : l ≠ X.env.locals := fun z => by
    obtain ⟨o, es, ep, e1, e2, _⟩ := hn
    obtain ⟨o', e3, e4⟩ := hl.isList
    rw [z, e1] at e3
    cases e3
    rw [e2] at e4
    simp at e4
  refine PyProof.Rows.kmb_max (h₀ := noHeap) (L := X.env.locals) (m := m) (news := allBut s.heap X.env.locals) (vs := vs) (fun i => ((xs[i]?.map key).getD 0 : Nat)) hh F N (fun h F' N' => isL (kept0 N') hl.isList llo) (by rw [len]; exact List.length_pos_iff.mpr hne) (fun i v hv h tk own F' N' => ?_) fun i v h' tk' hv best F' N' => ?_
  · have hi : i < xs.length := by rw [← len]; exact (List.getElem?_eq_some_iff.mp hv).1
    have hx : xs[i]? = some xs[i] := List.getElem?_eq_getElem hi
    obtain ⟨u, hu, r⟩ := rv.get hx
    rw [hv] at hu
    cases hu
    obtain ⟨a, ys, e, ha, hk⟩ := each _ (List.getElem_mem hi)
    rw [e] at r
    obtain rfl : v = Value.ref a := r
    obtain ⟨us, ru, hul, hz2⟩ := I.list (SqL.of ha)
    have lu : us.length = ys.length := ru.length.symm
    refine PySem.Calls.call_len_list (isL (kept N') hul.isList (nL (by rw [ha]; simp))) ?_ ?_
    · rw [List.size_toArray, lu]
      exact Int.ofNat_lt.mpr (Nat.lt_of_le_of_lt hz2 (by decide))
    · refine ⟨h, tk + 1 + 1, tk + 1, rfl, ?_, F', N'⟩
      rw [hx, List.size_toArray, lu]
      show Value.int _ _ = Value.int ((key xs[i] : Nat) : Int) _
      rw [hk]
  · have hi : i < xs.length := by rw [← len]; exact (List.getElem?_eq_some_iff.mp hv).1
    have hx : xs[i]? = some xs[i] := List.getElem?_eq_getElem hi
    obtain ⟨u, hu, r⟩ := rv.get hx
    rw [hv] at hu
    cases hu
    refine ⟨xs[i], H, Inv.keptL (t := tk') I hn look F'.ns (kept0 N'), r, q i _ hx fun j y hy => ?_⟩
    have hj : j < xs.length := (List.getElem?_eq_some_iff.mp hy).1
    have b := best j (by rw [len]; exact hj)
    rw [hx, hy] at b
    simp only [Option.map_some, Option.getD_some] at b
    exact ⟨by omega, fun h => by have := b.2 h; omega⟩
/-- max(l, key=len): the first of the longest lists -/
def tMaxLen (K : PySem.W.Frag) (te : TE) : TE := fun σ H Q => te σ H fun v H1 => ∃ (l : Addr) (xs : List V) (key : V → Nat), v = .ref l ∧ SqL K H1 l xs ∧ xs ≠ [] ∧ (∀ x ∈ xs, ∃ a ys, x = .ref a ∧ H1 a = some (.lst ys) ∧ key x = ys.length) ∧
  ∀ (i : Nat) (x : V), xs[i]? = some x → (∀ (j : Nat) (y : V), xs[j]? = some y → key y ≤ key x ∧ (j < i → key y < key x)) → Q x H1
theorem pe_maxLen {X : Cx} {K : PySem.W.Frag} {e : Expr} {te : TE} {p p2 kpos pos : Pos} (hc : X.calm = true) (hg : Gl X "max") (hm : X.mg "max" = none) (hg2 : Gl X "len") (hm2 : X.mg "len" = none) (he0 : PE X e te)
    (hs : starEach [e] X.env = [(false, eval e X.env)] := by rfl) (hK : X.K = K := by rfl) : PE X (.Call (.Name "max" p) [e] [⟨some "key", .Name "len" p2, kpos⟩] pos) (tMaxLen K te) := by
  subst hK
  refine ⟨fun pins s σ H Q I h => ?_⟩
  have he : backTo pos (starEach [e] X.env) = (false, eval e X.env) :: backTo pos (starEach [] X.env) := by rw [hs]; rfl
  refine wpAny_Call_Name_kw (ld_blt I hg hm bt_max ?_)
  refine PyProof.Rows.callWith_kw ?_ he (by rw [he]; rfl) (by rfl) (by rfl)
  rw [he]
  refine Calls.spliced_cons (thn (he0.run pins s σ H _ I h) fun u s1 ⟨v, H1, I1, r1, q1⟩ => ?_)
  obtain ⟨l, xs, key, rfl, hl, hne, each, q⟩ := q1
  obtain rfl : u = Value.ref l := r1
  refine Calls.spliced_nil ?_
  show wpAny _ _ (evalAll [do let v ← eval (.Name "len" p2) X.env; standAt pos; pure v]) _ _ s1
  refine wpAny_evalAll_cons (wpAny_bind (ld_blt I1 hg2 hm2 bt_len (wpAny_bind (wpAny_standAt (wpAny_pure ?_)))))
  refine wpAny_evalAll_nil ?_
  show wpAny _ _ (call (.builtin "max") [.ref l] [(Str.ofString "key", .builtin "len")]) _ _ s1
  exact max_len_run I1 (I1.ok.hd hc) hl hne each q
/-- which one the fold tells -/
theorem fold_first : ∀ (xs : List (List Nat)) (x0 : List Nat) (i : Nat) (x : List Nat), (x0 :: xs)[i]? = some x → (∀ (j : Nat) (y : List Nat), (x0 :: xs)[j]? = some y → y.length ≤ x.length ∧ (j < i → y.length < x.length)) → xs.foldl longer x0 = x
  | [], x0, 0, x, h, _ => by simpa using h
  | [], x0, i + 1, x, h, _ => by simp at h
  | y :: xs, x0, i, x, h, k => by
    rw [List.foldl_cons]
    by_cases c : x0.length < y.length
    · have e : longer x0 y = y := by unfold longer; rw [if_pos c]
      rw [e]
      match i, h with
      | 0, h =>
        rw [List.getElem?_cons_zero] at h
        have h := Option.some.inj h
        subst h
        have := (k 1 y rfl).1
        omega
      | i + 1, h =>
        refine fold_first xs y i x (by simpa using h) fun j z hz => ?_
        obtain ⟨a, b⟩ := k (j + 1) z (by simpa using hz)
        exact ⟨a, fun hj => b (by omega)⟩
    · have e : longer x0 y = x0 := by unfold longer; rw [if_neg c]
      rw [e]
      match i, h with
      | 0, h =>
        refine fold_first xs x0 0 x (by simpa using h) fun j z hz => ?_
        match j, hz with
        | 0, hz => exact ⟨(k 0 z (by simpa using hz)).1, fun h => absurd h (Nat.lt_irrefl _)⟩
        | j + 1, hz => exact ⟨(k (j + 2) z (by simpa using hz)).1, fun h => absurd h (Nat.not_lt_zero _)⟩
      | 1, h =>
        have h : y = x := by simpa using h
        subst h
        have := (k 0 x0 rfl).2 Nat.one_pos
        omega
      | i + 2, h =>
        refine fold_first xs x0 (i + 1) x (by simpa using h) fun j z hz => ?_
        match j, hz with
        | 0, hz =>
          obtain ⟨a, b⟩ := k 0 z (by simpa using hz)
          exact ⟨a, fun _ => b (by omega)⟩
        | j + 1, hz =>
          obtain ⟨a, b⟩ := k (j + 2) z (by simpa using hz)
          exact ⟨a, fun hj => b (by omega)⟩
def lenV (H : Hp) : V → Nat
  | .ref a => (match H a with
    | some (.lst zs) => zs.length
    | _ => 0)
  | _ => 0
theorem lenV_at {H : Hp} {u : V} {q : Addr} {ys : List V} (e : u = V.ref q) (h : H q = some (.lst ys)) : lenV H u = ys.length := by
  subst e
  unfold lenV
  simp only [h]
theorem max_crowd {K : PySem.W.Frag} {H0 H : Hp} {Q : VK} {l : Addr} {us : List V} {ps : List Tr} (hl : SqL K H l us) (hF : Paired (fun u p => ∃ q, u = V.ref q ∧ q ≠ l ∧ H0 q = none ∧ H q = some (.lst (msk (Tr.cw p)))) us ps) (hne : ps ≠ [])
    (k : ∀ q, H0 q = none → H q = some (.lst (msk (mxL (cwL ps)))) → Q (.ref q) H) : ∃ (l' : Addr) (xs : List V) (key : V → Nat), V.ref l = .ref l' ∧ SqL K H l' xs ∧ xs ≠ [] ∧ (∀ x ∈ xs, ∃ a ys, x = .ref a ∧ H a = some (.lst ys) ∧ key x = ys.length) ∧
      ∀ (i : Nat) (x : V), xs[i]? = some x → (∀ (j : Nat) (y : V), xs[j]? = some y → key y ≤ key x ∧ (j < i → key y < key x)) → Q x H := by
  refine ⟨l, us, lenV H, rfl, hl, fun e => ?_, fun x hx => ?_, fun i x hx best => ?_⟩
  · subst e
    exact hne (List.length_eq_zero_iff.mp (Paired.length hF).symm)
  · obtain ⟨i, hi⟩ := List.getElem?_of_mem hx
    obtain ⟨p, hp, q, e, _, _, h⟩ := Paired.at' hF hi
    exact ⟨q, _, e, h, lenV_at e h⟩
  · obtain ⟨p, hp, q, rfl, _, h0, h⟩ := Paired.at' hF hx
    have e : mxL (cwL ps) = p.cw := by
      rw [cwL_eq]
      have hm : (ps.map Tr.cw)[i]? = some p.cw := by rw [List.getElem?_map, hp]; rfl
      cases ps with
      | nil => exact absurd rfl hne
      | cons p0 ps =>
        rw [List.map_cons] at hm ⊢
        refine fold_first _ _ i _ hm fun j y hy => ?_
        rw [← List.map_cons, List.getElem?_map] at hy
        cases hpj : (p0 :: ps)[j]? with
        | none => rw [hpj] at hy; cases hy
        | some r =>
          rw [hpj] at hy
          cases hy
          obtain ⟨u, hu, q2, e2, _, _, h2⟩ := Paired.at hF hpj
          have b := best j u hu
          rw [lenV_at e2 h2, lenV_at rfl h, msk_length, msk_length] at b
          exact b
    exact k q h0 (by rw [e]; exact h)
theorem s_maxLen {K : PySem.W.Frag} {te : TE} {σ : Sl} {H : Hp} {Q : VK} (q : te σ H fun v H1 => ∃ (l : Addr) (xs : List V) (key : V → Nat), v = .ref l ∧ SqL K H1 l xs ∧ xs ≠ [] ∧ (∀ x ∈ xs, ∃ a ys, x = .ref a ∧ H1 a = some (.lst ys) ∧ key x = ys.length) ∧
  ∀ (i : Nat) (x : V), xs[i]? = some x → (∀ (j : Nat) (y : V), xs[j]? = some y → key y ≤ key x ∧ (j < i → key y < key x)) → Q x H1) : tMaxLen K te σ H Q := q
end J

/-! Joinside: dicts from points to numbers: update, sorted, max of the values, items, repr. -/
namespace J
open PySem PySem.Spec PyProof.Rows L2
def dI (qs : List (Nat × Nat)) : List (Key × V) := qs.map fun q => (.inl (q.1 : Int), .int (q.2 : Nat))
theorem dI_len (qs : List (Nat × Nat)) : (dI qs).length = qs.length := List.length_map ..
theorem dI_none : ∀ {qs : List (Nat × Nat)} {x : Nat}, x ∉ qs.map (·.1) → valV (dI qs) (.inl (x : Int)) = none
  | [], _, _ => rfl
  | q :: qs, x, h => by
    rw [List.map_cons, List.mem_cons, not_or] at h
    have ne : ¬ ((.inl (q.1 : Int) : Key), V.int (q.2 : Nat)).1 = (.inl (x : Int) : Key) := by
      intro z
      have z' := Sum.inl.inj z
      exact h.1 (by omega)
    show valV ((.inl (q.1 : Int), V.int (q.2 : Nat)) :: dI qs) _ = none
    rw [valV_neg ne]
    exact dI_none h.2
theorem dI_val : ∀ {qs : List (Nat × Nat)} {x v : Nat}, (qs.map (·.1)).Nodup → (x, v) ∈ qs → valV (dI qs) (.inl (x : Int)) = some (.int (v : Nat))
  | q :: qs, x, v, nd, h => by
    rw [List.map_cons, List.nodup_cons] at nd
    rcases List.mem_cons.mp h with e | h
    · subst e
      exact valV_pos rfl
    · have ne : ¬ ((.inl (q.1 : Int) : Key), V.int (q.2 : Nat)).1 = (.inl (x : Int) : Key) := by
        intro z
        have z' := Sum.inl.inj z
        have e : q.1 = x := by omega
        exact nd.1 (by rw [e]; exact List.mem_map.mpr ⟨_, h, rfl⟩)
      show valV ((.inl (q.1 : Int), V.int (q.2 : Nat)) :: dI qs) _ = _
      rw [valV_neg ne]
      exact dI_val nd.2 h
theorem dI_app (as bs : List (Nat × Nat)) : dI (as ++ bs) = dI as ++ dI bs := List.map_append
theorem dI_put {qs : List (Nat × Nat)} {x v : Nat} (h : x ∉ qs.map (·.1)) : putK (dI qs) (.inl (x : Int)) (.int (v : Nat)) = dI (qs ++ [(x, v)]) := by
  rw [putK_new _ (dI_none h), dI_app]
  rfl
theorem dI_merge : ∀ (bs as : List (Nat × Nat)), ((as ++ bs).map (·.1)).Nodup → mergeK (dI as) (dI bs) = dI (as ++ bs)
  | [], as, _ => by rw [List.append_nil]; rfl
  | b :: bs, as, nd => by
    have hb : b.1 ∉ as.map (·.1) := by
      rw [List.map_append, List.map_cons, List.nodup_append] at nd
      intro h
      exact nd.2.2 _ h _ List.mem_cons_self rfl
    show mergeK (putK (dI as) (.inl (b.1 : Int)) (.int (b.2 : Nat))) (dI bs) = _
    rw [dI_put hb, dI_merge bs (as ++ [b]) (by rw [List.append_assoc]; exact nd), List.append_assoc]
    rfl
theorem dI_keys (qs : List (Nat × Nat)) : (dI qs).map (·.1) = (qs.map (·.1)).map fun (i : Nat) => (.inl (i : Int) : Key) := by
  unfold dI
  rw [List.map_map, List.map_map]
  rfl
theorem dI_vals (qs : List (Nat × Nat)) : (dI qs).map (·.2) = msk (qs.map (·.2)) := by
  unfold dI msk
  rw [List.map_map, List.map_map]
  rfl
/-! ### update -/
def rDUpd : V → List V → Hp → VK → Prop := fun x xs H Q => ∃ (a b : Addr) (kvs more : List (Key × V)), x = .ref a ∧ xs = [.ref b] ∧ a ≠ b ∧ H a = some (.dK kvs) ∧ H b = some (.dK more) ∧ kvs.length + more.length ≤ sizeLine ∧ Q .non (upd H a (.dK (mergeK kvs more)))
theorem mt_dupd {X : Cx} : MtR X "dict.update" rDUpd := by
  intro pins s σ H x xs v us Q I rx rxs h
  obtain ⟨a, b, kvs, more, rfl, rfl, ne, ha, hb, hz, q⟩ := h
  cases rx
  obtain ⟨u1, rfl, r1⟩ := vals1 rxs
  cases r1
  obtain ⟨z, hd, vs, rel, dd⟩ := dk_of I.hok ha
  obtain ⟨z2, hd2, ws, rel2, dd2⟩ := dk_of I.hok hb
  refine call_meetsIn PySem.F.slot_dict_update dd.typeIs PySem.F.entry_dict_update (PySem.F.args_dict_update_2 _ _) (meets_dict_update (mixKind X.prog X.w) a b ne hd2)
    ⟨vs, ws, dd, dd2, (by rw [← rel.length, ← rel2.length]; exact hz), fun h' dd' _ hs => ?_⟩
  have there : ∃ q, h'.get? a = some q := let ⟨q, _, _, hq, _⟩ := dd'; ⟨q, hq⟩
  exact ⟨.non, _, d_write (t' := s.toks) I (by rw [ha]; exact True.intro) hs there (dk_new (Nat.le_trans (length_mergeK more kvs) hz) hd (rel2.merge rel) dd'), rfl, q⟩
theorem s_dupd {H : Hp} {Q : VK} {a b : Addr} {as bs : List (Nat × Nat)} (ne : a ≠ b) (ha : H a = some (.dK (dI as))) (hb : H b = some (.dK (dI bs))) (nd : ((as ++ bs).map (·.1)).Nodup) (hz : as.length + bs.length ≤ 1000) (q : Q .non (upd H a (.dK (dI (as ++ bs))))) : rDUpd (.ref a) [.ref b] H Q :=
  ⟨a, b, _, _, rfl, rfl, ne, ha, hb, by rw [dI_len, dI_len]; exact Nat.le_trans hz (by decide), by rw [dI_merge bs as nd]; exact q⟩
/-! ### the entries, raw -/
theorem dk_raw {X : Cx} {pins : List (Addr × Obj)} {σ : L2.St} {H : Hp} {s : Shared} {a : Addr} {kvs : List (Key × V)} (I : Inv X pins σ H s) (ha : H a = some (.dK kvs)) :
    (a == sysModules) = false ∧ kvs.length ≤ sizeLine ∧ ∃ (o : Obj) (es : Array DictEntry) (ep : Nat), s.heap.get? a = some o ∧ o.ExactDict ∧ o.data = .dict es ep ∧ es.size = kvs.length ∧
      ∀ (i : Nat) (hi : i < es.size) (k : Key) (v : V), kvs[i]? = some (k, v) → RelV (kV k) es[i].key ∧ RelV v es[i].val := by
  obtain ⟨z, hd, vs, rel, dd⟩ := dk_of I.hok ha
  obtain ⟨es, ep, ⟨o, ho, hx, hdt⟩, hsz, hes⟩ := dd.raw
  refine ⟨hd, z, o, es, ep, ho, hx, hdt, by rw [hsz, rel.length], fun i hi k v e => ?_⟩
  obtain ⟨u, hu, ru⟩ := kv_get rel e
  obtain ⟨h1, h2⟩ := hes i hi k u hu
  exact ⟨relV_key (show keyIs k es[i].key = true from h1), by rw [h2]; exact ru⟩
/-! ### sorted(d) -/
def rSortDK : List V → Hp → VK → Prop := fun xs H Q => ∃ (a : Addr) (kvs : List (Key × V)) (is ts : List Nat), xs = [.ref a] ∧ H a = some (.dK kvs) ∧ kvs.map (·.1) = is.map (fun (i : Nat) => (.inl (i : Int) : Key)) ∧ is.Perm ts ∧ ts.Pairwise (· ≤ ·) ∧
  ∀ p, H p = none → Q (.ref p) (upd H p (.lst (msk ts)))
theorem ints_at {us : List Value} {is : List Nat} (hl : us.length = is.length) (h : ∀ (i : Nat) (u : Value), us[i]? = some u → ∃ t, u = .int ((is.getD i 0 : Nat) : Int) t) : IntsAre us (is.map fun (i : Nat) => (i : Int)) := by
  induction is generalizing us with
  | nil =>
    have : us = [] := List.length_eq_zero_iff.mp hl
    subst this
    exact .nil
  | cons j is ih =>
    match us, hl with
    | u :: us, hl =>
      obtain ⟨t, e⟩ := h 0 u rfl
      subst e
      exact .cons _ t (ih (by simpa using hl) fun i u hu => by simpa using h (i + 1) u (by simpa using hu))
theorem int_perm_eq {l m : List Int} (p : l.Perm m) (h1 : l.Pairwise (· ≤ ·)) (h2 : m.Pairwise (· ≤ ·)) : l = m := List.Perm.eq_of_pairwise (le := (· ≤ ·)) (fun a b _ _ x y => Int.le_antisymm x y) h1 h2 p
theorem kSortDK {X : Cx} (hcalm : X.calm = true) : CallR X (.builtin "sorted") rSortDK := by
  intro pins s σ H xs us Q I r q
  obtain ⟨a, kvs, is, ts, rfl, ha, hks, pm, od, q⟩ := q
  obtain ⟨u, rfl, rx⟩ := vals1 r
  cases rx
  obtain ⟨lo, z, o, es, ep, ho, hx, hdt, hsz, hes⟩ := dk_raw I ha
  have lis : is.length = kvs.length := by
    have := congrArg List.length hks
    rw [List.length_map, List.length_map] at this
    exact this.symm
  refine Calls.call_function_entry kind_sorted plain_sorted entry_sorted (args_sorted1 _) ?_
  unfold Builtin.«sorted»
  refine wpAny_bind (m := checkCount "sorted" 1 1 _) (wpAny_pure ?_)
  refine wpAny_bind (PySem.W.kdu_collect (A := X.A.in1) (raw_src lo hx hdt) (I.ok.hd hcalm) ho (by rw [hsz]; exact z) fun h' tk acc hk hacc => ?_)
  have acc_len : acc.toList.length = is.length := by rw [Array.length_toList, hacc.1, hsz, lis]
  have hi : IntsAre acc.toList (is.map fun (i : Nat) => (i : Int)) := by
    refine ints_at acc_len fun i u hu => ?_
    have hlt : i < is.length := by rw [← acc_len]; exact (List.getElem?_eq_some_iff.mp hu).1
    obtain ⟨en, e1, e2⟩ := hacc.2 i u (by rw [← Array.getElem?_toList]; exact hu)
    obtain ⟨hle, e3⟩ := Array.getElem?_eq_some_iff.mp e1
    obtain ⟨⟨k0, v0⟩, hkv⟩ : ∃ p, kvs[i]? = some p := ⟨_, List.getElem?_eq_getElem (by omega)⟩
    obtain ⟨r1, _⟩ := hes i hle _ _ hkv
    have ek : k0 = (.inl ((is.getD i 0 : Nat) : Int) : Key) := by
      have e4 : (kvs.map (·.1))[i]? = some k0 := by rw [List.getElem?_map, hkv]; rfl
      rw [hks, List.getElem?_map, getD_at hlt] at e4
      exact (Option.some.inj e4).symm
    rw [ek] at r1
    obtain ⟨t, e5⟩ := r1
    exact ⟨t, by rw [← e2, ← e3]; exact e5⟩
  have len_is : acc.toList.length ≤ sizeLine := by rw [acc_len, lis]; exact z
  have I1 : Inv X pins σ H { s with heap := h', toks := tk } := I.kept hk
  refine wpAny_bind (wpAny_newList ?_ len_is)
  have hoL : (h'.push (seqObj "list" acc.toList.toArray 0)).get? h'.objs.size = some (seqObj "list" acc.toList.toArray 0) := Heap.get?_push_size _ rfl
  show wpAny _ _ _ _ _ { s with heap := h'.push (seqObj "list" acc.toList.toArray 0), toks := tk }
  refine wpAny_bind (wpAny_holding (wpAny_call_entry slot_list_sort ⟨_, hoL, rfl⟩ entry_list_sort
    (SrtO.list_sort_ord (s := { s with heap := h'.push (seqObj "list" acc.toList.toArray 0), toks := tk }) SrtO.swo_int hoL len_is (fun h2 => SrtO.ints_sortable hi h2) fun out srt stb => ⟨_, rfl, ?_⟩) (args_list_sort _)))
  obtain ⟨e', he'⟩ := sortedHeap_at (vs := acc.toList) (out := out.toArray) hoL
  obtain ⟨k1, k2, k3⟩ := SrtO.ints_out hi srt stb
  have e1 : out.map SrtO.iv = ts.map fun (i : Nat) => (i : Int) := int_perm_eq (k2.trans (pm.map _)) k3 (List.pairwise_map.mpr (od.imp fun h => by omega))
  have hf : H h'.objs.size = none := I1.hok.fresh (Nat.le_refl _)
  have em : (out.map SrtO.iv).map V.int = msk ts := by rw [e1, msk_ints]
  refine wpAny_pure ⟨_, rfl, .ref h'.objs.size, upd H h'.objs.size (.lst (msk ts)), I1.laid (t' := tk) (fun b u e => ?_) (Nat.le_refl _) ⟨?_, out, e', by rw [← em]; exact vals_of_ints k1, he'⟩, rfl, q _ hf⟩
  · have hb : b < h'.objs.size := Heap.lt_size e
    rw [sortedHeap_old (Nat.ne_of_lt hb) (by rw [size_push']; exact Nat.lt_succ_of_lt hb)]
    exact Heap.get?_push_of_some _ e
  · rw [msk_length, ← pm.length_eq, lis]
    exact z
theorem s_sortDI {H : Hp} {Q : VK} {a : Addr} {qs : List (Nat × Nat)} {ts : List Nat} (ha : H a = some (.dK (dI qs))) (pm : (qs.map (·.1)).Perm ts) (od : ts.Pairwise (· ≤ ·)) (q : ∀ p, H p = none → Q (.ref p) (upd H p (.lst (msk ts)))) : rSortDK [.ref a] H Q :=
  ⟨a, _, _, ts, rfl, ha, dI_keys qs, pm, od, q⟩
/-! ### max(d.values()) -/
theorem best_is (f : Nat → Int) : ∀ k, argBest (fun i j => decide (f j < f i)) k ≤ k ∧ ∀ j, j ≤ k → f j ≤ f (argBest (fun i j => decide (f j < f i)) k)
  | 0 => ⟨Nat.le_refl _, fun j hj => by rw [show j = 0 by omega]; exact Int.le_refl _⟩
  | k + 1 => by
    obtain ⟨h1, h2⟩ := best_is f k
    by_cases c : f (argBest (fun i j => decide (f j < f i)) k) < f (k + 1)
    · have e : argBest (fun i j => decide (f j < f i)) (k + 1) = k + 1 := if_pos (decide_eq_true c)
      rw [e]
      refine ⟨Nat.le_refl _, fun j hj => ?_⟩
      by_cases ej : j = k + 1
      · rw [ej]; exact Int.le_refl _
      · have := h2 j (by omega)
        omega
    · have e : argBest (fun i j => decide (f j < f i)) (k + 1) = argBest (fun i j => decide (f j < f i)) k := if_neg (by rw [decide_eq_true_eq]; exact c)
      rw [e]
      refine ⟨by omega, fun j hj => ?_⟩
      by_cases ej : j = k + 1
      · rw [ej]; omega
      · exact h2 j (by omega)
def tMaxVals (te : TE) : TE := fun σ H Q => te σ H fun x H1 => ∃ (d : Addr) (kvs : List (Key × V)) (f : List Nat), x = .ref d ∧ H1 d = some (.dK kvs) ∧ kvs.map (·.2) = msk f ∧ f ≠ [] ∧ ∀ m ∈ f, (∀ y ∈ f, y ≤ m) → Q (.int (m : Nat)) H1
theorem pe_maxVals {X : Cx} {e : Expr} {te : TE} {p apos cpos pos : Pos} (hc : X.calm = true) (hg : Gl X "max") (hm : X.mg "max" = none) (hu : X.A.units + 65 < cLine) (he : PE X e te)
    (hbase : attributeBase e "values" X.env (eval e X.env) = eval e X.env := by rfl) (hline : (apos.endLine == cpos.line) = true := by rfl) :
    PE X (.Call (.Name "max" p) [.Call (.Attribute e "values" apos) [] [] cpos] [] pos) (tMaxVals te) := by
  refine ⟨fun pins s σ H Q I h => Call_ (ld_blt I hg hm bt_max ?_)⟩
  refine callWith_builtin1 (args_cons ?_ rfl) rfl rfl
  refine wpAny_Call_method (T := "dict") (id := "dict.values") hbase rfl hline F.plainAttrs_dict F.slot_dict_values F.type_dict_values (thn (he.run pins s σ H _ I h) fun u s1 ⟨x, H1, I1, rx, d, kvs, f, ex, hd, hf, hne, q⟩ => ?_)
  subst ex
  obtain rfl : u = Value.ref d := rx
  obtain ⟨hz, hs0, vs, kv, hdo⟩ := dk_of I1.hok hd
  obtain ⟨_, _, o, es, ep, ho, hx, hdt, hsz, hes⟩ := dk_raw I1 hd
  refine ⟨hdo.typeIs, hdo.mapOf.noDict, ?_⟩
  show wpAny _ _ (callWith cpos (.builtin "dict.values") [.ref d] [] []) _ X.xe s1
  refine method_meetsIn F.slot_dict_values F.entry_dict_values rfl (PySem.evalArgs_none ⟨rfl, hdo.typeIs, F.args_dict_values_1 _, _, meets_dict_values (mixKind X.prog X.w) d hs0, ⟨vs, hdo⟩, ?_⟩)
  refine args_nil ?_
  have lf : f.length = es.size := by
    have := congrArg List.length hf
    rw [List.length_map, msk_length] at this
    omega
  have at_i : ∀ (i : Nat) (hi : i < es.size), ∃ t, es[i].val = .int ((f.getD i 0 : Nat) : Int) t := fun i hi => by
    obtain ⟨⟨k0, v0⟩, hkv⟩ : ∃ p, kvs[i]? = some p := ⟨_, List.getElem?_eq_getElem (by omega)⟩
    have e1 : (kvs.map (·.2))[i]? = some v0 := by rw [List.getElem?_map, hkv]; rfl
    rw [hf, msk_get (by omega)] at e1
    obtain ⟨_, r2⟩ := hes i hi _ _ hkv
    rw [← Option.some.inj e1] at r2
    exact r2
  have hr1 : (s1.heap.push { cls := .type "dict_values", data := .fields #[.ref d] }).DictRaw d es ep := ⟨o, Heap.get?_push_of_some _ ho, hx, hdt⟩
  have I2 : Inv X pins σ H1 { s1 with heap := s1.heap.push { cls := .type "dict_values", data := .fields #[.ref d] } } := I1.kept (t' := s1.toks) fun b ob q => Heap.get?_push_of_some _ q
  have dne : d < s1.heap.objs.size := Heap.lt_size ho
  generalize hG : s1.heap.push { cls := .type "dict_values", data := .fields #[.ref d] } = G at hr1 I2 ⊢
  have dG : d < G.objs.size := by rw [← hG, Heap.size_push]; exact Nat.lt_succ_of_lt dne
  have hv : G.IsValuesView s1.heap.objs.size d := ⟨_, by rw [← hG]; exact Heap.get?_push_size _ rfl, rfl, rfl⟩
  have W := (Walks.rawValues (prog := X.prog) (w := X.w) (A := X.A.in1) (I1.ok.hd hc) G.objs.size d (Nat.ne_of_lt dG) es ep).toS
  refine call_max_walkH (wpAny_pyIter_values_raw hv hr1 ?_)
  refine ⟨_, _, _, _, es.size, _, _, G, (fun i j => decide (((f.getD j 0 : Nat) : Int) < ((f.getD i 0 : Nat) : Int))), rfl, W, ⟨⟨_, Heap.get?_push_size _ rfl, rfl, rfl⟩, ⟨o, Heap.get?_push_of_some _ (by rw [← hG]; exact Heap.get?_push_of_some _ ho), hx, hdt⟩⟩, fun b hb => ?_, ?_, fun b ob e hb => ?_, fun b ob e => Heap.get?_push_of_some _ e, ?_, fun v s' hP m => ?_⟩
  · show b < (Heap.push _ _).objs.size
    rw [Heap.size_push]
    rcases List.mem_cons.mp hb with rfl | hb
    · exact Nat.lt_succ_self _
    · rw [List.mem_singleton] at hb
      subst hb
      exact Nat.lt_succ_of_lt dG
  · rw [← lf]
    exact List.length_pos_iff.mpr hne
  · rw [List.mem_singleton] at hb
    subst hb
    exact absurd (Heap.lt_size e) (Nat.lt_irrefl _)
  · intro i j vi vj s2 Q2 E2 _ hi hj hq
    obtain ⟨li, rfl⟩ := hi
    obtain ⟨lj, rfl⟩ := hj
    obtain ⟨t1, e1⟩ := at_i i li
    obtain ⟨t2, e2⟩ := at_i j lj
    rw [e1, e2]
    exact P.gt_int hq
  · obtain ⟨hi, e⟩ := hP
    obtain ⟨t, e2⟩ := at_i _ hi
    obtain ⟨b1, b2⟩ := best_is (fun i => ((f.getD i 0 : Nat) : Int)) (es.size - 1)
    obtain ⟨h', tk, rfl, hk'⟩ := PySem.W.moved_old (s := { s1 with heap := G }) rfl rfl m
    refine ⟨.int ((f.getD (argBest (fun i j => decide (((f.getD j 0 : Nat) : Int) < ((f.getD i 0 : Nat) : Int))) (es.size - 1)) 0 : Nat) : Int), H1, I2.kept (t' := tk) hk', by rw [e]; exact ⟨t, e2⟩, q _ ?_ fun y hy => ?_⟩
    · rw [List.getD_eq_getElem?_getD, List.getElem?_eq_getElem (by omega)]
      exact List.getElem_mem _
    · obtain ⟨j, hj⟩ := List.getElem?_of_mem hy
      have hjl : j < f.length := (List.getElem?_eq_some_iff.mp hj).1
      have := b2 j (by omega)
      simp only [List.getD_eq_getElem?_getD] at this ⊢
      rw [hj] at this
      simp only [Option.getD_some] at this
      omega
theorem s_maxVals {te : TE} {σ : Sl} {H : Hp} {Q : VK} (q : te σ H fun x H1 => ∃ (d : Addr) (kvs : List (Key × V)) (f : List Nat), x = .ref d ∧ H1 d = some (.dK kvs) ∧ kvs.map (·.2) = msk f ∧ f ≠ [] ∧ ∀ m ∈ f, (∀ y ∈ f, y ≤ m) → Q (.int (m : Nat)) H1) : tMaxVals te σ H Q := q
end J

/-! Joinside: repr of a list in which a dict may stand; sorted(set(xs)). -/
namespace J
open PySem PySem.Spec PyProof.Rows L2
def dictD (qs : List (Nat × Nat)) : PyData := .dict (qs.map fun q => (.int (q.1 : Int), .int (q.2 : Nat)))
/-- data without a dict, or a dict of points -/
inductive Dq (K : PySem.W.Frag) (H : Hp) : V → PyData → Prop
  | dp {v : V} {d : PyData} (h : Dp K H v d) : Dq K H v d
  | dk {a : Addr} {qs : List (Nat × Nat)} (h : H a = some (.dK (dI qs))) : Dq K H (.ref a) (dictD qs)
inductive DqAll (K : PySem.W.Frag) (H : Hp) : List V → List PyData → Prop
  | nil : DqAll K H [] []
  | cons {v : V} {vs : List V} {d : PyData} {ds : List PyData} : Dq K H v d → DqAll K H vs ds → DqAll K H (v :: vs) (d :: ds)
section
variable {X : Cx} {pins : List (Addr × Obj)} {σ : L2.St} {H : Hp} {s : Shared}
theorem ints_reads {h : Heap} : ∀ {us : List Value} {ns : List Nat}, us.length = ns.length → (∀ (i : Nat) (hi : i < us.length) (hn : i < ns.length), ∃ t, us[i] = .int ((ns[i] : Nat) : Int) t) → ReadsAll h us (ns.map fun (n : Nat) => PyData.int (n : Int)) []
  | [], [], _, _ => .nil
  | u :: us, n :: ns, hl, k => by
    obtain ⟨t, e⟩ := k 0 (by simp) (by simp)
    simp only [List.getElem_cons_zero] at e
    subst e
    exact .cons (as := []) (bs := []) (.int _ t) (ints_reads (by simpa using hl) fun i hi hn => by
      obtain ⟨t, e⟩ := k (i + 1) (by simpa using hi) (by simpa using hn)
      exact ⟨t, by simpa using e⟩)
theorem dict_reads (I : Inv X pins σ H s) {a : Addr} {qs : List (Nat × Nat)} (h : H a = some (.dK (dI qs))) : Reads s.heap (.ref a) (dictD qs) [a] ∧ a ≠ sysModules := by
  obtain ⟨lo, _, o, es, ep, ho, hx, hdt, hsz, hes⟩ := dk_raw I h
  have lq : es.toList.length = qs.length := by rw [Array.length_toList, hsz, dI_len]
  have at_i : ∀ (i : Nat) (hi : i < es.size) (hq : i < qs.length), RelV (kV (.inl (qs[i].1 : Int))) es[i].key ∧ RelV (V.int (qs[i].2 : Nat)) es[i].val := fun i hi hq => by
    refine hes i hi _ _ ?_
    unfold dI
    rw [List.getElem?_map, List.getElem?_eq_getElem hq]
    rfl
  have r1 : ReadsAll s.heap (es.toList.map (·.key)) ((qs.map fun q => ((.int (q.1 : Int), .int (q.2 : Nat)) : PyData × PyData)).map (·.1)) [] := by
    have e : (qs.map fun q => ((.int (q.1 : Int), .int (q.2 : Nat)) : PyData × PyData)).map (·.1) = (qs.map (·.1)).map fun (n : Nat) => PyData.int (n : Int) := by
      rw [List.map_map, List.map_map]
      rfl
    rw [e]
    refine ints_reads (by rw [List.length_map, List.length_map, lq]) fun i hi hn => ?_
    rw [List.length_map] at hi hn
    obtain ⟨t, e⟩ := (at_i i (by rwa [Array.length_toList] at hi) hn).1
    exact ⟨t, by simpa using e⟩
  have r2 : ReadsAll s.heap (es.toList.map (·.val)) ((qs.map fun q => ((.int (q.1 : Int), .int (q.2 : Nat)) : PyData × PyData)).map (·.2)) [] := by
    have e : (qs.map fun q => ((.int (q.1 : Int), .int (q.2 : Nat)) : PyData × PyData)).map (·.2) = (qs.map (·.2)).map fun (n : Nat) => PyData.int (n : Int) := by
      rw [List.map_map, List.map_map]
      rfl
    rw [e]
    refine ints_reads (by rw [List.length_map, List.length_map, lq]) fun i hi hn => ?_
    rw [List.length_map] at hi hn
    obtain ⟨t, e⟩ := (at_i i (by rwa [Array.length_toList] at hi) hn).2
    exact ⟨t, by simpa using e⟩
  exact ⟨.dict (as := []) (bs := []) ho hx.1 hdt r1 r2, beq_eq_false_iff_ne.mp lo⟩
theorem Dq.reads (I : Inv X pins σ H s) {v : V} {u : Value} {d : PyData} (h : Dq X.K H v d) (r : RelV v u) : ∃ as, Reads s.heap u d as ∧ (d.hasDict = true → sysModules ∉ as) := by
  cases h with
  | dp h =>
    obtain ⟨as, rd⟩ := Dp.reads I d v u h r
    exact ⟨as, rd, fun z => by rw [noDict d _ h] at z; cases z⟩
  | @dk a qs h =>
    obtain rfl : u = Value.ref a := r
    obtain ⟨rd, ne⟩ := dict_reads I h
    exact ⟨_, rd, fun _ z => ne (List.mem_singleton.mp z).symm⟩
theorem DqAll.reads (I : Inv X pins σ H s) : ∀ {vs : List V} {us : List Value} {ds : List PyData}, DqAll X.K H vs ds → Vals vs us → ∃ as, ReadsAll s.heap us ds as
  | _, _, _, .nil, r => by
    cases r
    exact ⟨_, .nil⟩
  | _, _, _, .cons h t, r => by
    cases r with
    | cons r1 r2 =>
      obtain ⟨as, q1, _⟩ := h.reads I r1
      obtain ⟨bs, q2⟩ := DqAll.reads I t r2
      exact ⟨_, .cons q1 q2⟩
theorem DqAll.shows (I : Inv X pins σ H s) : ∀ {vs : List V} {us : List Value} {ds : List PyData}, DqAll X.K H vs ds → Vals vs us → PyData.showableAll ds = true → (∀ t ∈ PyData.shownAll ds, t.length ≤ sizeLine) →
    ∃ bs, ReadAtMost s.heap (PyData.depthAll ds) bs ∧ ReprAllK X.prog X.w bs s.heap (PyData.depthAll ds) us (PyData.shownAll ds)
  | _, _, _, .nil, r, _, _ => by
    cases r
    exact ⟨[], (fun _ h => nomatch h), by simp only [PyData.shownAll]; exact .nil⟩
  | _, _, _, @DqAll.cons _ _ v vs d ds h t, r, hs, hz => by
    cases r with
    | cons r1 r2 =>
      have hs' : d.showable = true ∧ PyData.showableAll ds = true := by simpa [PyData.showableAll] using hs
      rw [PyData.shownAll] at hz
      obtain ⟨as, rd, sm⟩ := h.reads I r1
      obtain ⟨b1, hb1, k1⟩ := ReprK.of_reads (prog := X.prog) (w := X.w) rd hs'.1 sm (hz _ List.mem_cons_self)
      obtain ⟨b2, hb2, k2⟩ := DqAll.shows I t r2 hs'.2 fun x hx => hz x (List.mem_cons_of_mem _ hx)
      refine ⟨b1 ++ b2, fun b hb => ?_, ?_⟩
      · rw [PyData.depthAll]
        rcases List.mem_append.mp hb with hb | hb
        · obtain ⟨d', as', r', hd'⟩ := hb1 b hb
          exact ⟨d', as', r', Nat.le_trans hd' (Nat.le_max_left _ _)⟩
        · obtain ⟨d', as', r', hd'⟩ := hb2 b hb
          exact ⟨d', as', r', Nat.le_trans hd' (Nat.le_max_right _ _)⟩
      · rw [PyData.depthAll, PyData.shownAll]
        exact .cons ((k1.more fun b hb => List.mem_append_left _ hb).level_le (Nat.le_max_left _ _)) (k2.more_le (fun b hb => List.mem_append_right _ hb) (Nat.le_max_right _ _))
end
/-- repr(xs), xs a list that is not empty -/
def rReprQ (K : PySem.W.Frag) : List V → Hp → VK → Prop := fun xs H Q => ∃ (a : Addr) (v : V) (vs : List V) (ds : List PyData), xs = [.ref a] ∧ SqL K H a (v :: vs) ∧ DqAll K H (v :: vs) ds ∧ PyData.showableAll ds = true ∧ PyData.depthAll ds ≤ 90 ∧ (PyData.list ds).shown.length ≤ sizeLine ∧ Q (.str (PyData.list ds).shown) H
theorem call_reprQ {X : Cx} (hG : X.A.guards = some []) (hu : X.A.units + 200 < cLine) : CallR X (.builtin "repr") (rReprQ X.K) := by
  intro pins s σ H xs us Q I r h
  obtain ⟨a, v, vs, ds, rfl, hl, hd, hs, hdp, hz, q⟩ := h
  obtain ⟨u, rfl, ru⟩ := vals1 r
  obtain rfl : u = Value.ref a := ru
  obtain ⟨its, rv, ⟨o, n, ho, hc, hdi, hdat⟩, _⟩ := I.list hl
  obtain ⟨as, rs⟩ := hd.reads I rv
  have hz' : (listText (PyData.shownAll ds)).length ≤ sizeLine := by simpa only [PyData.shown] using hz
  obtain ⟨bs, hb, hk⟩ := hd.shows I rv hs fun t ht => Nat.le_trans (listText_mem_le ht) hz'
  have hna : a ∉ bs := not_mem_of_deeper (.list ho hc hdat rs) (by simp only [PyData.depth]; omega) hb
  cases rv with
  | @cons v2 u2 vs2 us2 r1 r2 =>
    refine call_repr_slot (T := "list") (idr := "list.__repr__") (A := X.A) (s := s) (v := .ref a) (by omega) ⟨o, ho, hc⟩ F.slot_list_repr.toG ?_
    refine call_list_reprK (as := bs) (d := PyData.depthAll ds) ho hc hdat hna (by simpa using hk.length_eq) (fun i y e => hk.item i y (by simpa using e)) hG (fun b _ => Clear.nil b) (by show X.A.units + 1 + _ < cLine; omega) (fun _ _ e => e) (fun h' u tk keep => ?_) hz'
    exact ⟨_, _, rfl, .str (PyData.list ds).shown, H, I.kept (t' := tk) keep, ⟨u, by simp only [PyData.shown]⟩, q⟩
theorem kReprQ {X : Cx} {K : PySem.W.Frag} (hG : X.A.guards = some []) (hu : X.A.units + 200 < cLine) (hK : X.K = K := by rfl) : CallR X (.builtin "repr") (rReprQ K) := by subst hK; exact call_reprQ hG hu
end J

/-! Joinside: set(xs) of a list of ints, kept as a set whose members can be told in order. -/
namespace J
open PySem PySem.Spec PyProof.Rows L2
section
variable {P : Program} {w : World} {A : Around} {E : Value → Shared → Prop} {s : Shared} {l : Addr} {items : Array Value}
/-- an empty set, laid new -/
abbrev newS (w : World) : Obj := { cls := .type "set", dict := none, data := .set #[] 0 (.fresh 0 0 (!w.params.followText "set-order")) }
/-- set.__init__ fills it -/
theorem fill_list (ns : List Int) {R : PySem.Fin → Shared → Prop} (hh : A.handled = none) (hl : s.heap.IsList l items) (hit : IntsAre items.toList ns) (hb : ns.length + 1 < scanBound)
    (h : ∀ (h' : Heap) (tk c : Nat), SetR w h' s.heap.objs.size (fun j => decide (j ∈ ns)) c → c ≤ ns.length → (∀ b o, s.heap.get? b = some o → h'.get? b = some o) → R (.done (.ret .none)) { s with heap := h', toks := tk }) :
    wpAny (model P w) A (Builtin.«set.__init__» ⟨[.ref s.heap.objs.size, .ref l], []⟩) R E { s with heap := s.heap.push (newS w) } := by
  have hisz : items.size = ns.length := by rw [← hit.length, Array.length_toList]
  have hS : (s.heap.push (newS w)).get? s.heap.objs.size = some (newS w) := Heap.get?_push_size _ rfl
  have hlS : l < s.heap.objs.size := by obtain ⟨_, e, _⟩ := hl; exact Heap.lt_size e
  have hl1 := hl.push (newS w)
  obtain ⟨ol, hol, hcl, nl, hdl⟩ := hl1
  obtain ⟨ocls, odict, odata, oslots⟩ := ol
  dsimp only at hcl hdl
  subst hcl
  subst hdl
  have hsls := F.sub_list_set
  have hslf := F.sub_list_frozenset
  have hne : (Value.type "list" == Value.type "dict") = false := by decide
  have hl2 : (s.heap.push (newS w)).IsList l items := ⟨_, hol, rfl, nl, rfl⟩
  unfold Builtin.«set.__init__» noKeywords Builtin.Frozenset.updateFrom
  generalize hPI : pyIter = PI
  wp_walk
  subst hPI
  refine wpAny_pyIter_list hl2 (wpAny_bind (wpAny_runValue ?_))
  have far : l ≠ (s.heap.push (newS w)).objs.size := by rw [Heap.size_push]; exact Nat.ne_of_lt (Nat.lt_succ_of_lt hlS)
  have memb : ∀ (i : Nat) (v : Value), items[i]? = some v → ∃ k t, ns[i]? = some k ∧ v = .int k t := fun i v hv => by
    have hi : i < ns.length := by rw [← hisz]; exact (Array.getElem?_eq_some_iff.mp hv).1
    obtain ⟨t, e⟩ := IntsAre.int_at hit i v (by rw [Array.getElem?_toList]; exact hv)
    exact ⟨ns[i], t, List.getElem?_eq_getElem hi, by rw [e, List.getD_eq_getElem?_getD, List.getElem?_eq_getElem hi] <;> rfl⟩
  refine set_update_ints (Walks.list (by first | exact hh | simp [hh]) _ l far items).toS s.heap.objs.size ?_ ns hisz hb memb (items.size - 0) 0 _ rfl (Nat.zero_le _) ⟨⟨_, Heap.get?_push_size _ rfl, rfl, rfl⟩, hl2.push _⟩ ⟨0, Nat.le_refl 0, setR_new_at (Heap.get?_push_of_some _ hS)⟩ fun s' c' hm hc' hS' => ?_
  · rw [Heap.size_push]
    simp only [List.mem_cons, List.not_mem_nil, or_false, not_or]
    exact ⟨Nat.ne_of_lt (Nat.lt_succ_self _), Nat.ne_of_gt hlS⟩
  · obtain ⟨h', g2, d', tk', os'⟩ := s'
    have eg : g2 = s.gens := hm.gens
    have ed : d' = s.drawn := hm.drawn
    have eo : os' = s.os := hm.os
    subst eg
    subst ed
    subst eo
    refine wpAny_pure (wpAny_pure (h h' tk' c' hS' (by rw [← hisz]; exact hc') fun b o e => ?_))
    have hb0 : b < s.heap.objs.size := Heap.lt_size e
    refine hm.heap b o ?_ (Heap.get?_push_of_some _ (Heap.get?_push_of_some _ e))
    rw [Heap.size_push]
    simp only [List.mem_cons, List.not_mem_nil, or_false, not_or]
    exact ⟨Nat.ne_of_lt hb0, Nat.ne_of_lt (Nat.lt_succ_of_lt hb0)⟩
theorem set_made (ns : List Int) {Q : Value → Shared → Prop} (hh : A.handled = none) (hl : s.heap.IsList l items) (hit : IntsAre items.toList ns) (hb : ns.length + 1 < scanBound)
    (h : ∀ (h' : Heap) (tk c : Nat), SetR w h' s.heap.objs.size (fun j => decide (j ∈ ns)) c → c ≤ ns.length → (∀ b o, s.heap.get? b = some o → h'.get? b = some o) → Q (.ref s.heap.objs.size) { s with heap := h', toks := tk }) :
    wpAny (model P w) A (call (.type "set") [.ref l]) Q E s := by
  obtain ⟨c, tl, hmro⟩ := F.called_set.mro
  have hmade := F.called_set.made
  have hsub := F.called_set.sub
  refine wpAny_call (codeAny_of_tree ?_)
  show wpAny _ _ (callAny (.type "set") _) _ _ _
  refine wpAny_pure ⟨Code.quiet_builtin _ (by decide +kernel), codeAny_builtin F.entry_type_call ?_⟩
  rw [Around.under_plain (weight_type_call_type "set" [.ref l] []) rfl]
  have f1 := F.called_set.notType
  have f2 := F.called_set.canCreate
  have f3 := F.typeCall_set_1 (.ref l)
  repeat (any_goals (first | assumption | wp_step))
  refine codeAny_mono (code_set_led1 (.ref l) (E := E) (Q₁ := fun v s1 => v = .ref s.heap.objs.size ∧ s1 = { s with heap := s.heap.push (newS w) }) ⟨rfl, rfl⟩) fun r s1 hr => ?_
  match r, hr with
  | .error e, hr => exact hr
  | .ok .next, hr => exact hr.elim
  | .ok .brk, hr => exact hr.elim
  | .ok .cont, hr => exact hr.elim
  | .ok (.ret v), hr =>
    obtain ⟨rfl, rfl⟩ := hr
    have hS : (s.heap.push (newS w)).get? s.heap.objs.size = some (newS w) := Heap.get?_push_size _ rfl
    have hT : Shared.TypeIs { s with heap := s.heap.push (newS w) } (.ref s.heap.objs.size) "set" := ⟨_, hS, rfl⟩
    have g1 := F.called_set.init.lookup
    have g2 := F.called_set.init.bind (.ref s.heap.objs.size)
    repeat (any_goals (first | assumption | wp_step))
    refine codeAny_mono (codeAny_call_builtin (R := wants (fun r s2 => r = .none ∧ ∃ h' tk c, s2 = { s with heap := h', toks := tk } ∧ SetR w h' s.heap.objs.size (fun j => decide (j ∈ ns)) c ∧ c ≤ ns.length ∧ (∀ b o, s.heap.get? b = some o → h'.get? b = some o)) E)
      F.called_set.init.plain F.entry_set_init (check_set_init_1 hT (fill_list ns (by simp [hh]) hl hit hb fun h' tk c hS' hc' k => ⟨rfl, h', tk, c, rfl, hS', hc', k⟩))) fun r2 s2 hr2 => ?_
    match r2, hr2 with
    | .error e, hr2 => exact hr2
    | .ok .next, hr2 => exact hr2.elim
    | .ok .brk, hr2 => exact hr2.elim
    | .ok .cont, hr2 => exact hr2.elim
    | .ok (.ret v), hr2 =>
      obtain ⟨rfl, h', tk, c', rfl, hS', hc', hk'⟩ := hr2
      repeat (any_goals (first | assumption | wp_step))
      exact h _ _ _ hS' hc' hk'
end
def rSetLA (K : PySem.W.Frag) (w : World) : List V → Hp → VK → Prop := fun xs H Q => ∃ (l : Addr) (ns : List Int), xs = [.ref l] ∧ SqL K H l (ns.map V.int) ∧ ns.length ≤ 1000 ∧ ∀ (p : Addr) (c : Nat), H p = none → c ≤ ns.length → Q (.ref p) (upd H p (SetO w p (fun j => decide (j ∈ ns)) c))
theorem kSetLA {X : Cx} {K : PySem.W.Frag} {w : World} (hc : X.calm = true) (hK : X.K = K := by rfl) (hw : X.w = w := by rfl) : CallR X (.type "set") (rSetLA K w) := by
  subst hK
  subst hw
  intro pins s σ H xs us Q I r h
  obtain ⟨l, ns, rfl, hl, hz, q⟩ := h
  obtain ⟨its, rv, pl, _⟩ := I.list hl
  rw [Vals.ref1 r]
  refine set_made ns (I.ok.hd hc) pl.isList (by simpa using ints_vals rv) (Nat.lt_of_le_of_lt (m := 1001) (by omega) (by decide)) fun h' tk c R hc' k => ?_
  exact ⟨.ref _, upd H s.heap.objs.size (SetO X.w s.heap.objs.size (fun j => decide (j ∈ ns)) c), I.laid (t' := tk) (fun b u e => k b u e) (Nat.le_refl _) (setO_new R), rfl, q _ c (I.hok.fresh (Nat.le_refl _)) hc'⟩
theorem kSortedSet {X : Cx} {w : World} (hc : X.calm = true) (hw : X.w = w := by rfl) : CallR X (.builtin "sorted") (rSortedSet w) := by
  subst hw
  exact cr_sortedSet hc
theorem s_setLA {K : PySem.W.Frag} {w : World} {H : Hp} {Q : VK} {l : Addr} {is : List Nat} (hl : SqL K H l (msk is)) (hz : is.length ≤ 1000) (q : ∀ (p : Addr) (c : Nat), H p = none → c ≤ is.length → Q (.ref p) (upd H p (SetO w p (fun j => decide (j ∈ is.map fun (i : Nat) => (i : Int))) c))) : rSetLA K w [.ref l] H Q :=
  ⟨l, is.map fun (i : Nat) => (i : Int), rfl, by rw [← msk_ints]; exact hl, by rw [List.length_map]; exact hz, fun p c hp hc => q p c hp (by rwa [List.length_map] at hc)⟩
/-- of a set of points: its members in order -/
theorem s_sortSet {w : World} {H : Hp} {Q : VK} {a : Addr} {S : Int → Bool} {n : Nat} {ts : List Nat} (h : H a = some (SetO w a S n)) (hn : n < 64) (od : ts.Pairwise (· < ·)) (me : ∀ k : Int, S k = true ↔ ∃ i ∈ ts, k = (i : Nat)) (q : ∀ p, H p = none → Q (.ref p) (upd H p (.lst (msk ts)))) : rSortedSet w [.ref a] H Q := by
  refine ⟨a, S, n, rfl, h, hn, fun ns p h1 h2 h3 hp => ?_⟩
  have e : ns = ts.map fun (i : Nat) => (i : Int) := by
    refine int_perm_eq ?_ (h1.imp fun h => by omega) (List.pairwise_map.mpr (od.imp fun h => by omega))
    refine perm_of (h1.imp fun h => by omega) ((List.pairwise_map.mpr (od.imp fun h => by omega : ts.Pairwise fun (a b : Nat) => (a : Int) ≠ (b : Int)))) fun x => ?_
    rw [h2, me, List.mem_map]
    exact ⟨fun ⟨i, hi, e⟩ => ⟨i, hi, e.symm⟩, fun ⟨i, hi, e⟩ => ⟨i, hi, e.symm⟩⟩
  rw [e, ← msk_ints]
  exact q p hp
end J

/-! Joinside: shades, walked. -/
namespace J
open PySem PySem.Spec L2
def shU (j : Bool) (u : Nat) (as : List Tr) : Nat := if j = true then u + chiS as else u
theorem shL_snoc {j : Bool} : ∀ (as : List Tr) (u : Nat) (p : Tr), shL j u (as ++ [p]) = shL j u as ++ p.sh.map fun q => (q.1, q.2 + shU j u as)
  | [], u, p => by
    rw [List.nil_append, shL, shL, shL, List.append_nil, List.nil_append]
    unfold shU
    rw [chiS, Nat.add_zero]
    split <;> rfl
  | a :: as, u, p => by
    rw [List.cons_append, shL, shL, shL_snoc as, List.append_assoc]
    unfold shU
    cases j with
    | true => simp only [if_true, chiS, Nat.add_assoc]
    | false => simp only [Bool.false_eq_true, if_false]
theorem chiS_snoc : ∀ (as : List Tr) (p : Tr), chiS (as ++ [p]) = chiS as + p.chi
  | [], p => by rw [List.nil_append, chiS, chiS, chiS]; omega
  | a :: as, p => by rw [List.cons_append, chiS, chiS, chiS_snoc as, Nat.add_assoc]
theorem shL_take {j : Bool} {ps : List Tr} {i : Nat} {p : Tr} (h : ps[i]? = some p) : shL j 0 (ps.take (i + 1)) = shL j 0 (ps.take i) ++ p.sh.map fun q => (q.1, q.2 + shU j 0 (ps.take i)) := by
  rw [take_succ_of' h, shL_snoc]
theorem chiS_take {ps : List Tr} {i : Nat} {p : Tr} (h : ps[i]? = some p) : chiS (ps.take (i + 1)) = chiS (ps.take i) + p.chi := by
  rw [take_succ_of' h, chiS_snoc]
theorem shL_nd {j : Bool} {ps : List Tr} (nd : (ptsL ps).Nodup) (i : Nat) : ((shL j 0 (ps.take i)).map (·.1)).Nodup := by
  rw [shL_keys fun p _ => sh_keys]
  rw [ptsL_eq] at nd ⊢
  conv at nd => rw [← List.take_append_drop i ps, List.flatMap_append]
  exact (List.nodup_append.mp nd).1
theorem sh_len {t : Tr} (g : t.Good) : t.sh.length ≤ 30 := by
  have := congrArg List.length (sh_keys (t := t))
  rw [List.length_map] at this
  rw [this]
  exact Tr.size g
theorem shL_len {j : Bool} {ps : List Tr} (g : (Tr.nd j ps).Good) (i : Nat) : (shL j 0 (ps.take i)).length ≤ 30 := by
  have e := congrArg List.length (shL_keys (j := j) (u := 0) (ps := ps.take i) fun p _ => sh_keys)
  rw [List.length_map] at e
  rw [e]
  have sz := Tr.size g
  rw [Tr.pts] at sz
  refine Nat.le_trans ?_ sz
  rw [ptsL_eq, ptsL_eq]
  conv => rhs; rw [← List.take_append_drop i ps, List.flatMap_append, List.length_append]
  exact Nat.le_add_right _ _
def S_shades : TSp := fun t xs H Q => xs = [] ∧ ∀ d H', Same H H' → H d = none → H' d = some (.dK (dI t.sh)) → Q (.ref d) H'
theorem u_shades {t : Tr} {H : Hp} {Q : VK} (q : ∀ d H', Same H H' → H d = none → H' d = some (.dK (dI t.sh)) → Q (.ref d) H') : S_shades t [] H Q := ⟨rfl, q⟩
section
variable {K : PySem.W.Frag} {d : Addr} {o : Obj} {kvs : List (Key × V)} {g : TG} {tb : TS} {En : Ends} {σ : Sl} {H : Hp} {td : TE} {R : It → Hp → Prop}
theorem s_iitems (q : td σ H fun x H1 => ∃ d o kvs, x = .ref d ∧ H1 d = some (.frz o (.dK kvs)) ∧ R (Iti d o kvs) H1) : iItems td σ H R := q
theorem for_items (Pv : Nat → Sl → Hp → Prop) (h0 : Pv 0 σ H) (hd : ∀ i σ H, Pv i σ H → H d = some (.frz o (.dK kvs)))
    (hs : ∀ i k v T σ H, kvs[i]? = some (k, v) → Pv i σ H → H T = none → g (.ref T) σ (upd H T (.tup [kV k, v])) fun σ2 H2 => tb { En with nx := Pv (i + 1), ct := Pv (i + 1), bk := En.nx } σ2 H2) (hn : ∀ σ H, Pv kvs.length σ H → En.nx σ H) :
    ∃ W : Nat → Nat → Sl → Hp → Prop, (∃ m, W 0 m σ H) ∧ ∀ i m σ H, W i m σ H →
      ((Iti d o kvs).stop i H ∧ En.nx σ H) ∨ ((Iti d o kvs).go i H ∧ ∃ N : Sl → Hp → Prop, (∀ σ' H', N σ' H' → ∃ m', m' < m ∧ W (i + 1) m' σ' H') ∧ ∀ x H', (Iti d o kvs).yld i H x H' → g x σ H' fun σ2 H2 => tb { En with nx := N, ct := N, bk := En.nx } σ2 H2) := by
  refine ⟨fun i m σ H => m = kvs.length - i ∧ i ≤ kvs.length ∧ Pv i σ H, ⟨kvs.length, by simp, Nat.zero_le _, h0⟩, ?_⟩
  rintro i m σ H ⟨rfl, hi, p⟩
  by_cases hlt : i < kvs.length
  · refine .inr ⟨⟨hd i σ H p, hlt⟩, Pv (i + 1), fun σ' H' p' => ⟨kvs.length - (i + 1), by omega, rfl, hlt, p'⟩, fun x H' y => ?_⟩
    obtain ⟨T, k, v, e, rfl, hT, rfl⟩ := y
    exact hs i k v T σ H e p hT
  · have e : i = kvs.length := by omega
    subst e
    exact .inl ⟨⟨hd _ σ H p, Nat.le_refl _⟩, hn σ H p⟩
theorem s_lock {t : TS} {u : HO} (h : H d = some u) (mu : Mut (some u)) (q : ∀ od, t ⟨fun σ' H' => H' d = some (.frz od u) ∧ En.nx σ' (upd H' d u), fun v H' => H' d = some (.frz od u) ∧ En.rt v (upd H' d u), fun σ' H' => H' d = some (.frz od u) ∧ En.bk σ' (upd H' d u), fun σ' H' => H' d = some (.frz od u) ∧ En.ct σ' (upd H' d u)⟩ σ (upd H d (.frz od u))) : tLock t En σ H := ⟨d, u, h, mu, q⟩
end
theorem vals_max {t : Tr} (g : t.Good) {m : Nat} (h : m ∈ t.sh.map (·.2)) (k : ∀ y ∈ t.sh.map (·.2), y ≤ m) : 1 + m = t.chi := by
  obtain ⟨q, hq, rfl⟩ := List.mem_map.mp h
  have h1 := (sh_vals (t := t)).1 q hq
  obtain ⟨x, hx⟩ := (sh_vals (t := t)).2 (t.chi - 1) (by omega)
  have := k _ (List.mem_map.mpr ⟨_, hx, rfl⟩)
  dsimp only at this
  omega
theorem sh_ne {t : Tr} (g : t.Good) : t.sh ≠ [] := fun e => Tr.pts_ne g (by rw [← sh_keys, e]; rfl)
theorem s_tyDK {K : PySem.W.Frag} {H : Hp} {a : Addr} {kvs : List (Key × V)} {R : Prop} (h : H a = some (.dK kvs)) (q : R) : tyV K "dict" (.ref a) H ∧ R := ⟨by unfold tyV; simp [h], q⟩
theorem s_dputI {H : Hp} {a : Addr} {kvs : List (Key × V)} {R : Hp → Prop} {x : Nat} {v : V} (e : H a = some (.dK kvs)) (hl : kvs.length < sizeLine) (q : R (upd H a (.dK (putK kvs (.inl (x : Int)) v)))) : ∃ b H4, V.ref a = .ref b ∧ DPut H b (.int (x : Int)) v H4 ∧ R H4 := ⟨a, _, rfl, DPut.k (k := .inl (x : Int)) e hl, q⟩
theorem s_dgetI {H : Hp} {a : Addr} {qs : List (Nat × Nat)} {R : V → Prop} {x v : Nat} (e : H a = some (.dK (dI qs))) (nd : (qs.map (·.1)).Nodup) (h : (x, v) ∈ qs) (q : R (.int (v : Nat))) : ∃ b v, V.ref a = .ref b ∧ DGet H b (.int (x : Int)) (some v) ∧ R v :=
  ⟨a, _, rfl, by rw [← dI_val nd h]; exact DGet.k (k := .inl (x : Int)) e, q⟩
theorem dI_at {qs : List (Nat × Nat)} {i : Nat} {k : Key} {v : V} (h : (dI qs)[i]? = some (k, v)) : ∃ x y, qs[i]? = some (x, y) ∧ k = .inl (x : Int) ∧ v = .int (y : Nat) := by
  unfold dI at h
  rw [List.getElem?_map] at h
  cases e : qs[i]? with
  | none => rw [e] at h; cases h
  | some q =>
    rw [e] at h
    cases h
    exact ⟨q.1, q.2, rfl, rfl, rfl⟩
/-! ### lists in a list -/
structure Bins (H0 H : Hp) (f : Addr) (as : List Addr) (L : Nat → List Nat) : Prop where
  sm : Same H0 H
  nf : H0 f = none
  ls : H f = some (.lst (as.map V.ref))
  nd : as.Nodup
  fn : f ∉ as
  new : ∀ q ∈ as, H0 q = none
  at' : ∀ (c : Nat) (q : Addr), as[c]? = some q → H q = some (.lst (msk (L c)))
theorem Bins.put {H0 H : Hp} {f : Addr} {as : List Addr} {L : Nat → List Nat} (B : Bins H0 H f as L) {c : Nat} {q : Addr} (h : as[c]? = some q) (l : List Nat) : Bins H0 (upd H q (.lst (msk l))) f as (fun d => if d = c then l else L d) := by
  have qm := List.mem_of_getElem? h
  refine ⟨Same.mut B.sm (B.new q qm), B.nf, up_ne (fun z => B.fn (by rw [z]; exact qm)) B.ls, B.nd, B.fn, B.new, fun d r hd => ?_⟩
  by_cases e : d = c
  · subst e
    rw [h] at hd
    cases hd
    rw [if_pos rfl]
    exact upd_same
  · rw [if_neg e]
    refine up_ne (fun z => ?_) (B.at' d r hd)
    subst z
    exact e ((List.getElem?_inj (List.getElem?_eq_some_iff.mp hd).1 B.nd).mp (hd.trans h.symm))
theorem Bins.congr {H0 H : Hp} {f : Addr} {as : List Addr} {L M : Nat → List Nat} (B : Bins H0 H f as L) (e : ∀ c, c < as.length → L c = M c) : Bins H0 H f as M :=
  ⟨B.sm, B.nf, B.ls, B.nd, B.fn, B.new, fun c q h => by rw [← e c (List.getElem?_eq_some_iff.mp h).1]; exact B.at' c q h⟩
theorem Bins.same {H0 H H' : Hp} {f : Addr} {as : List Addr} {L : Nat → List Nat} (B : Bins H0 H f as L) (s : Same H H') : Bins H0 H' f as L :=
  ⟨B.sm.trans s, B.nf, s _ _ B.ls, B.nd, B.fn, B.new, fun c q h => s _ _ (B.at' c q h)⟩
theorem Bins.more {H0 H : Hp} {f q : Addr} {as : List Addr} (B : Bins H0 H f as fun _ => []) (hq : H q = none) : Bins H0 (upd (upd H q (.lst [])) f (.lst (as.map V.ref ++ [V.ref q]))) f (as ++ [q]) fun _ => [] := by
  have nqf : f ≠ q := ne_of_none B.ls hq
  have nqa : ∀ r ∈ as, r ≠ q := fun r hr z => by
    subst z
    obtain ⟨c, hc⟩ := List.getElem?_of_mem hr
    rw [B.at' c _ hc] at hq
    cases hq
  refine ⟨Same.mut (B.sm.trans (Same.new hq)) B.nf, B.nf, by rw [List.map_append]; exact upd_same, ?_, ?_, ?_, fun c r hc => ?_⟩
  · rw [List.nodup_append]
    exact ⟨B.nd, by simp, fun a ha b hb => by rw [List.mem_singleton] at hb; subst hb; exact nqa a ha⟩
  · intro z
    rcases List.mem_append.mp z with z | z
    · exact B.fn z
    · exact nqf (List.mem_singleton.mp z)
  · intro r hr
    rcases List.mem_append.mp hr with hr | hr
    · exact B.new r hr
    · rw [List.mem_singleton] at hr
      subst hr
      exact B.sm.free hq
  · by_cases l : c < as.length
    · rw [List.getElem?_append_left l] at hc
      have hm := List.mem_of_getElem? hc
      exact up_ne (fun z => B.fn (by rw [← z]; exact hm)) (up_ne (nqa r hm) (B.at' c r hc))
    · rw [List.getElem?_append_right (Nat.le_of_not_lt l)] at hc
      have : r = q := List.mem_singleton.mp (List.mem_of_getElem? hc)
      subst this
      exact up_ne (Ne.symm nqf) upd_same
def cov (t : Tr) (c : Nat) : List Nat := t.srt.filter fun x => decide ((x, c) ∈ t.turn.sh)
def covTo (t : Tr) (i c : Nat) : List Nat := (t.srt.take i).filter fun x => decide ((x, c) ∈ t.turn.sh)
theorem sh_nd {t : Tr} (g : t.Good) : (t.sh.map (·.1)).Nodup := by rw [sh_keys]; exact Tr.nodup g
theorem sh_uniq {qs : List (Nat × Nat)} (nd : (qs.map (·.1)).Nodup) {x c d : Nat} (h : (x, c) ∈ qs) (k : (x, d) ∈ qs) : c = d := by
  have a := dI_val nd h
  rw [dI_val nd k] at a
  have b := V.int.inj (Option.some.inj a)
  omega
theorem covTo_succ {t : Tr} (g : t.Good) {i x c : Nat} (hx : t.srt[i]? = some x) (hc : (x, c) ∈ t.turn.sh) : ∀ d, covTo t (i + 1) d = if d = c then covTo t i c ++ [x] else covTo t i d := by
  intro d
  unfold covTo
  rw [take_succ_of' hx, List.filter_append, List.filter_cons, List.filter_nil]
  by_cases e : d = c
  · subst e
    rw [if_pos rfl, if_pos (decide_eq_true hc)]
  · rw [if_neg e, if_neg (by rw [decide_eq_true_eq]; exact fun z => e (sh_uniq (sh_nd (turn_good g)) z hc)), List.append_nil]
theorem turn_srt {t : Tr} : t.turn.srt = t.srt := by unfold Tr.srt; rw [turn_pts]
theorem sh_at {t : Tr} {x : Nat} (h : x ∈ t.pts) : ∃ c, (x, c) ∈ t.sh := by
  rw [← sh_keys (t := t)] at h
  obtain ⟨q, hq, e⟩ := List.mem_map.mp h
  exact ⟨q.2, by rw [← e]; exact hq⟩
def sp_covers : Sp := fun vs H Q _ => ∃ (v : V) (t : Tr), vs = [v] ∧ TAt H v t ∧ t.Good ∧ ∀ f as H', Bins H H' f as (cov t) → as.length = t.turn.chi → Q (.ref f) H'
theorem chi_30 {t : Tr} (g : t.Good) : t.chi ≤ 30 := by rw [chi_cw g]; exact cw_le g
theorem s_tyes {σ : Sl} {H : Hp} {Q : Bool → Hp → Prop} (q : Q true H) : tYes σ H Q := q
def sp_colours : Sp := fun vs H Q _ => ∃ (v : V) (t : Tr), vs = [v] ∧ TAt H v t ∧ t.Good ∧ ∀ d H', Same H H' → H d = none → H' d = some (.dK (dI t.sh)) → Q (.ref d) H'
end J

/-! Joinside: the law of crowds and colours: promises of its own defs. -/
namespace J
open PySem PySem.Spec L2
theorem nodup_len : ∀ {l m : List Nat}, l.Nodup → (∀ x ∈ l, x ∈ m) → l.length ≤ m.length
  | [], m, _, _ => Nat.zero_le _
  | x :: l, m, nd, h => by
    rw [List.nodup_cons] at nd
    have hx := h x List.mem_cons_self
    have ih := nodup_len (m := m.erase x) nd.2 fun y hy => (List.mem_erase_of_ne (fun e => nd.1 (by rw [← e]; exact hy))).mpr (h y (List.mem_cons_of_mem _ hy))
    rw [List.length_erase_of_mem hx] at ih
    have := List.length_pos_iff.mpr (List.ne_nil_of_mem hx)
    rw [List.length_cons]
    omega
def sp__law_is_crowd (K : PySem.W.Frag) : Sp := fun vs H Q _ => ∃ (a p y : Addr) (l ps : List Nat) (xs : List V) (L : List (Nat × Nat)) (b : Bool), vs = [.ref a, .ref p, .ref y, .bl b] ∧ H a = some (.lst (msk l)) ∧ SqL K H p (msk ps) ∧ SqL K H y xs ∧ PairsAt H xs L ∧
  l.Pairwise (· < ·) ∧ (∀ x ∈ l, x ∈ ps) ∧ l.Pairwise (fun x z => decide ((x, z) ∈ L) = b) ∧ l.length ≤ 100 ∧ ps.length ≤ 1000 ∧ ∀ H', Same H H' → Q (.bl true) H'
theorem u__law_is_crowd {K : PySem.W.Frag} {a p y : Addr} {l ps : List Nat} {xs : List V} {L : List (Nat × Nat)} {b : Bool} {H : Hp} {Q : VK} {E : XK} (h1 : H a = some (.lst (msk l))) (h2 : SqL K H p (msk ps)) (h3 : SqL K H y xs) (h4 : PairsAt H xs L)
    (h5 : l.Pairwise (· < ·)) (h6 : ∀ x ∈ l, x ∈ ps) (h7 : l.Pairwise (fun x z => decide ((x, z) ∈ L) = b)) (h8 : l.length ≤ 100) (h9 : ps.length ≤ 1000) (q : ∀ H', Same H H' → Q (.bl true) H') : sp__law_is_crowd K [.ref a, .ref p, .ref y, .bl b] H Q E :=
  ⟨a, p, y, l, ps, xs, L, b, rfl, h1, h2, h3, h4, h5, h6, h7, h8, h9, q⟩
theorem filt_none {α : Type} (l : List α) : l.filter (fun _ => false) = [] := List.filter_eq_nil_iff.mpr fun _ _ => Bool.false_ne_true
theorem bls_true {β : Type} : ∀ {us : List V} {ps : List β}, Paired (fun u _ => u = V.bl true) us ps → us = (ps.map fun _ => true).map V.bl
  | _, _, .nil => rfl
  | _, _, .cons a b => by rw [a, bls_true b]; rfl
theorem s_notInMsk {K : PySem.W.Frag} {H : Hp} {Q : VK} {a : Nat} {l : Addr} {is : List Nat} (h : SqL K H l (msk is)) (q : Q (.bl (!decide (a ∈ is))) H) : rInA K true (.int a) (.ref l) H Q :=
  s_notInF (.inl h) rfl (flat_msk is) (by rw [inV_msk]; exact q)
theorem msk_at {l : List Nat} {i x : Nat} (h : l[i]? = some x) : (msk l)[i]? = some (.int (x : Int)) := by
  unfold msk
  rw [List.getElem?_map, h]
  rfl
/-- a comprehension that keeps nothing -/
theorem lc_drop {K : PySem.W.Frag} {l D : Addr} {xs : List V} {σ : Sl} {k : Nat} {tt : TT} {te : TE} {H : Hp} {Qd : Hp → Prop} (hl : SqL K H l xs) (hD : H D = none)
    (step : ∀ (i : Nat) (x : V) (H' : Hp), xs[i]? = some x → Same H H' → ∀ Q' : Bool → Hp → Prop, (∀ H4, Same H' H4 → Q' false H4) → tt ((wipe σ [k]).set k (some x)) H' Q')
    (hw : ∀ x, wipe ((wipe σ [k]).set k (some x)) [k] = wipe σ [k]) (fin : ∀ H', Same H H' → H' D = some (.lst []) → Qd H') :
    ∃ W : Nat → Nat → Hp → Prop, (∃ m, W 0 m (upd H D (.lst []))) ∧ ∀ i m H, W i m H →
      ((Itl K l).stop i H ∧ Qd H) ∨ ((Itl K l).go i H ∧ ∃ Nx : Hp → Prop, (∀ H', Nx H' → ∃ m', m' < m ∧ W (i + 1) m' H') ∧ ∀ x H', (Itl K l).yld i H x H' → gName k x (wipe σ [k]) H' fun σ2 H2 => wipe σ2 [k] = wipe σ [k] ∧ tt σ2 H2 fun b H3 =>
        if b = true then te σ2 H3 fun y H4 => ∃ acc, H4 D = some (.lst acc) ∧ acc.length < sizeLine ∧ Nx (upd H4 D (.lst (acc ++ [y]))) else Nx H3) := by
  refine lc_list (K := K) (a := l) (xs := xs) (fun i H' => Same H H' ∧ H' D = some (.lst [])) ⟨Same.new hD, upd_same⟩ ?_ ?_ ?_
  · rintro i H' _ ⟨S, _⟩
    exact Same.seq S hl
  · rintro i x H' hx ⟨S, eD⟩
    refine ⟨hw x, step i x H' hx S _ fun H4 S4 => ?_⟩
    rw [if_neg Bool.false_ne_true]
    exact ⟨S.trans S4, S4 _ _ eD⟩
  · rintro H' ⟨S, eD⟩
    exact fin H' S eD
def sp__law_covered (K : PySem.W.Frag) : Sp := fun vs H Q _ => ∃ (f p y : Addr) (us : List V) (ls : List (List Nat)) (ps : List Nat) (xs : List V) (L : List (Nat × Nat)), vs = [.ref f, .ref p, .ref y] ∧ H f = some (.lst us) ∧ LsAt H us ls ∧ SqL K H p (msk ps) ∧ SqL K H y xs ∧ PairsAt H xs L ∧
  (∀ l ∈ ls, l ≠ [] ∧ l.Pairwise (· < ·) ∧ (∀ x ∈ l, x ∈ ps) ∧ l.Pairwise (fun x z => decide ((x, z) ∈ L) = true) ∧ l.length ≤ 60) ∧ ls.flatten.Perm ps ∧ ps.Pairwise (· < ·) ∧ ps.length ≤ 60 ∧ ls.length ≤ 60 ∧ ∀ H', Same H H' → Q (.bl true) H'
theorem flat_le {ls : List (List Nat)} {c : Nat} (h : ∀ l ∈ ls, l.length ≤ c) : ls.flatten.length ≤ ls.length * c := by
  induction ls with
  | nil => simp
  | cons l ls ih =>
    have h1 := h l List.mem_cons_self
    have h2 := ih fun x hx => h x (List.mem_cons_of_mem _ hx)
    rw [List.flatten_cons, List.length_append, List.length_cons, Nat.add_mul]
    omega
def sp__law_shaded (K : PySem.W.Frag) : Sp := fun vs H Q _ => ∃ (d p y : Addr) (qs : List (Nat × Nat)) (ps : List Nat) (xs : List V) (L : List (Nat × Nat)) (n : Nat), vs = [.ref d, .ref p, .ref y] ∧ H d = some (.dK (dI qs)) ∧ SqL K H p (msk ps) ∧ SqL K H y xs ∧ PairsAt H xs L ∧
  (qs.map (·.1)).Perm ps ∧ ps.Pairwise (· < ·) ∧ (∀ q ∈ L, ∃ c e, (q.1, c) ∈ qs ∧ (q.2, e) ∈ qs ∧ c ≠ e) ∧ (∀ v, v < n ↔ ∃ x, (x, v) ∈ qs) ∧ ps.length ≤ 60 ∧ ∀ H', Same H H' → Q (.int (n : Nat)) H'
theorem cols_of {qs : List (Nat × Nat)} : ∀ {us : List V} {ps : List Nat}, Paired (fun u x => ∃ c, (x, c) ∈ qs ∧ u = V.int ((c : Nat) : Int)) us ps → ∃ cs : List Nat, us = msk cs ∧ cs.length = ps.length ∧ ∀ c, c ∈ cs → ∃ x, (x, c) ∈ qs
  | _, _, .nil => ⟨[], rfl, rfl, fun c h => by cases h⟩
  | _, _, .cons a b => by
    obtain ⟨c, hc, rfl⟩ := a
    obtain ⟨cs, rfl, hl, h⟩ := cols_of b
    refine ⟨c :: cs, rfl, by rw [List.length_cons, List.length_cons, hl], fun d hd => ?_⟩
    rcases List.mem_cons.mp hd with rfl | hd
    · exact ⟨_, hc⟩
    · exact h d hd
theorem cols_all {qs : List (Nat × Nat)} (nd : (qs.map (·.1)).Nodup) {us : List V} {ps : List Nat} {cs : List Nat} (h : Paired (fun u x => ∃ c, (x, c) ∈ qs ∧ u = V.int ((c : Nat) : Int)) us ps) (e : us = msk cs) {x c : Nat} (hx : x ∈ ps) (hc : (x, c) ∈ qs) : c ∈ cs := by
  obtain ⟨i, hi⟩ := List.getElem?_of_mem hx
  obtain ⟨u, hu, d, hd, rfl⟩ := Paired.at h hi
  have := sh_uniq nd hc hd
  subst this
  rw [e] at hu
  unfold msk at hu
  rw [List.getElem?_map] at hu
  cases ec : cs[i]? with
  | none => rw [ec] at hu; cases hu
  | some z =>
    rw [ec] at hu
    have z1 := V.int.inj (Option.some.inj hu)
    have z2 : z = c := by omega
    rw [← z2]
    exact List.mem_of_getElem? ec
end J

/-! Joinside: crowds, colours and covers of a tree are right; what is kept of them. -/
namespace J
open PySem PySem.Spec L2
section
variable {t : Tr}
theorem ties_iff (g : t.Good) {x y : Nat} : (x, y) ∈ t.ties ↔ x < y ∧ t.rel x y = true := (ties_both g).2 x y
theorem cw_tied (g : t.Good) : t.cw.Pairwise (fun x z => decide ((x, z) ∈ t.ties) = true) := by
  have o := cw_ok g
  refine List.pairwise_iff_getElem.mpr fun i j hi hj lt => ?_
  have h := List.pairwise_iff_getElem.mp o.asc i j hi hj lt
  rw [decide_eq_true_eq, ties_iff g]
  exact ⟨h, o.tied _ (List.getElem_mem _) _ (List.getElem_mem _) (Nat.ne_of_lt h)⟩
theorem tcw_apart (g : t.Good) : t.turn.cw.Pairwise (fun x z => decide ((x, z) ∈ t.ties) = false) := by
  have o := cw_ok (turn_good g)
  refine List.pairwise_iff_getElem.mpr fun i j hi hj lt => ?_
  have h := List.pairwise_iff_getElem.mp o.asc i j hi hj lt
  have hx := o.sub _ (List.getElem_mem hi)
  have hy := o.sub _ (List.getElem_mem hj)
  rw [turn_pts] at hx hy
  have e := rel_turn g _ hx _ hy (Nat.ne_of_lt h)
  rw [o.tied _ (List.getElem_mem _) _ (List.getElem_mem _) (Nat.ne_of_lt h)] at e
  rw [decide_eq_false_iff_not, ties_iff g]
  rintro ⟨_, z⟩
  rw [z] at e
  cases e
theorem cw_sub (g : t.Good) : ∀ x ∈ t.cw, x ∈ t.srt := fun x hx => (Tr.mem_srt g).mpr ((cw_ok g).sub x hx)
theorem tcw_sub (g : t.Good) : ∀ x ∈ t.turn.cw, x ∈ t.srt := fun x hx => (Tr.mem_srt g).mpr (by have := (cw_ok (turn_good g)).sub x hx; rwa [turn_pts] at this)
theorem sh_perm (g : t.Good) : (t.sh.map (·.1)).Perm t.srt := by rw [sh_keys]; exact Tr.srt_perm g
theorem sh_ties (g : t.Good) : ∀ q ∈ t.ties, ∃ c e, (q.1, c) ∈ t.sh ∧ (q.2, e) ∈ t.sh ∧ c ≠ e := by
  rintro ⟨x, y⟩ h
  obtain ⟨_, r⟩ := (ties_iff g).mp h
  obtain ⟨hx, hy⟩ := rel_in _ _ r
  obtain ⟨c, hc⟩ := sh_at hx
  obtain ⟨e, he⟩ := sh_at hy
  refine ⟨c, e, hc, he, fun z => ?_⟩
  subst z
  rw [sh_apart g x y c hc he] at r
  cases r
theorem sh_all : ∀ v, v < t.chi ↔ ∃ x, (x, v) ∈ t.sh := fun v => ⟨(sh_vals (t := t)).2 v, fun ⟨x, h⟩ => (sh_vals (t := t)).1 _ h⟩
theorem srt_30 (g : t.Good) : t.srt.length ≤ 30 := by rw [Tr.srt_len g]; exact Tr.size g
def covL (t : Tr) : List (List Nat) := (List.range t.turn.chi).map (cov t)
theorem mem_cov (g : t.Good) {x c : Nat} : x ∈ cov t c ↔ (x, c) ∈ t.turn.sh := by
  unfold cov
  rw [List.mem_filter, decide_eq_true_eq]
  refine ⟨fun h => h.2, fun h => ⟨?_, h⟩⟩
  have := sh_in h
  rw [turn_pts] at this
  exact (Tr.mem_srt g).mpr this
theorem cov_lt {c : Nat} : (cov t c).Pairwise (· < ·) := (Tr.srt_lt t).filter _
theorem cov_ok (g : t.Good) : ∀ l ∈ covL t, l ≠ [] ∧ l.Pairwise (· < ·) ∧ (∀ x ∈ l, x ∈ t.srt) ∧ l.Pairwise (fun x z => decide ((x, z) ∈ t.ties) = true) ∧ l.length ≤ 60 := by
  intro l hl
  obtain ⟨c, hc, rfl⟩ := List.mem_map.mp hl
  have g2 := turn_good g
  refine ⟨fun e => ?_, cov_lt, fun x hx => (List.mem_filter.mp hx).1, ?_, ?_⟩
  · obtain ⟨x, hx⟩ := (sh_all (t := t.turn) c).mp (List.mem_range.mp hc)
    have := (mem_cov g).mpr hx
    rw [e] at this
    cases this
  · refine List.pairwise_iff_getElem.mpr fun i j hi hj lt => ?_
    have h := List.pairwise_iff_getElem.mp (cov_lt (t := t) (c := c)) i j hi hj lt
    have hx := (mem_cov g).mp (List.getElem_mem hi)
    have hy := (mem_cov g).mp (List.getElem_mem hj)
    have px := sh_in hx
    have py := sh_in hy
    rw [turn_pts] at px py
    have e := rel_turn g _ px _ py (Nat.ne_of_lt h)
    rw [sh_apart g2 _ _ c hx hy] at e
    rw [decide_eq_true_eq, ties_iff g]
    refine ⟨h, ?_⟩
    cases r : t.rel (cov t c)[i] (cov t c)[j] with
    | true => rfl
    | false => rw [r] at e; cases e
  · have := List.length_filter_le (fun x => decide ((x, c) ∈ t.turn.sh)) t.srt
    have := srt_30 g
    unfold cov
    omega
theorem cov_len (g : t.Good) : (covL t).length ≤ 30 := by
  unfold covL
  rw [List.length_map, List.length_range]
  exact chi_30 (turn_good g)
theorem cov_perm (g : t.Good) : (covL t).flatten.Perm t.srt := by
  refine perm_of ?_ ((Tr.srt_lt t).imp fun h => Nat.ne_of_lt h) fun x => ?_
  · unfold covL
    rw [List.nodup_iff_pairwise_ne, List.pairwise_flatten]
    refine ⟨fun l hl => ?_, ?_⟩
    · obtain ⟨c, _, rfl⟩ := List.mem_map.mp hl
      exact cov_lt.imp fun h => Nat.ne_of_lt h
    · rw [List.pairwise_map]
      refine List.pairwise_lt_range.imp fun {c d} lt x hx y hy e => ?_
      subst e
      have := sh_uniq (sh_nd (turn_good g)) ((mem_cov g).mp hx) ((mem_cov g).mp hy)
      omega
  · rw [List.mem_flatten]
    constructor
    · rintro ⟨l, hl, hx⟩
      exact (cov_ok g l hl).2.2.1 x hx
    · intro hx
      obtain ⟨c, hc⟩ := sh_at (t := t.turn) (x := x) (by rw [turn_pts]; exact (Tr.mem_srt g).mp hx)
      exact ⟨cov t c, List.mem_map.mpr ⟨c, List.mem_range.mpr ((sh_vals (t := t.turn)).1 _ hc), rfl⟩, (mem_cov g).mpr hc⟩
/-! ### as data -/
structure ShowOk (d : PyData) (n : Nat) : Prop where
  s : PyData.leavesShort 13 d = true
  w : PyData.weight d ≤ n
  v : PyData.showable d = true
  d : d.depth ≤ 5
theorem intD_show {is : List Nat} (lt : ∀ i ∈ is, i < 1000) (hl : is.length ≤ 60) : ShowOk (intD is) 700 := by
  obtain ⟨h1, h2, h3⟩ := ints_show is lt
  refine ⟨by unfold intD; rw [PyData.leavesShort]; exact h1, by unfold intD; rw [PyData.weight]; omega, by unfold intD; rw [PyData.showable]; exact h3, ?_⟩
  have := (intD_lay is).2
  unfold intD
  simp only [PyData.depth]
  omega
theorem kv_show : ∀ {qs : List (Nat × Nat)}, (∀ q ∈ qs, q.1 < 1000 ∧ q.2 < 1000) → PyData.leavesShortKv 13 (qs.map fun q => (.int (q.1 : Int), .int (q.2 : Nat))) = true ∧ PyData.weightKv (qs.map fun q => (.int (q.1 : Int), .int (q.2 : Nat))) ≤ 22 * qs.length ∧ PyData.showableKv (qs.map fun q => (.int (q.1 : Int), .int (q.2 : Nat))) = true ∧ PyData.depthKv (qs.map fun q => (.int (q.1 : Int), .int (q.2 : Nat))) ≤ 0
  | [], _ => by
    refine ⟨rfl, by simp [PyData.weightKv], rfl, by simp [PyData.depthKv]⟩
  | q :: qs, h => by
    obtain ⟨h1, h2, h3, h4⟩ := kv_show (qs := qs) fun z hz => h z (List.mem_cons_of_mem _ hz)
    obtain ⟨a1, a2, a3⟩ := small_int (h q List.mem_cons_self).1
    obtain ⟨b1, b2, b3⟩ := small_int (h q List.mem_cons_self).2
    rw [List.map_cons]
    refine ⟨?_, ?_, ?_, ?_⟩
    · rw [PyData.leavesShortKv, a1, b1, h1]; rfl
    · rw [PyData.weightKv, List.length_cons]; omega
    · rw [PyData.showableKv, a3, b3, h3]; rfl
    · simp only [PyData.depthKv, PyData.depth]
      omega
theorem dictD_show {qs : List (Nat × Nat)} (h : ∀ q ∈ qs, q.1 < 1000 ∧ q.2 < 1000) (hl : qs.length ≤ 60) : ShowOk (dictD qs) 1400 := by
  obtain ⟨h1, h2, h3, h4⟩ := kv_show h
  refine ⟨by unfold dictD; rw [PyData.leavesShort]; exact h1, by unfold dictD; rw [PyData.weight]; omega, by unfold dictD; rw [PyData.showable]; exact h3, ?_⟩
  unfold dictD
  simp only [PyData.depth]
  omega
theorem lists_show : ∀ {ls : List (List Nat)}, (∀ l ∈ ls, (∀ i ∈ l, i < 1000) ∧ l.length ≤ 60) → PyData.leavesShortAll 13 (ls.map intD) = true ∧ PyData.weightAll (ls.map intD) ≤ 701 * ls.length ∧ PyData.showableAll (ls.map intD) = true ∧ PyData.depthAll (ls.map intD) ≤ 5
  | [], _ => by refine ⟨rfl, by simp [PyData.weightAll], rfl, by simp [PyData.depthAll]⟩
  | l :: ls, h => by
    obtain ⟨h1, h2, h3, h4⟩ := lists_show (ls := ls) fun z hz => h z (List.mem_cons_of_mem _ hz)
    have o := intD_show (h l List.mem_cons_self).1 (h l List.mem_cons_self).2
    rw [List.map_cons]
    refine ⟨?_, ?_, ?_, ?_⟩
    · rw [PyData.leavesShortAll, o.s, h1]; rfl
    · have := o.w
      rw [PyData.weightAll, List.length_cons]; omega
    · rw [PyData.showableAll, o.v, h3]; rfl
    · have := o.d
      rw [PyData.depthAll]
      omega
/-- what the law keeps of a tree -/
def keptD (t : Tr) : List PyData := [.list [intD t.cw, intD t.turn.cw], dictD t.sh, .list ((covL t).map intD)]
theorem keptD_show (g : t.Good) : PyData.showableAll (keptD t) = true ∧ PyData.depthAll (keptD t) ≤ 90 ∧ (PyData.list (keptD t)).shown.length ≤ sizeLine := by
  have g2 := turn_good g
  have c1 : ∀ i ∈ t.cw, i < 1000 := fun i hi => Nat.lt_trans (Tr.lt g i ((cw_ok g).sub i hi)) (by decide)
  have c2 : ∀ i ∈ t.turn.cw, i < 1000 := fun i hi => Nat.lt_trans (Tr.lt g2 i ((cw_ok g2).sub i hi)) (by decide)
  have s1 := intD_show c1 (Nat.le_trans (cw_le g) (by decide))
  have s2 := intD_show c2 (Nat.le_trans (cw_le g2) (by decide))
  have s3 := dictD_show (qs := t.sh) (fun q hq => ⟨Nat.lt_trans (Tr.lt g _ (sh_in (show (q.1, q.2) ∈ t.sh from hq))) (by decide), by have := (sh_vals (t := t)).1 q hq; have := chi_30 g; omega⟩) (Nat.le_trans (sh_len g) (by decide))
  obtain ⟨l1, l2, l3, l4⟩ := lists_show (ls := covL t) fun l hl => ⟨fun i hi => Nat.lt_trans (Tr.lt g i ((Tr.mem_srt g).mp ((cov_ok g l hl).2.2.1 i hi))) (by decide), (cov_ok g l hl).2.2.2.2⟩
  have cl := cov_len g
  have w1 := s1.w
  have w2 := s2.w
  have w3 := s3.w
  have d1 := s1.d
  have d2 := s2.d
  have d3 := s3.d
  refine ⟨?_, ?_, ?_⟩
  · unfold keptD
    simp only [PyData.showableAll, PyData.showable, s1.v, s2.v, s3.v, l3, Bool.and_self]
  · unfold keptD
    simp only [PyData.depthAll, PyData.depth]
    omega
  · refine PyData.shown_fits (B := 13) (by decide) (by decide) ?_ ?_
    · unfold keptD
      simp only [PyData.leavesShort, PyData.leavesShortAll, s1.s, s2.s, s3.s, l1, Bool.and_self]
    · unfold keptD
      simp only [PyData.weight, PyData.weightAll]
      exact Nat.le_trans (m := 100000) (by omega) (by decide)
end
/-! ### kept in the heap -/
structure KeptAt (N : Addr → Prop) (H : Hp) (c1 c2 d f : Addr) (as : List Addr) (t : Tr) : Prop where
  n : N c1 ∧ N c2 ∧ N d ∧ N f ∧ ∀ q ∈ as, N q
  e1 : H c1 = some (.lst (msk t.cw))
  e2 : H c2 = some (.lst (msk t.turn.cw))
  ed : H d = some (.dK (dI t.sh))
  ef : H f = some (.lst (as.map V.ref))
  ea : ∀ (c : Nat) (q : Addr), as[c]? = some q → H q = some (.lst (msk (cov t c)))
  la : as.length = t.turn.chi
theorem KeptAt.same {N : Addr → Prop} {H H' : Hp} {c1 c2 d f : Addr} {as : List Addr} {t : Tr} (s : Same H H') (h : KeptAt N H c1 c2 d f as t) : KeptAt N H' c1 c2 d f as t :=
  ⟨h.n, s _ _ h.e1, s _ _ h.e2, s _ _ h.ed, s _ _ h.ef, fun c q hq => s _ _ (h.ea c q hq), h.la⟩
theorem KeptAt.put {N : Addr → Prop} {H : Hp} {c1 c2 d f b : Addr} {o : HO} {as : List Addr} {t : Tr} (hb : ¬ N b) (h : KeptAt N H c1 c2 d f as t) : KeptAt N (upd H b o) c1 c2 d f as t := by
  have ne : ∀ q, N q → q ≠ b := fun q hq z => hb (by rw [← z]; exact hq)
  exact ⟨h.n, up_ne (ne _ h.n.1) h.e1, up_ne (ne _ h.n.2.1) h.e2, up_ne (ne _ h.n.2.2.1) h.ed, up_ne (ne _ h.n.2.2.2.1) h.ef, fun c q hq => up_ne (ne _ (h.n.2.2.2.2 q (List.mem_of_getElem? hq))) (h.ea c q hq), h.la⟩
theorem KeptAt.lists {N : Addr → Prop} {H : Hp} {c1 c2 d f : Addr} {as : List Addr} {t : Tr} (h : KeptAt N H c1 c2 d f as t) : LsAt H (as.map V.ref) (covL t) := by
  have key : ∀ (n : Nat) (bs : List Addr) (k : Nat), bs.length = n → (∀ c q, bs[c]? = some q → H q = some (.lst (msk (cov t (k + c))))) → LsAt H (bs.map V.ref) ((List.range' k n).map (cov t)) := by
    intro n
    induction n with
    | zero =>
      intro bs k hl _
      have : bs = [] := List.length_eq_zero_iff.mp hl
      subst this
      exact .nil
    | succ n ih =>
      intro bs k hl hk
      match bs, hl with
      | b :: bs, hl =>
        rw [List.range'_succ, List.map_cons, List.map_cons]
        refine .cons ⟨b, rfl, by have := hk 0 b rfl; simpa using this⟩ (ih bs (k + 1) (by simpa using hl) fun c q hq => ?_)
        have := hk (c + 1) q (by simpa using hq)
        rw [show k + 1 + c = k + (c + 1) by omega]
        exact this
  unfold covL
  rw [List.range_eq_range']
  exact key _ as 0 h.la fun c q hq => by rw [Nat.zero_add]; exact h.ea c q hq
theorem lists_dp {K : PySem.W.Frag} {H : Hp} : ∀ {us : List V} {ls : List (List Nat)}, LsAt H us ls → DpAll K H us (ls.map intD)
  | _, _, .nil => .nil
  | _, _, .cons ⟨a, e, h⟩ t => by
    subst e
    exact .cons (.lst (SqL.of h) (dp_ints _)) (lists_dp t)
theorem u_reprKept {K : PySem.W.Frag} {N : Addr → Prop} {H : Hp} {Q : VK} {a s c1 c2 d f : Addr} {as : List Addr} {t : Tr} (g : t.Good) (h : KeptAt N H c1 c2 d f as t) (ha : H a = some (.lst [.ref s, .ref d, .ref f])) (hs : H s = some (.lst [.ref c1, .ref c2])) (q : Q (.str (PyData.list (keptD t)).shown) H) : rReprQ K [.ref a] H Q := by
  obtain ⟨h1, h2, h3⟩ := keptD_show g
  refine ⟨a, _, _, keptD t, rfl, SqL.of ha, .cons (.dp (.lst (SqL.of hs) (.cons (.lst (SqL.of h.e1) (dp_ints _)) (.cons (.lst (SqL.of h.e2) (dp_ints _)) .nil)))) (.cons (.dk h.ed) (.cons (.dp (.lst (SqL.of h.ef) (lists_dp h.lists))) .nil)), h1, h2, h3, q⟩
end J
namespace J
open PySem PySem.Spec L2
def sp_k10_right (K : PySem.W.Frag) : Sp := fun vs H Q _ => ∃ (v : V) (t : Tr), vs = [v] ∧ TAt H v t ∧ t.Good ∧ ∀ H', Same H H' → Q (.bl true) H'
theorem u__law_shaded {K : PySem.W.Frag} {d p y : Addr} {xs : List V} {t : Tr} {H : Hp} {Q : VK} {E : XK} (g : t.Good) (hd : H d = some (.dK (dI t.sh))) (hp : SqL K H p (msk t.srt)) (hy : SqL K H y xs) (hL : PairsAt H xs t.ties) (q : ∀ H', Same H H' → Q (.int (t.chi : Nat)) H') : sp__law_shaded K [.ref d, .ref p, .ref y] H Q E :=
  ⟨d, p, y, t.sh, t.srt, xs, t.ties, t.chi, rfl, hd, hp, hy, hL, sh_perm g, Tr.srt_lt t, sh_ties g, sh_all, Nat.le_trans (srt_30 g) (by decide), q⟩
theorem u__law_covered {K : PySem.W.Frag} {N : Addr → Prop} {c1 c2 d f p y : Addr} {as : List Addr} {xs : List V} {t : Tr} {H : Hp} {Q : VK} {E : XK} (g : t.Good) (h : KeptAt N H c1 c2 d f as t) (hp : SqL K H p (msk t.srt)) (hy : SqL K H y xs) (hL : PairsAt H xs t.ties) (q : ∀ H', Same H H' → Q (.bl true) H') : sp__law_covered K [.ref f, .ref p, .ref y] H Q E :=
  ⟨f, p, y, _, covL t, t.srt, xs, t.ties, rfl, h.ef, h.lists, hp, hy, hL, cov_ok g, cov_perm g, Tr.srt_lt t, Nat.le_trans (srt_30 g) (by decide), Nat.le_trans (cov_len g) (by decide), q⟩
/-- told again: crowd, still, colours, covers -/
theorem kept_of {H0 H1 H2 H3 H4 H5 : Hp} {c1 c2 d f : Addr} {as : List Addr} {t : Tr} (S01 : Same H0 H1) (S12 : Same H1 H2) (S23 : Same H2 H3) (S34 : Same H3 H4) (h1 : H0 c1 = none) (e1 : H1 c1 = some (.lst (msk t.cw))) (h2 : H1 c2 = none) (e2 : H2 c2 = some (.lst (msk t.turn.cw)))
    (h3 : H2 d = none) (e3 : H3 d = some (.dK (dI t.sh))) (B : Bins H3 H4 f as (cov t)) (la : as.length = t.turn.chi) : KeptAt (fun q => H0 q = none) H4 c1 c2 d f as t :=
  ⟨⟨h1, S01.free h2, (S01.trans S12).free h3, ((S01.trans S12).trans S23).free B.nf, fun q hq => ((S01.trans S12).trans S23).free (B.new q hq)⟩, S34 _ _ (S23 _ _ (S12 _ _ e1)), S34 _ _ (S23 _ _ e2), S34 _ _ e3, B.ls, B.at', la⟩
theorem kRevL {X : Cx} {K : PySem.W.Frag} {e : Expr} {te : TE} {k : Nat} {p1 p2 p3 pos : Pos} (he : PE X e te) (hK : X.K = K := by rfl) : PE X (.Subscript e (.Slice none none (some (.UnaryOp .USub (.Constant (.int 1) k p1) p2)) p3) pos) (tRevL K te) := by subst hK; exact pe_revL he
theorem s_revL {K : PySem.W.Frag} {te : TE} {σ : Sl} {H : Hp} {Q : VK} (q : te σ H fun x H1 => ∃ a xs, x = .ref a ∧ SqL K H1 a xs ∧ ∀ p, H1 p = none → Q (.ref p) (upd H1 p (.lst xs.reverse))) : tRevL K te σ H Q := q
/-- a slice of a tuple from its start -/
theorem s_slT {K : PySem.W.Frag} {H : Hp} {Q : VK} {a : Addr} {xs : List V} {n : Nat} (h : SqT K H a xs) (q : ∀ p H', Same H H' → SqT K H' p (xs.take n) → Q (.ref p) H') : rSl K (.ref a) none (some (n : Int)) H Q := by
  have e : cutV xs none (some (n : Int)) = xs.take n := by
    unfold cutV
    rw [HT.sIx_nat, HT.sIx_none, List.drop_zero, Nat.sub_zero]
    by_cases c : n ≤ xs.length
    · rw [Nat.min_eq_left c]
    · rw [Nat.min_eq_right (by omega), List.take_length, List.take_of_length_le (by omega)]
  refine .inr ⟨a, xs, rfl, h, fun ⟨_, c⟩ => ?_, fun _ p hp => ?_⟩
  · rw [HT.sIx_nat] at c
    exact q a H (Same.refl _) (by rw [List.take_of_length_le (by omega)]; exact h)
  · rw [e]
    exact q p _ (Same.new hp) (SqT.of upd_same)
theorem paired_take {α β : Type} {F : α → β → Prop} : ∀ (n : Nat) {xs : List α} {ys : List β}, Paired F xs ys → Paired F (xs.take n) (ys.take n)
  | 0, _, _, _ => .nil
  | n + 1, _, _, .nil => .nil
  | n + 1, _, _, .cons r t => .cons r (paired_take n t)
end J

/-! Joinside: counts of trees laid together. -/
namespace J
open PySem PySem.Spec PyProof.Rows L2
/-! ### len(set(xs)), just -/
theorem met_nodup (f : Nat → Int) : ∀ n, (firstMet f n).Nodup
  | 0 => List.nodup_nil
  | n + 1 => by
    have ih := met_nodup f n
    rw [firstMet_succ]; unfold step_dedup
    split
    · exact ih
    · rename_i no
      rw [List.nodup_append]
      refine ⟨ih, by simp, fun a ha b hb e => ?_⟩
      rw [List.mem_singleton] at hb
      subst hb
      subst e
      exact no (List.any_eq_true.mpr ⟨_, ha, beq_self_eq_true _⟩)
theorem met_mem (ns : List Int) (x : Int) : x ∈ firstMet (fun i => ns.getD i 0) ns.length ↔ x ∈ ns := by
  have h := firstMet_any (fun i => ns.getD i 0) ns.length x
  rw [range_getD] at h
  have a : ∀ l : List Int, l.any (· == x) = true ↔ x ∈ l := fun l => by
    rw [List.any_eq_true]
    exact ⟨fun ⟨y, hy, e⟩ => by rw [← beq_iff_eq.mp e]; exact hy, fun h => ⟨x, h, beq_self_eq_true _⟩⟩
  rw [← a, ← a, h]
def tLenSetB (K : PySem.W.Frag) (ta : TE) : TE := fun σ H Q => ta σ H fun x H1 => ∃ (l : Addr) (ns ts : List Int), x = .ref l ∧ SqL K H1 l (ns.map V.int) ∧ ns.length ≤ 1000 ∧ ts.Nodup ∧ (∀ x, x ∈ ts ↔ x ∈ ns) ∧ Q (.int (ts.length : Nat)) H1
theorem pe_lenSetB {X : Cx} {a : Expr} {ta : TE} {p p2 q pos : Pos} (hg : Gl X "len") (hm : X.mg "len" = none) (hg2 : Gl X "set") (hm2 : X.mg "set" = none) (ha : PE X a ta) {K : PySem.W.Frag} (hc : X.calm = true := by rfl)
    (na : starEach [a] X.env = (false, eval a X.env) :: starEach [] X.env := by rfl) (hK : X.K = K := by rfl) : PE X (.Call (.Name "len" p) [.Call (.Name "set" p2) [a] [] q] [] pos) (tLenSetB K ta) := by
  subst hK
  refine ⟨fun pins s σ H Q I h => Call_ (ld_blt I hg hm boot_len ?_)⟩
  refine callWith_builtin1 (args_cons ?_ rfl) rfl rfl
  refine Call_ (ld_blt I hg2 hm2 boot_set ?_)
  refine callWith_type1 (args_cons (thn (ha.run pins s σ H _ I h) fun v s1 got => args_nil ?_) na) na rfl
  obtain ⟨x, H1, I1, r1, l, ns, ts, rfl, hq, hl, nd, me, q1⟩ := got
  cases r1
  obtain ⟨its, r, pl, hz⟩ := I1.list hq
  have size_is : its.toArray.size = ns.length := by rw [List.size_toArray, ← r.length, List.length_map]
  refine call_set_list (ns := ns) (I1.ok.hd hc) pl.isList (by simpa using ints_vals r) (Nat.lt_of_le_of_lt (m := 1001) (by omega) (by decide)) fun h' tk hS hk => args_nil ?_
  rw [size_is] at hS
  obtain ⟨o, es, ep, t, ho, hex, hd, _, _, _, hf, hn⟩ := hS
  have le := met_le (fun i => ns.getD i 0) ns.length
  have I2 : Inv X pins σ H1 { s1 with heap := h', toks := tk } := I1.kept fun b o e => hk b o (Heap.lt_size e) e
  have pm : ts.Perm (firstMet (fun i => ns.getD i 0) ns.length) := perm_of nd (met_nodup _ _) fun x => by rw [me, met_mem]
  refine call_len_set ho hex hd hf (by rw [hn] <;> omega) ⟨.int (ts.length : Nat), H1, I2.tok _, ⟨_, by rw [hn, pm.length_eq]⟩, q1⟩
theorem s_lsetB {K : PySem.W.Frag} {ta : TE} {σ : Sl} {H : Hp} {Q : VK} (q : ta σ H fun x H1 => ∃ (l : Addr) (ns ts : List Int), x = .ref l ∧ SqL K H1 l (ns.map V.int) ∧ ns.length ≤ 1000 ∧ ts.Nodup ∧ (∀ x, x ∈ ts ↔ x ∈ ns) ∧ Q (.int (ts.length : Nat)) H1) : tLenSetB K ta σ H Q := q
/-! ### counts -/
def tof (t : Tr) : List Nat := [t.mc, t.turn.mc, t.chi, t.turn.chi, t.chi, t.turn.chi]
theorem mcP_app : ∀ as bs : List Tr, mcP (as ++ bs) = mcP as * mcP bs
  | [], bs => by rw [List.nil_append, mcP, Nat.one_mul]
  | a :: as, bs => by rw [List.cons_append, mcP, mcP, mcP_app as, Nat.mul_right_comm]
theorem mcS_app : ∀ as bs : List Tr, mcS (as ++ bs) = mcS as + mcS bs
  | [], bs => by rw [List.nil_append, mcS, Nat.zero_add]
  | a :: as, bs => by rw [List.cons_append, mcS, mcS, mcS_app as, Nat.add_assoc]
theorem chiS_app : ∀ as bs : List Tr, chiS (as ++ bs) = chiS as + chiS bs
  | [], bs => by rw [List.nil_append, chiS, Nat.zero_add]
  | a :: as, bs => by rw [List.cons_append, chiS, chiS, chiS_app as, Nat.add_assoc]
theorem chiM_app : ∀ as bs : List Tr, chiM (as ++ bs) = max (chiM as) (chiM bs)
  | [], bs => by rw [List.nil_append, chiM, Nat.zero_max]
  | a :: as, bs => by rw [List.cons_append, chiM, chiM, chiM_app as, Nat.max_assoc]
theorem four_perm {as bs : List Tr} (p : as.Perm bs) : mcP as = mcP bs ∧ mcS as = mcS bs ∧ chiS as = chiS bs ∧ chiM as = chiM bs := by
  induction p with
  | nil => exact ⟨rfl, rfl, rfl, rfl⟩
  | cons x _ ih =>
    obtain ⟨h1, h2, h3, h4⟩ := ih
    simp only [mcP, mcS, chiS, chiM, h1, h2, h3, h4, and_self]
  | swap x y l =>
    simp only [mcP, mcS, chiS, chiM]
    refine ⟨Nat.mul_right_comm _ _ _, Nat.add_left_comm _ _ _, Nat.add_left_comm _ _ _, Nat.max_left_comm _ _ _⟩
  | trans _ _ h1 h2 => exact ⟨h1.1.trans h2.1, h1.2.1.trans h2.2.1, h1.2.2.1.trans h2.2.2.1, h1.2.2.2.trans h2.2.2.2⟩
theorem pcs_mc (j : Bool) (t : Tr) : (Tr.nd j (t.pcs j)).mc = t.mc ∧ (Tr.nd j (t.pcs j)).chi = t.chi := by
  have single : (Tr.nd j [t]).mc = t.mc ∧ (Tr.nd j [t]).chi = t.chi := by
    have := (mc_bounds t).1
    cases j with
    | true =>
      rw [Tr.mc, Tr.chi, if_pos rfl, if_pos rfl]
      simp only [mcP, chiS]
      omega
    | false =>
      rw [Tr.mc, Tr.chi, if_neg Bool.false_ne_true, if_neg Bool.false_ne_true]
      simp only [mcS, chiM]
      omega
  cases t with
  | pt n => exact single
  | nd k ps =>
    rw [Tr.pcs]
    by_cases e : k = j
    · subst e
      rw [if_pos rfl]
      exact ⟨rfl, rfl⟩
    · rw [if_neg e]
      exact single
/-- crowds, colours of a tree laid of two -/
theorem lay_mc {j : Bool} {t1 t2 : Tr} {ts : List Tr} (p : ts.Perm (t1.pcs j ++ t2.pcs j)) : (Tr.nd j ts).mc = (if j = true then t1.mc * t2.mc else t1.mc + t2.mc - 1) ∧ (Tr.nd j ts).chi = (if j = true then t1.chi + t2.chi else max t1.chi t2.chi) := by
  obtain ⟨h1, h2, h3, h4⟩ := four_perm p
  obtain ⟨a1, a2⟩ := pcs_mc j t1
  obtain ⟨b1, b2⟩ := pcs_mc j t2
  have m1 := (mc_bounds t1).1
  have m2 := (mc_bounds t2).1
  cases j with
  | true =>
    rw [Tr.mc, if_pos rfl] at a1 b1
    rw [Tr.chi, if_pos rfl] at a2 b2
    rw [Tr.mc, Tr.chi, if_pos rfl, if_pos rfl, if_pos rfl, if_pos rfl, h1, h3, mcP_app, chiS_app, a1, b1, a2, b2]
    exact ⟨rfl, rfl⟩
  | false =>
    rw [Tr.mc, if_neg Bool.false_ne_true] at a1 b1
    rw [Tr.chi, if_neg Bool.false_ne_true] at a2 b2
    rw [Tr.mc, Tr.chi, if_neg Bool.false_ne_true, if_neg Bool.false_ne_true, if_neg Bool.false_ne_true, if_neg Bool.false_ne_true, h2, h4, mcS_app, chiM_app, a2, b2]
    exact ⟨by omega, rfl⟩
theorem pcs_turn (j : Bool) (t : Tr) : (t.pcs j).map Tr.turn = t.turn.pcs (!j) := by
  cases t with
  | pt n => rfl
  | nd k ps =>
    rw [Tr.turn, Tr.pcs, Tr.pcs, turnL_eq]
    by_cases e : k = j
    · subst e
      rw [if_pos rfl, if_pos rfl]
    · have e2 : ¬ (!k) = (!j) := by cases k <;> cases j <;> simp_all
      rw [if_neg e, if_neg e2, List.map_singleton, Tr.turn, turnL_eq]
theorem lay_turn {j : Bool} {t1 t2 : Tr} {ts : List Tr} (p : ts.Perm (t1.pcs j ++ t2.pcs j)) : (ts.map Tr.turn).Perm (t1.turn.pcs (!j) ++ t2.turn.pcs (!j)) := by
  have := p.map Tr.turn
  rw [List.map_append, pcs_turn, pcs_turn] at this
  exact this
theorem turn_nd {j : Bool} {ts : List Tr} : (Tr.nd j ts).turn = .nd (!j) (ts.map Tr.turn) := by rw [Tr.turn, turnL_eq]
theorem tof_join {t1 t2 : Tr} {ts : List Tr} (p : ts.Perm (t1.pcs true ++ t2.pcs true)) : tof (.nd true ts) = [t1.mc * t2.mc, t1.turn.mc + t2.turn.mc - 1, t1.chi + t2.chi, max t1.turn.chi t2.turn.chi, t1.chi + t2.chi, max t1.turn.chi t2.turn.chi] := by
  obtain ⟨h1, h2⟩ := lay_mc p
  obtain ⟨h3, h4⟩ := lay_mc (lay_turn p)
  unfold tof
  rw [turn_nd, h1, h2, h3, h4]
  rfl
theorem tof_side {t1 t2 : Tr} {ts : List Tr} (p : ts.Perm (t1.pcs false ++ t2.pcs false)) : tof (.nd false ts) = [t1.mc + t2.mc - 1, t1.turn.mc * t2.turn.mc, max t1.chi t2.chi, t1.turn.chi + t2.turn.chi, max t1.chi t2.chi, t1.turn.chi + t2.turn.chi] := by
  obtain ⟨h1, h2⟩ := lay_mc p
  obtain ⟨h3, h4⟩ := lay_mc (lay_turn p)
  unfold tof
  rw [turn_nd, h1, h2, h3, h4]
  rfl
/-! ### promises -/
def sp_k12_told : Sp := fun vs H Q _ => ∃ (v : V) (t : Tr), vs = [v] ∧ TAt H v t ∧ t.Good ∧ ∀ q H', Same H H' → H' q = some (.lst (msk (tof t))) → Q (.ref q) H'
def sp_k12_joined : Sp := fun vs H Q _ => ∃ (a b : Addr) (x0 x1 x2 x3 x4 x5 y0 y1 y2 y3 y4 y5 : Nat), vs = [.ref a, .ref b] ∧ H a = some (.lst (msk [x0, x1, x2, x3, x4, x5])) ∧ H b = some (.lst (msk [y0, y1, y2, y3, y4, y5])) ∧ 1 ≤ x1 ∧ x0 ≤ 1073741824 ∧ y0 ≤ 1073741824 ∧
  ∀ q H', Same H H' → H' q = some (.lst (msk [x0 * y0, x1 + y1 - 1, x2 + y2, max x3 y3, x4 + y4, max x5 y5])) → Q (.ref q) H'
def sp_k12_turned : Sp := fun vs H Q _ => ∃ (a : Addr) (x0 x1 x2 x3 x4 x5 : Nat), vs = [.ref a] ∧ H a = some (.lst (msk [x0, x1, x2, x3, x4, x5])) ∧ ∀ q H', Same H H' → H' q = some (.lst (msk [x1, x0, x3, x2, x5, x4])) → Q (.ref q) H'
theorem s_par {ta : TA} {i j : Nat} {D : Ends} {σ : Sl} {H : Hp} (q : ta σ H fun vs H1 => ∃ v w, vs = [v, w] ∧ D.nx ((σ.set i (some v)).set j (some w)) H1) : tPar i j ta D σ H := q
end J

/-! Joinside: trees as texts, plain: what is shown, how it is read. -/
namespace J
open PySem PySem.Spec PyProof.Rows L2 TL
def sgn (j : Bool) : List Nat := if j = true then [32, 38, 32] else [32, 124, 32]
mutual
/-- the signs of a tree's text -/
def Tr.txt : Tr → List Nat
  | .pt n => numL n
  | .nd j ps => 40 :: (joinL (sgn j) (txtL ps) ++ [41])
def txtL : List Tr → List (List Nat)
  | [] => []
  | p :: ps => p.txt :: txtL ps
end
theorem txtL_eq : ∀ ps : List Tr, txtL ps = ps.map Tr.txt
  | [] => rfl
  | p :: ps => by rw [txtL, txtL_eq ps, List.map_cons]
def tx (l : List Nat) : Str := ⟨l.toArray⟩
theorem tl_tx (l : List Nat) : tl (tx l) = l := tl_mk l
theorem tx_len (l : List Nat) : (tx l).length = l.length := by rw [len_tl, tl_tx]
theorem tx_tl (z : Str) : tx (tl z) = z := mk_tl z
theorem tx_inj {l m : List Nat} (h : tx l = tx m) : l = m := by rw [← tl_tx l, h, tl_tx]
theorem tx_app (l m : List Nat) : tx l ++ tx m = tx (l ++ m) := ext_tl (by rw [tl_append, tl_tx, tl_tx, tl_tx])
/-! ### reading -/
def isD (c : Nat) : Bool := decide (48 ≤ c) && decide (c ≤ 57)
/-- how many figures stand ahead, two at most -/
def digs : List Nat → Nat
  | c :: d :: _ => if isD c = true then (if isD d = true then 2 else 1) else 0
  | [c] => if isD c = true then 1 else 0
  | [] => 0
def valD : List Nat → Nat
  | [c] => c - 48
  | [c, d] => (c - 48) * 10 + (d - 48)
  | _ => 0
def rdPt (l : List Nat) : Option (Tr × Nat) := if digs l = 0 then none else some (.pt (valD (l.take (digs l))), digs l)
def isS (s : List Nat) : Bool := decide (s = sgn false) || decide (s = sgn true)
/-- further parts behind a sign s, each read by f -/
def prsL (f : List Nat → Option (Tr × Nat)) (s : List Nat) : Nat → List Nat → Option (List Tr × Nat)
  | 0, _ => some ([], 0)
  | k + 1, l => if (decide (l.take 3 = s) && isS s) = true then
      (match f (l.drop 3) with
      | none => none
      | some (t, m) => match prsL f s k (l.drop (3 + m)) with
        | none => none
        | some (ts, m') => some (t :: ts, 3 + m + m'))
    else some ([], 0)
/-- the tree that stands at the start of a text, so deep at the most, and how long it is -/
def prs : Nat → List Nat → Option (Tr × Nat)
  | 0, l => if l.take 1 = [40] then none else rdPt l
  | n + 1, l => if l.take 1 = [40] then
      (match prs n (l.drop 1) with
        | none => none
        | some (t0, m0) => match prsL (prs n) ((l.drop (1 + m0)).take 3) l.length (l.drop (1 + m0)) with
          | none => none
          | some (ts, m1) => if (decide ((l.drop (1 + m0 + m1)).take 1 = [41]) && decide (1 ≤ ts.length)) = true then some (.nd (!decide ((l.drop (1 + m0)).take 3 = sgn false)) (t0 :: ts), 1 + m0 + m1 + 1) else none)
    else rdPt l
theorem digs_le (l : List Nat) : digs l ≤ l.length ∧ digs l ≤ 2 := by
  match l with
  | [] => exact ⟨Nat.le_refl _, by decide⟩
  | [c] => rw [digs]; split <;> exact ⟨by simp, by decide⟩
  | c :: d :: r =>
    rw [digs]
    refine ⟨?_, ?_⟩
    · simp only [List.length_cons]
      split
      · split <;> omega
      · omega
    · split
      · split <;> omega
      · omega
theorem prsL_le {f : List Nat → Option (Tr × Nat)} (hf : ∀ l t m, f l = some (t, m) → m ≤ l.length) {s : List Nat} (hs : s.length = 3 ∨ isS s = false) : ∀ (k : Nat) (l : List Nat) (ts : List Tr) (m : Nat), prsL f s k l = some (ts, m) → m ≤ l.length
  | 0, l, ts, m, h => by
    rw [prsL] at h
    cases h
    exact Nat.zero_le _
  | k + 1, l, ts, m, h => by
    rw [prsL] at h
    split at h
    · rename_i c
      rw [Bool.and_eq_true, decide_eq_true_eq] at c
      have l3 : 3 ≤ l.length := by
        rcases hs with hs | hs
        · have := congrArg List.length c.1
          rw [List.length_take, hs] at this
          omega
        · rw [hs] at c; exact absurd c.2 Bool.false_ne_true
      cases e : f (l.drop 3) with
      | none => rw [e] at h; cases h
      | some q =>
        obtain ⟨t, m1⟩ := q
        rw [e] at h
        have h1 := hf _ _ _ e
        rw [List.length_drop] at h1
        cases e2 : prsL f s k (l.drop (3 + m1)) with
        | none => simp only [e2] at h; cases h
        | some q2 =>
          obtain ⟨ts2, m2⟩ := q2
          simp only [e2] at h
          cases h
          have h2 := prsL_le hf hs k _ _ _ e2
          rw [List.length_drop] at h2
          omega
    · cases h
      exact Nat.zero_le _
theorem isS_len {s : List Nat} (h : isS s = true) : s.length = 3 := by
  unfold isS at h
  rw [Bool.or_eq_true, decide_eq_true_eq, decide_eq_true_eq] at h
  rcases h with rfl | rfl <;> rfl
theorem isS_or (s : List Nat) : s.length = 3 ∨ isS s = false := by
  cases h : isS s with
  | true => exact .inl (isS_len h)
  | false => exact .inr rfl
theorem take_le {l s : List Nat} {n : Nat} (h : l.take n = s) : s.length ≤ l.length := by
  rw [← h, List.length_take]
  exact Nat.min_le_right _ _
theorem rdPt_le {l : List Nat} {t : Tr} {m : Nat} (h : rdPt l = some (t, m)) : m ≤ l.length := by
  unfold rdPt at h
  split at h
  · cases h
  · cases h
    exact (digs_le l).1
theorem prs_le : ∀ (n : Nat) (l : List Nat) (t : Tr) (m : Nat), prs n l = some (t, m) → m ≤ l.length
  | 0, l, t, m, h => by
    rw [prs] at h
    split at h
    · cases h
    · exact rdPt_le h
  | n + 1, l, t, m, h => by
    rw [prs] at h
    split at h
    · rename_i c
      have l1 := take_le c
      cases e : prs n (l.drop 1) with
      | none => rw [e] at h; cases h
      | some q =>
        obtain ⟨t0, m0⟩ := q
        rw [e] at h
        dsimp only at h
        have h1 := prs_le n _ _ _ e
        rw [List.length_drop] at h1
        cases e2 : prsL (prs n) ((l.drop (1 + m0)).take 3) l.length (l.drop (1 + m0)) with
        | none => simp only [e2] at h; cases h
        | some q2 =>
          obtain ⟨ts, m1⟩ := q2
          simp only [e2] at h
          split at h
          · rename_i c2
            rw [Bool.and_eq_true, decide_eq_true_eq] at c2
            cases h
            have l2 := take_le c2.1
            rw [List.length_drop] at l2
            simp only [List.length_cons, List.length_nil] at l2
            omega
          · cases h
    · exact rdPt_le h
/-! ### what is shown is read -/
theorem numL_30 {n : Nat} (h : n < 100) : (n < 10 ∧ numL n = [48 + n]) ∨ (10 ≤ n ∧ numL n = [48 + n / 10, 48 + n % 10]) := by
  by_cases c : n < 10
  · exact .inl ⟨c, numL_lt c⟩
  · refine .inr ⟨by omega, ?_⟩
    rw [numL_step (by omega), numL_lt (by omega)]
    rfl
def noD (r : List Nat) : Prop := ∀ c, r.head? = some c → isD c = false
theorem isD_of {d : Nat} (h : d < 10) : isD (48 + d) = true := by
  unfold isD
  rw [Bool.and_eq_true, decide_eq_true_eq, decide_eq_true_eq]
  omega
theorem rdPt_num {n : Nat} (h : n < 100) {r : List Nat} (hr : noD r) : rdPt (numL n ++ r) = some (.pt n, (numL n).length) := by
  rcases numL_30 h with ⟨c, e⟩ | ⟨c, e⟩
  · rw [e]
    have d1 : digs ([48 + n] ++ r) = 1 := by
      cases r with
      | nil =>
        show digs [48 + n] = 1
        rw [digs, if_pos (isD_of c)]
      | cons x r =>
        show digs ((48 + n) :: x :: r) = 1
        rw [digs, if_pos (isD_of c), if_neg (by rw [hr x rfl]; exact Bool.false_ne_true)]
    unfold rdPt
    rw [d1, if_neg (by decide)]
    show some (Tr.pt (48 + n - 48), 1) = some (Tr.pt n, 1)
    rw [Nat.add_sub_cancel_left]
  · rw [e]
    have d1 : digs ([48 + n / 10, 48 + n % 10] ++ r) = 2 := by
      show digs ((48 + n / 10) :: (48 + n % 10) :: r) = 2
      rw [digs, if_pos (isD_of (by omega)), if_pos (isD_of (Nat.mod_lt _ (by decide)))]
    unfold rdPt
    rw [d1, if_neg (by decide)]
    show some (Tr.pt ((48 + n / 10 - 48) * 10 + (48 + n % 10 - 48)), 2) = some (Tr.pt n, 2)
    rw [Nat.add_sub_cancel_left, Nat.add_sub_cancel_left]
    congr 3
    omega
theorem txt_ne (t : Tr) : t.txt ≠ [] := by
  cases t with
  | pt n => rw [Tr.txt]; exact numL_ne n
  | nd j ps => rw [Tr.txt]; exact List.cons_ne_nil _ _
theorem txt_head {t : Tr} : t.txt.take 1 = [40] ↔ ∃ j ps, t = .nd j ps := by
  cases t with
  | pt n =>
    rw [Tr.txt]
    constructor
    · intro h
      have : (40 : Nat) ∈ numL n := List.mem_of_mem_take (by rw [h]; exact List.mem_cons_self)
      exact absurd this (numL_free (by decide))
    · rintro ⟨_, _, e⟩; cases e
  | nd j ps => rw [Tr.txt]; exact ⟨fun _ => ⟨j, ps, rfl⟩, fun _ => rfl⟩
/-- all points are told by two figures at most -/
def Tr.Low (t : Tr) : Prop := ∀ x ∈ t.pts, x < 100
theorem sgn_len (j : Bool) : (sgn j).length = 3 := by cases j <;> rfl
theorem isS_sgn (j : Bool) : isS (sgn j) = true := by cases j <;> decide
theorem joinL_cons (S p : List Nat) (ps : List (List Nat)) : joinL S (p :: ps) = p ++ (ps.map (S ++ ·)).flatten := by
  induction ps generalizing p with
  | nil => simp [joinL]
  | cons q ps ih =>
    show p ++ (S ++ joinL S (q :: ps)) = _
    rw [ih q, List.map_cons, List.flatten_cons, List.append_assoc]
theorem noD_sgn (j : Bool) (r : List Nat) : noD (sgn j ++ r) := by
  intro c h
  cases j <;> (cases h; decide)
theorem noD_41 (r : List Nat) : noD (41 :: r) := by
  intro c h
  cases h
  decide
theorem tail_noD {j : Bool} (ps : List Tr) (r : List Nat) : noD (((txtL ps).map (sgn j ++ ·)).flatten ++ 41 :: r) := by
  cases ps with
  | nil => exact noD_41 r
  | cons p ps =>
    rw [txtL, List.map_cons, List.flatten_cons, List.append_assoc, List.append_assoc]
    exact noD_sgn j _
theorem prsL_txt {f : List Nat → Option (Tr × Nat)} {j : Bool} {r : List Nat} : ∀ (ps : List Tr) (k : Nat), (∀ p ∈ ps, ∀ r, noD r → f (p.txt ++ r) = some (p, p.txt.length)) → ps.length < k →
    prsL f (sgn j) k (((txtL ps).map (sgn j ++ ·)).flatten ++ 41 :: r) = some (ps, (((txtL ps).map (sgn j ++ ·)).flatten).length)
  | [], k + 1, _, _ => by
    rw [prsL]
    have : ¬ (decide ((((txtL []).map (sgn j ++ ·)).flatten ++ 41 :: r).take 3 = sgn j) && isS (sgn j)) = true := by
      rw [isS_sgn, Bool.and_true, decide_eq_true_eq]
      intro h
      have h1 := congrArg List.head? h
      rw [txtL] at h1
      cases j <;> simp [sgn] at h1
    rw [if_neg this]
    rfl
  | p :: ps, k + 1, hf, hk => by
    rw [txtL, List.map_cons, List.flatten_cons, List.append_assoc, List.append_assoc, prsL]
    have l3 : ∀ m : List Nat, (sgn j ++ m).take 3 = sgn j := fun m => by cases j <;> rfl
    have d3 : ∀ m : List Nat, (sgn j ++ m).drop 3 = m := fun m => by cases j <;> rfl
    rw [l3, isS_sgn, decide_eq_true rfl, if_pos (show (true && true) = true from rfl), d3, hf p List.mem_cons_self _ (tail_noD ps r)]
    dsimp only
    rw [← List.drop_drop, d3, List.drop_left, prsL_txt ps k (fun q hq => hf q (List.mem_cons_of_mem _ hq)) (by simpa using hk)]
    dsimp only
    rw [List.length_append, List.length_append, sgn_len]
theorem prs_txt : ∀ (n : Nat) {t : Tr}, t.Good → t.dep ≤ n → ∀ r, noD r → prs n (t.txt ++ r) = some (t, t.txt.length) := by
  intro n
  induction n with
  | zero =>
    intro t g hd r hr
    cases t with
    | pt n =>
      rw [prs]
      have h1 : ¬ ((Tr.pt n).txt ++ r).take 1 = [40] := by
        rw [List.take_append_of_le_length (List.length_pos_iff.mpr (txt_ne _)), txt_head]
        rintro ⟨_, _, e⟩; cases e
      rw [if_neg h1]
      rw [Tr.Good] at g
      rw [Tr.txt]
      exact rdPt_num (by omega) hr
    | nd j ps => rw [Tr.dep] at hd; omega
  | succ n ih =>
    intro t g hd r hr
    cases t with
    | pt n =>
      rw [prs]
      have h1 : ¬ ((Tr.pt n).txt ++ r).take 1 = [40] := by
        rw [List.take_append_of_le_length (List.length_pos_iff.mpr (txt_ne _)), txt_head]
        rintro ⟨_, _, e⟩; cases e
      rw [if_neg h1]
      rw [Tr.Good] at g
      rw [Tr.txt]
      exact rdPt_num (by omega) hr
    | nd j ps =>
      have gp := fun p (hp : p ∈ ps) => (good_part g hp).1
      have dp : ∀ p ∈ ps, p.dep ≤ n := fun p hp => dep_part hd hp
      have g2 := g
      rw [Tr.Good] at g2
      have l30 := parts_30 g
      match ps, g2.1 with
      | p0 :: p1 :: ps, _ =>
        rw [Tr.txt, txtL, joinL_cons]
        generalize hL : ((txtL (p1 :: ps)).map (sgn j ++ ·)).flatten = L
        have e0 : 40 :: (p0.txt ++ L ++ [41]) ++ r = 40 :: (p0.txt ++ (L ++ 41 :: r)) := by simp
        rw [e0, prs, if_pos (show List.take 1 (40 :: (p0.txt ++ (L ++ 41 :: r))) = [40] from rfl)]
        show (match prs n (p0.txt ++ (L ++ 41 :: r)) with | none => none | some (t0, m0) => _) = _
        rw [ih (gp p0 List.mem_cons_self) (dp p0 List.mem_cons_self) _ (by rw [← hL]; exact tail_noD _ _)]
        dsimp only
        have d1 : (40 :: (p0.txt ++ (L ++ 41 :: r))).drop (1 + p0.txt.length) = L ++ 41 :: r := by
          rw [Nat.add_comm, List.drop_succ_cons, List.drop_left]
        have s3 : (L ++ 41 :: r).take 3 = sgn j := by
          rw [← hL, txtL, List.map_cons, List.flatten_cons, List.append_assoc, List.append_assoc]
          cases j <;> rfl
        have lk : (p1 :: ps).length < (40 :: (p0.txt ++ (L ++ 41 :: r))).length := by
          have : (p1 :: ps).length ≤ L.length := by
            rw [← hL]
            have : ∀ qs : List Tr, qs.length ≤ (((txtL qs).map (sgn j ++ ·)).flatten).length := by
              intro qs
              induction qs with
              | nil => exact Nat.zero_le _
              | cons q qs ih =>
                rw [txtL, List.map_cons, List.flatten_cons, List.length_append, List.length_append, sgn_len, List.length_cons]
                omega
            exact this _
          simp only [List.length_cons, List.length_append] at this ⊢
          omega
        have key := prsL_txt (f := prs n) (j := j) (r := r) (p1 :: ps) (40 :: (p0.txt ++ (L ++ 41 :: r))).length (fun p hp r hr => ih (gp p (List.mem_cons_of_mem _ hp)) (dp p (List.mem_cons_of_mem _ hp)) r hr) lk
        rw [hL] at key
        rw [d1, s3, key]
        dsimp only
        have d2 : (40 :: (p0.txt ++ (L ++ 41 :: r))).drop (1 + p0.txt.length + L.length) = 41 :: r := by
          rw [← List.drop_drop, d1, List.drop_left]
        rw [d2]
        have e1 : (decide (List.take 1 (41 :: r) = [41]) && decide (1 ≤ (p1 :: ps).length)) = true := by simp
        rw [if_pos e1]
        have e2 : (!decide (sgn j = sgn false)) = j := by cases j <;> decide
        rw [e2]
        simp only [List.length_cons, List.length_append, List.length_nil]
        congr 2
        omega
theorem prs_all {t : Tr} (g : t.Good) : prs 30 t.txt = some (t, t.txt.length) := by
  have := prs_txt 30 g (Tr.dep_30 g) [] (fun c h => by cases h)
  rwa [List.append_nil] at this
end J

/-! Joinside: rules for texts; promises of the reader. -/
namespace J
open PySem PySem.Spec PyProof.Rows L2 TL
section
variable {X : Cx} {K : PySem.W.Frag} {w : World}
/-! ### a written dict -/
theorem kIxD (hK : X.K = K := by rfl) (hw : X.w = w := by rfl) : IxR X (rIxD K w) := by subst hK; subst hw; exact ix_kdict
theorem s_ixD {H : Hp} {Q : VK} {p : Addr} {z : Str} {v : V} (h : KDct K w p z v) (q : Q v H) : rIxD K w (.ref p) (.str z) H Q := ⟨p, z, v, rfl, rfl, h, q⟩
/-! ### tuple(text) -/
def signsV (z : Str) : List V := (tl z).map fun c => V.str (tx [c])
def rTupS : List V → Hp → VK → Prop := fun xs H Q => ∃ z : Str, xs = [.str z] ∧ z.length ≤ 100000 ∧ ∀ p, H p = none → Q (.ref p) (upd H p (.tup (signsV z)))
theorem call_tupS (hc : X.calm = true) : CallR X (.type "tuple") rTupS := by
  intro pins s σ H xs us Q I r h
  obtain ⟨z, rfl, hz, q⟩ := h
  obtain ⟨u, rfl, t, rfl⟩ := vals1 r
  refine call_tuple_str (I.ok.hd hc) z t (fun h' tk acc hk hacc => ?_) (Nat.le_trans hz (by decide))
  have I1 : Inv X pins σ H { s with heap := h', toks := tk } := I.kept hk
  have hf : H h'.objs.size = none := I1.hok.fresh (Nat.le_refl _)
  have vals : Vals (signsV z) acc.toList := by
    have len : acc.toList.length = (tl z).length := by rw [Array.length_toList, hacc.1, ← len_tl]; rfl
    have key : ∀ (l : List Nat) (us : List Value), us.length = l.length → (∀ (i : Nat) (u : Value), us[i]? = some u → ∃ (c : Nat) (tk : Tok), l[i]? = some c ∧ u = .str ⟨#[c]⟩ tk) → Vals (l.map fun c => V.str (tx [c])) us := by
      intro l
      induction l with
      | nil => intro us h _; rw [List.length_eq_zero_iff.mp h]; exact .nil
      | cons c l ih =>
        intro us h k
        match us, h with
        | u :: us, h =>
          obtain ⟨c', tk', e1, e2⟩ := k 0 u rfl
          have e1 := Option.some.inj e1
          subst e1
          exact .cons ⟨tk', e2⟩ (ih us (by simpa using h) fun i v hv => by simpa using k (i + 1) v (by simpa using hv))
    refine key _ _ len fun i u hu => ?_
    obtain ⟨c, tk', e1, e2⟩ := hacc.2 i u (by rw [← Array.getElem?_toList]; exact hu)
    exact ⟨c, tk', by unfold tl; rw [Array.getElem?_toList]; exact e1, e2⟩
  refine ⟨.ref h'.objs.size, upd H h'.objs.size (.tup (signsV z)), I1.laid (t' := tk) (fun b u e => Heap.get?_push_of_some _ e) (Nat.le_refl _) ⟨?_, acc.toList, vals, ⟨_, Heap.get?_push_size _ rfl, rfl, 0, by simp⟩⟩, rfl, q _ hf⟩
  unfold signsV
  rw [List.length_map, ← len_tl]
  exact Nat.le_trans hz (by decide)
theorem s_tupS {H : Hp} {Q : VK} {z : Str} (hz : z.length ≤ 100000) (q : ∀ p, H p = none → Q (.ref p) (upd H p (.tup (signsV z)))) : rTupS [.str z] H Q := ⟨z, rfl, hz, q⟩
/-! ### text * n, n 0 or 1 -/
def rMulS : R2 := fun x y H Q => ∃ (z : Str) (b : Bool), x = .str z ∧ y = .int (if b = true then 1 else 0) ∧ z.length ≤ 100 ∧ Q (.str (if b = true then z else tx [])) H
theorem op_mulS : OpR X (binaryOp .Mult) rMulS := by
  intro pins s σ H x y v u Q I rx ry h
  obtain ⟨z, b, rfl, rfl, hz, q⟩ := h
  obtain ⟨t, rfl⟩ := rx
  obtain ⟨t2, rfl⟩ := ry
  cases b with
  | true =>
    refine SB.mul ⟨by decide, fun _ h => absurd h (by simp), fun _ h => absurd h (by simp)⟩ fun t' k => ⟨.str z, H, I.tok _, ⟨t', ?_⟩, q⟩
    rfl
  | false =>
    refine SB.mul ⟨by decide, fun h => absurd (by decide) h, fun h => absurd (by decide) h⟩ fun t' k => ⟨.str (tx []), H, I.tok _, ⟨t', ?_⟩, q⟩
    rfl
theorem s_mulS {H : Hp} {Q : VK} {z : Str} {b : Bool} (hz : z.length ≤ 100) (q : Q (.str (if b = true then z else tx [])) H) : rMulS (.str z) (.int (if b = true then 1 else 0)) H Q := ⟨z, b, rfl, rfl, hz, q⟩
/-! ### slices of texts -/
theorem kSlS : SlR X rSlS := sl_str
theorem s_slS {H : Hp} {Q : VK} {z : Str} {i j : Nat} (hz : z.length ≤ 100000) (hi : i ≤ z.length) (hij : i ≤ j) (q : Q (.str (tx (((tl z).drop i).take (j - i)))) H) : rSlS (.str z) (some (i : Int)) (some (j : Int)) H Q := by
  refine ⟨z, rfl, Nat.le_trans hz (by decide), ?_⟩
  have e : cutS z (some (i : Int)) (some (j : Int)) = tx (((tl z).drop i).take (j - i)) := by
    unfold cutS tx
    rw [HT.sIx_nat, HT.sIx_nat, Nat.min_eq_left hi]
    by_cases c : j ≤ z.length
    · rw [Nat.min_eq_left c]
    · rw [Nat.min_eq_right (by omega)]
      have l : ((tl z).drop i).length = z.length - i := by rw [List.length_drop, ← len_tl]
      show (⟨(((tl z).drop i).take (z.length - i)).toArray⟩ : Str) = _
      rw [List.take_of_length_le (by omega), List.take_of_length_le (by omega)]
  rw [e]
  exact q
/-! ### a try whose body raises nothing -/
theorem ps_tryCalm {body : List Stmt} {h₀ : ExceptHandler} {hs : List ExceptHandler} {pos : Pos} {tb : TS} (hb : ∀ (pn : List (Addr × Obj)) (xe : Value → Shared → Prop), Takes (X.tr pn xe) (fun _ _ _ _ => False) → PSs (X.tr pn xe) body tb) :
    PS X (.Try body (h₀ :: hs) [] [] pos) tb := by
  refine ⟨fun pins s σ H D I h => ?_⟩
  refine wpAny_Try_except ?_
  refine wpAny_mono ((hb (X.pn ++ pins) (fun e s₁ => wpAny (model X.prog X.w) X.A (noteFrame e X.env) (fun _ s₂ => wpAny (model X.prog X.w) X.A (setFlight e none) (fun _ s₃ => wpAny (model X.prog X.w) X.A (handleBy e X.env (h₀ :: hs)) (SP X pins D) X.xe s₃) X.xe s₂) X.xe s₁) (fun u s' xx => ?_)).run [] s σ H D (I.toTry _) h) (fun f s1 hsp => ?_) (fun e s1 he => he)
  · obtain ⟨_, _, _, _, _, _, _, _, _, _, _, _, _, _, _, _, w⟩ := xx
    exact w.elim
  · have ok := I.ok
    match f, hsp with
    | .next, ⟨σ', H', J', q⟩ => exact wpAny_execs_nil ⟨σ', H', J'.ofTry ok, q⟩
    | .brk, ⟨σ', H', J', q⟩ => exact ⟨σ', H', J'.ofTry ok, q⟩
    | .cont, ⟨σ', H', J', q⟩ => exact ⟨σ', H', J'.ofTry ok, q⟩
    | .ret u, ⟨v, σ', H', J', r, q⟩ => exact ⟨v, σ', H', J'.ofTry ok, r, q⟩
end
/-! ### promises -/
def S_txt : TSp := fun t xs H Q => xs = [] ∧ ∀ H', Same H H' → Q (.str (tx t.txt)) H'
def sp_shown : Sp := fun vs H Q _ => ∃ (v : V) (t : Tr), vs = [v] ∧ TAt H v t ∧ t.Good ∧ ∀ H', Same H H' → Q (.str (tx t.txt)) H'
/-- a reader at its spot -/
def RdAt (C : Addr) (H : Hp) (r : Addr) (z : Str) (k : Nat) : Prop := ∃ dx, H r = some (.ins C dx [("text", .str z), ("spot", .int (k : Nat))])
/-- all but one thing stays -/
abbrev But (r : Addr) (H H' : Hp) : Prop := ∀ b u, b ≠ r → H b = some u → H' b = some u
def sp_Reader_init (C : Addr) : Sp := fun vs H Q _ => ∃ (p dx : Addr) (z : Str), vs = [.ref p, .str z] ∧ H p = some (.ins C dx []) ∧ Q .non (upd H p (.ins C dx [("text", .str z), ("spot", .int (0 : Nat))]))
def sp_Reader_ahead (C : Addr) : Sp := fun vs H Q _ => ∃ (r : Addr) (z : Str) (k m : Nat), vs = [.ref r, .int m] ∧ RdAt C H r z k ∧ k ≤ z.length ∧ z.length ≤ 100000 ∧ Q (.str (tx (((tl z).drop k).take m))) H
def sp_Reader_pt (C eT : Addr) : Sp := fun vs H Q E => ∃ (r : Addr) (z : Str) (k : Nat), vs = [.ref r] ∧ RdAt C H r z k ∧ k ≤ z.length ∧ z.length ≤ 100000 ∧
  (∀ t m H', rdPt ((tl z).drop k) = some (.pt t, m) → But r H H' → RdAt C H' r z (k + m) → Q (.int t) H') ∧ (rdPt ((tl z).drop k) = none → ∀ H', But r H H' → E (.ref eT) none H')
def sp_Reader_tree (C eT : Addr) (d : Nat) : Sp := fun vs H Q E => ∃ (r : Addr) (z : Str) (k n : Nat), vs = [.ref r, .int n] ∧ n < d ∧ RdAt C H r z k ∧ k ≤ z.length ∧ z.length ≤ 100000 ∧
  (∀ t m u H', prs n ((tl z).drop k) = some (t, m) → But r H H' → RdAt C H' r z (k + m) → TAt H' u t → Q u H') ∧ (prs n ((tl z).drop k) = none → ∀ H', But r H H' → E (.ref eT) none H')
theorem sp_Reader_tree_zero {C eT : Addr} : ∀ vs H Q E, ¬ sp_Reader_tree C eT 0 vs H Q E := by
  rintro vs H Q E ⟨r, z, k, n, _, h, _⟩
  omega
theorem num_tx (n : Nat) : Str.ofString (toString ((n : Nat) : Int)) = tx (numL n) := ext_tl (by rw [tl_num, tl_tx])
theorem sg_tx : (" | " : Str) = tx (sgn false) ∧ (" & " : Str) = tx (sgn true) := ⟨by decide +kernel, by decide +kernel⟩
theorem par_tx : ("(" : Str) = tx [40] ∧ (")" : Str) = tx [41] ∧ ("" : Str) = tx [] := ⟨by decide +kernel, by decide +kernel, by decide +kernel⟩
theorem kd_sgn {K : PySem.W.Frag} {w : World} {a : Addr} (h0 : KDct K w a "side" (.str " | ")) (h1 : KDct K w a "join" (.str " & ")) (j : Bool) : KDct K w a (wd j) (.str (tx (sgn j))) := by
  cases j with
  | false => rw [← sg_tx.1]; exact h0
  | true => rw [← sg_tx.2]; exact h1
theorem joinL_len (S : List Nat) : ∀ ps : List (List Nat), (joinL S ps).length + S.length ≤ (ps.map (·.length)).sum + ps.length * S.length + S.length
  | [] => by simp [joinL]
  | [p] => by simp [joinL]
  | p :: q :: r => by
    have ih := joinL_len S (q :: r)
    show (p ++ (S ++ joinL S (q :: r))).length + _ ≤ _
    rw [List.length_append, List.length_append, List.map_cons, List.sum_cons, List.length_cons, Nat.add_mul]
    omega
theorem txt_len {t : Tr} : t.Good → t.txt.length + 5 ≤ 7 * t.pts.length := by
  refine Tr.ind (p := fun t => t.Good → t.txt.length + 5 ≤ 7 * t.pts.length) (fun n g => ?_) (fun j ps ih g => ?_) t
  · rw [Tr.Good] at g
    rw [Tr.txt, Tr.pts]
    rcases numL_30 (n := n) (by omega) with ⟨_, e⟩ | ⟨_, e⟩ <;> rw [e] <;> simp
  · have gp := fun p (hp : p ∈ ps) => (good_part g hp).1
    rw [Tr.Good] at g
    have key : ∀ qs : List Tr, (∀ p ∈ qs, p.txt.length + 5 ≤ 7 * p.pts.length) → (((txtL qs).map (sgn j ++ ·)).flatten).length + 2 * qs.length ≤ 7 * (ptsL qs).length := by
      intro qs
      induction qs with
      | nil => intro _; rw [txtL, ptsL]; simp
      | cons q qs ih2 =>
        intro h
        have h1 := h q List.mem_cons_self
        have h2 := ih2 fun p hp => h p (List.mem_cons_of_mem _ hp)
        rw [txtL, ptsL, List.map_cons, List.flatten_cons, List.length_append, List.length_append, List.length_append, sgn_len, List.length_cons]
        omega
    match ps, g.1 with
    | p :: q :: r, _ =>
      have h1 := ih p List.mem_cons_self (gp p List.mem_cons_self)
      have h2 := key (q :: r) fun x hx => ih x (List.mem_cons_of_mem _ hx) (gp x (List.mem_cons_of_mem _ hx))
      rw [Tr.txt, Tr.pts, txtL, joinL_cons, ptsL]
      simp only [List.length_cons, List.length_append, List.length_nil] at h2 ⊢
      omega
theorem txt_210 {t : Tr} (g : t.Good) : t.txt.length ≤ 210 := by
  have := txt_len g
  have := Tr.size g
  omega
theorem strs_of {ps : List Tr} : ∀ {us : List V}, Paired (fun u p => u = V.str (tx (Tr.txt p))) us ps → us = (ps.map fun p => tx p.txt).map V.str := by
  intro us h
  induction h with
  | nil => rfl
  | cons a _ ih => rw [a, ih]; rfl
theorem join_txt (j : Bool) (ps : List Tr) : Txt.join (tx (sgn j)) (ps.map fun p => tx p.txt) = tx (joinL (sgn j) (txtL ps)) := by
  rw [join_eq]
  refine ext_tl ?_
  rw [tl_join, tl_tx, tl_tx, List.map_map, txtL_eq]
  congr 1
theorem s_joinT {K : PySem.W.Frag} {H : Hp} {Q : VK} {p : Addr} {j : Bool} {ps : List Tr} (h : SqL K H p ((ps.map fun p => tx p.txt).map V.str)) (hl : ∀ p ∈ ps, p.txt.length ≤ 210) (l30 : ps.length ≤ 30) (q : Q (.str (tx (joinL (sgn j) (txtL ps)))) H) : rJoin K (.str (tx (sgn j))) [.ref p] H Q := by
  refine ⟨tx (sgn j), p, ps.map fun p => tx p.txt, rfl, rfl, .inl h, ?_, by rw [join_txt]; exact q⟩
  rw [List.map_map, List.length_map, tx_len, sgn_len]
  have : ∀ qs : List Tr, (∀ p ∈ qs, p.txt.length ≤ 210) → ((qs.map ((fun x : Str => x.length) ∘ fun p => tx p.txt)).sum) ≤ 210 * qs.length := by
    intro qs
    induction qs with
    | nil => intro _; simp
    | cons q qs ih =>
      intro h
      have h1 := h q List.mem_cons_self
      have h2 := ih fun p hp => h p (List.mem_cons_of_mem _ hp)
      rw [List.map_cons, List.sum_cons, List.length_cons, Function.comp_apply, tx_len]
      omega
  have := this ps hl
  omega
theorem s_addTx {K : PySem.W.Frag} {H : Hp} {Q : VK} {l m : List Nat} (hz : l.length + m.length ≤ 100000) (q : Q (.str (tx (l ++ m))) H) : rAddA K (.str (tx l)) (.str (tx m)) H Q :=
  s_addS (by rw [tx_len, tx_len]; exact Nat.le_trans hz (by decide)) (by rw [tx_app]; exact q)
section
variable {K : PySem.W.Frag} {C eT r : Addr} {H : Hp} {Q : VK} {E : XK} {z : Str} {k m n : Nat}
theorem u_ahead (h : RdAt C H r z k) (kz : k ≤ z.length) (zz : z.length ≤ 100000) (q : Q (.str (tx (((tl z).drop k).take m))) H) : sp_Reader_ahead C [.ref r, .int m] H Q E := ⟨r, z, k, m, rfl, h, kz, zz, q⟩
theorem u_readPt (h : RdAt C H r z k) (kz : k ≤ z.length) (zz : z.length ≤ 100000) (q : ∀ t m H', rdPt ((tl z).drop k) = some (.pt t, m) → But r H H' → RdAt C H' r z (k + m) → Q (.int t) H') (e : rdPt ((tl z).drop k) = none → ∀ H', But r H H' → E (.ref eT) none H') : sp_Reader_pt C eT [.ref r] H Q E := ⟨r, z, k, rfl, h, kz, zz, q, e⟩
theorem u_readTree {d : Nat} (hd : n < d) (h : RdAt C H r z k) (kz : k ≤ z.length) (zz : z.length ≤ 100000) (q : ∀ t m u H', prs n ((tl z).drop k) = some (t, m) → But r H H' → RdAt C H' r z (k + m) → TAt H' u t → Q u H') (e : prs n ((tl z).drop k) = none → ∀ H', But r H H' → E (.ref eT) none H') : sp_Reader_tree C eT d [.ref r, .int n] H Q E := ⟨r, z, k, n, rfl, hd, h, kz, zz, q, e⟩
theorem But.refl (r : Addr) (H : Hp) : But r H H := fun _ _ _ e => e
theorem But.trans {r : Addr} {H H1 H2 : Hp} (a : But r H H1) (b : But r H1 H2) : But r H H2 := fun x u n e => b x u n (a x u n e)
theorem But.same {r : Addr} {H H1 H2 : Hp} (a : But r H H1) (b : Same H1 H2) : But r H H2 := fun x u n e => b _ _ (a x u n e)
theorem But.new {r p : Addr} {H H1 : Hp} {o : HO} (a : But r H H1) (h : H1 p = none) : But r H (upd H1 p o) := a.same (Same.new h)
theorem But.set {r : Addr} {H : Hp} {o : HO} : But r H (upd H r o) := fun x u n e => up_ne n e
theorem But.tup {r : Addr} {H H1 : Hp} {C dx : Addr} {fs : List (Str × V)} (a : But r H H1) (h : H r = some (.ins C dx fs)) : Tups H H1 := fun b xs e => a b _ (fun z => by rw [z, h] at e; cases e) e
theorem figs_tx : ("0123456789" : Str) = tx [48, 49, 50, 51, 52, 53, 54, 55, 56, 57] := by decide +kernel
theorem tx_dec (l m : List Nat) : decide (tx l = tx m) = decide (l = m) := decide_eq_decide.mpr ⟨tx_inj, fun h => by rw [h]⟩
theorem inV_tx {x : List Nat} : ∀ ls : List (List Nat), inV (.str (tx x)) (ls.map fun l => V.str (tx l)) = decide (x ∈ ls)
  | [] => rfl
  | l :: ls => by
    have ih := inV_tx (x := x) ls
    unfold inV at ih ⊢
    rw [List.map_cons, List.any_cons, ih]
    have e : eqV (.str (tx l)) (.str (tx x)) = decide (x = l) := by
      have : eqV (.str (tx l)) (.str (tx x)) = (tx l == tx x) := rfl
      rw [this, Bool.beq_eq_decide_eq, tx_dec]
      exact decide_eq_decide.mpr eq_comm
    rw [e, ← Bool.decide_or, decide_eq_decide, List.mem_cons]
theorem s_inTx {ls : List (List Nat)} {x : List Nat} {a : Addr} (h : SqL K H a (ls.map fun l => V.str (tx l)) ∨ SqT K H a (ls.map fun l => V.str (tx l))) (q : Q (.bl (decide (x ∈ ls))) H) : rInA K false (.str (tx x)) (.ref a) H Q :=
  s_inF h rfl (by rw [List.all_eq_true]; intro y hy; obtain ⟨l, _, rfl⟩ := List.mem_map.mp hy; rfl) (by rw [inV_tx]; exact q)
/-- whether a figure is ahead -/
theorem fig_in (l : List Nat) : decide (l.take 1 ∈ [[48], [49], [50], [51], [52], [53], [54], [55], [56], [57]]) = (match l with | c :: _ => isD c | [] => false) := by
  cases l with
  | nil => rfl
  | cons c l =>
    rw [show (c :: l).take 1 = [c] from rfl]
    show _ = isD c
    unfold isD
    rw [← Bool.decide_and, decide_eq_decide]
    simp only [List.mem_cons, List.cons.injEq, and_true, List.not_mem_nil, or_false]
    omega
end
end J
namespace J
open PySem PySem.Spec PyProof.Rows L2 TL
theorem s_sfldAug {K : PySem.W.Frag} {C dx r : Addr} {H : Hp} {z : Str} {k m i : Nat} {D : Ends} {σ : Sl} (cl : Cls K C) (no : NoAttr K C "spot") (h : H r = some (.ins C dx [("text", .str z), ("spot", .int (k : Nat))])) (hs : σ[i]? = some (some (.ref r)))
    (q : D.nx σ (upd H r (.ins C dx [("text", .str z), ("spot", .int ((k + m : Nat) : Int))]))) : sFldAug K (tVar i) (tC (.int (m : Int))) rAdd "spot" D σ H :=
  ⟨_, hs, r, C, dx, _, .int (k : Nat), rfl, h, cl, no, rfl, k, m, rfl, rfl, dx, _, h, by show 2 < 1000; decide, by rw [Int.natCast_add] at q; exact q⟩
end J
namespace J
open PySem PySem.Spec PyProof.Rows L2 TL
theorem int_two : (∀ c : Fin 10, PySem.intText? (tx [48 + c.val]) = some (c.val : Int)) ∧ ∀ c : Fin 10, ∀ d : Fin 10, PySem.intText? (tx [48 + c.val, 48 + d.val]) = some ((c.val * 10 + d.val : Nat) : Int) := by decide +kernel
theorem isD_fin {c : Nat} (h : isD c = true) : ∃ d : Fin 10, c = 48 + d.val := by
  unfold isD at h
  rw [Bool.and_eq_true, decide_eq_true_eq, decide_eq_true_eq] at h
  exact ⟨⟨c - 48, by omega⟩, by show c = 48 + (c - 48); omega⟩
theorem digs_int {l : List Nat} (h : digs l ≠ 0) : PySem.intText? (tx (l.take (digs l))) = some ((valD (l.take (digs l)) : Nat) : Int) := by
  match l with
  | [] => exact absurd rfl h
  | [c] =>
    rw [digs] at h ⊢
    by_cases e : isD c = true
    · rw [if_pos e]
      obtain ⟨d, rfl⟩ := isD_fin e
      show PySem.intText? (tx [48 + d.val]) = some ((48 + d.val - 48 : Nat) : Int)
      rw [int_two.1, Nat.add_sub_cancel_left]
    · rw [if_neg e] at h; exact absurd rfl h
  | c :: d :: r =>
    rw [digs] at h ⊢
    by_cases e : isD c = true
    · rw [if_pos e]
      obtain ⟨a, rfl⟩ := isD_fin e
      by_cases e2 : isD d = true
      · rw [if_pos e2]
        obtain ⟨b, rfl⟩ := isD_fin e2
        show PySem.intText? (tx [48 + a.val, 48 + b.val]) = some (((48 + a.val - 48) * 10 + (48 + b.val - 48) : Nat) : Int)
        rw [int_two.2, Nat.add_sub_cancel_left, Nat.add_sub_cancel_left]
      · rw [if_neg e2]
        show PySem.intText? (tx [48 + a.val]) = some ((48 + a.val - 48 : Nat) : Int)
        rw [int_two.1, Nat.add_sub_cancel_left]
    · rw [if_neg e] at h; exact absurd rfl h
theorem digs_step {l : List Nat} {j : Nat} (h : j ≤ digs l) (h2 : j < 2) : (match l.drop j with | c :: _ => isD c | [] => false) = decide (j < digs l) := by
  match l, j with
  | [], 0 => rfl
  | [], 1 => rw [digs] at h; omega
  | [c], 0 => rw [digs]; show isD c = _; split <;> simp_all
  | [c], 1 =>
    show false = _
    rw [digs]
    by_cases e : isD c = true
    · rw [if_pos e]; rfl
    · rw [if_neg e]; rfl
  | c :: d :: r, 0 => rw [digs]; show isD c = _; split; (split <;> simp_all); simp_all
  | c :: d :: r, 1 => rw [digs] at h ⊢; show isD d = _; split; (split <;> simp_all); simp_all
  | _, j + 2 => omega
end J
namespace J
open PySem PySem.Spec PyProof.Rows L2 TL
/-- what the loop of the reader has read -/
structure LoopAt (n : Nat) (s L0 : List Nat) (fuel0 : Nat) (done : List Tr) (c fuel : Nat) : Prop where
  eq : prsL (prs n) s fuel0 L0 = match prsL (prs n) s fuel (L0.drop c) with
    | none => none
    | some (ts, m) => some (done ++ ts, c + m)
  le : c ≤ L0.length
  fu : L0.length < fuel + c
theorem LoopAt.start {n : Nat} {s L0 : List Nat} {fuel0 : Nat} (h : L0.length < fuel0) : LoopAt n s L0 fuel0 [] 0 fuel0 := by
  refine ⟨?_, Nat.zero_le _, by omega⟩
  rw [List.drop_zero]
  cases prsL (prs n) s fuel0 L0 with
  | none => rfl
  | some q => simp
theorem LoopAt.stop {n : Nat} {s L0 : List Nat} {fuel0 : Nat} {done : List Tr} {c fuel : Nat} (h : LoopAt n s L0 fuel0 done c fuel) (no : (decide ((L0.drop c).take 3 = s) && isS s) = false) : prsL (prs n) s fuel0 L0 = some (done, c) := by
  have le := h.le
  have fu := h.fu
  rw [h.eq]
  cases fuel with
  | zero => omega
  | succ f =>
    rw [prsL, no, if_neg Bool.false_ne_true]
    simp
theorem LoopAt.fail {n : Nat} {s L0 : List Nat} {fuel0 : Nat} {done : List Tr} {c fuel : Nat} (h : LoopAt n s L0 fuel0 done c fuel) (yes : (decide ((L0.drop c).take 3 = s) && isS s) = true) (f0 : prs n (L0.drop (c + 3)) = none) : prsL (prs n) s fuel0 L0 = none := by
  have le := h.le
  have fu := h.fu
  rw [h.eq]
  cases fuel with
  | zero => omega
  | succ f =>
    rw [prsL, yes, if_pos rfl, List.drop_drop, f0]
theorem LoopAt.next {n : Nat} {s L0 : List Nat} {fuel0 : Nat} {done : List Tr} {c fuel : Nat} {t : Tr} {m : Nat} (h : LoopAt n s L0 fuel0 done c fuel) (yes : (decide ((L0.drop c).take 3 = s) && isS s) = true) (f0 : prs n (L0.drop (c + 3)) = some (t, m)) : ∃ f, LoopAt n s L0 fuel0 (done ++ [t]) (c + 3 + m) f ∧ f < fuel := by
  have le := h.le
  have fu := h.fu
  have l3 : c + 3 ≤ L0.length := by
    rw [Bool.and_eq_true, decide_eq_true_eq] at yes
    have := take_le yes.1
    rw [isS_len yes.2, List.length_drop] at this
    omega
  have ml := prs_le _ _ _ _ f0
  rw [List.length_drop] at ml
  cases fuel with
  | zero => omega
  | succ f =>
    refine ⟨f, ⟨?_, by omega, by omega⟩, Nat.lt_succ_self _⟩
    rw [h.eq, prsL, yes, if_pos rfl, List.drop_drop, f0]
    dsimp only
    rw [List.drop_drop, show c + (3 + m) = c + 3 + m by omega]
    cases prsL (prs n) s f (L0.drop (c + 3 + m)) with
    | none => rfl
    | some q =>
      simp only [List.append_assoc, List.singleton_append]
      congr 2
      omega
end J
namespace J
open PySem PySem.Spec PyProof.Rows L2 TL
theorem prs_fail1 {n : Nat} {l : List Nat} (c : l.take 1 = [40]) (h : prs n (l.drop 1) = none) : prs (n + 1) l = none := by rw [prs, if_pos c, h]
theorem prs_fail2 {n : Nat} {l : List Nat} {t0 : Tr} {m0 : Nat} (c : l.take 1 = [40]) (h : prs n (l.drop 1) = some (t0, m0)) (h2 : prsL (prs n) ((l.drop (1 + m0)).take 3) l.length (l.drop (1 + m0)) = none) : prs (n + 1) l = none := by
  rw [prs, if_pos c, h]
  simp only [h2]
theorem prs_end {n : Nat} {l : List Nat} {t0 : Tr} {m0 m1 : Nat} {ts : List Tr} (c : l.take 1 = [40]) (h : prs n (l.drop 1) = some (t0, m0)) (h2 : prsL (prs n) ((l.drop (1 + m0)).take 3) l.length (l.drop (1 + m0)) = some (ts, m1)) :
    prs (n + 1) l = if (decide ((l.drop (1 + m0 + m1)).take 1 = [41]) && decide (1 ≤ ts.length)) = true then some (.nd (!decide ((l.drop (1 + m0)).take 3 = sgn false)) (t0 :: ts), 1 + m0 + m1 + 1) else none := by
  rw [prs, if_pos c, h]
  simp only [h2]
theorem tail_le (r : Addr) {H H' : Hp} {o : HO} (B : But r H H') (h : H' r = some o) (n : ∀ xs, o ≠ .tup xs) {u : Addr} {xs : List V} (e : H u = some (.tup xs)) (ne : u ≠ r) : H' u = some (.tup xs) := B u _ ne e
end J

/-! Joinside: the law's own text. -/
namespace J
open PySem PySem.Spec PyProof.Rows L2 TL
theorem s_ixFig {K : PySem.W.Frag} {H : Hp} {Q : VK} {n : Nat} (h : n < 10) (q : Q (.str (tx [48 + n])) H) : rIx K (.str "0123456789") (.int (n : Nat)) H Q := by
  rw [figs_tx]
  refine s_ixS (c := 48 + n) (by rw [tx_len]; decide) (atI_nat ?_) q
  rcases (by omega : n = 0 ∨ n = 1 ∨ n = 2 ∨ n = 3 ∨ n = 4 ∨ n = 5 ∨ n = 6 ∨ n = 7 ∨ n = 8 ∨ n = 9) with e | e | e | e | e | e | e | e | e | e <;> subst e <;> rfl
theorem num_law {n : Nat} (h : n < 100) : (if decide (9 < n) = true then tx [48 + n / 10] else tx []) ++ tx [48 + n % 10] = tx (numL n) := by
  rcases numL_30 h with ⟨c, e⟩ | ⟨c, e⟩
  · rw [e, decide_eq_false (by omega), if_neg Bool.false_ne_true, tx_app, Nat.mod_eq_of_lt c]
    rfl
  · rw [e, decide_eq_true (by omega), if_pos rfl, tx_app]
    rfl
theorem joinL_snoc (S p : List Nat) (ps : List (List Nat)) : joinL S (ps ++ [p]) = joinL S ps ++ (if (!decide (ps = [])) = true then S else []) ++ p := by
  cases ps with
  | nil => rw [decide_eq_true rfl]; simp [joinL]
  | cons q ps =>
    rw [decide_eq_false (by simp), if_pos (show (!false) = true from rfl), List.cons_append, joinL_cons, joinL_cons]
    simp
theorem joinL_take (S : List Nat) (ps : List (List Nat)) (i : Nat) : (joinL S (ps.take i)).length ≤ (joinL S ps).length := by
  cases ps with
  | nil => rw [List.take_nil]; exact Nat.le_refl _
  | cons p q =>
    cases i with
    | zero => rw [List.take_zero]; exact Nat.zero_le _
    | succ i =>
      rw [List.take_succ_cons, joinL_cons, joinL_cons]
      have e : ((q.map (S ++ ·)).flatten).length = (((q.take i).map (S ++ ·)).flatten).length + (((q.drop i).map (S ++ ·)).flatten).length := by
        rw [← List.length_append, ← List.flatten_append, ← List.map_append, List.take_append_drop]
      rw [List.length_append, List.length_append, e]
      omega
theorem joinL_nil {S : List Nat} {ps : List (List Nat)} (h : ∀ p ∈ ps, p ≠ []) : decide (joinL S ps = []) = decide (ps = []) := by
  rw [decide_eq_decide]
  refine ⟨fun e => ?_, fun e => by rw [e]; rfl⟩
  cases ps with
  | nil => rfl
  | cons p q =>
    rw [joinL_cons] at e
    exact absurd (List.append_eq_nil_iff.mp e).1 (h p (.head _))
theorem signs_get {j : Bool} : valV [((.inr "side" : Key), (.str " | " : V)), (.inr "join", .str " & ")] (.inr (wd j)) = some (.str (tx (sgn j))) := by
  rw [words_get]
  cases j with
  | false => rw [← sg_tx.1]; rfl
  | true => rw [← sg_tx.2]; rfl
theorem if_tx (b : Bool) (l : List Nat) : (if b = true then tx l else tx []) = tx (if b = true then l else []) := by cases b <;> rfl
theorem u_newReader {C : Addr} {H : Hp} {E : XK} {z : Str} {Z : Addr → Hp → Prop} (q : ∀ p dx H', Same H H' → H p = none → H' p = some (.ins C dx [("text", .str z), ("spot", .int (0 : Nat))]) → Z p H') :
    ∀ x dx, H x = none → H dx = none → dx ≠ x → sp_Reader_init C [.ref x, .str z] (upd (upd H dx (.own x)) x (.ins C dx [])) (fun v H2 => v = .non ∧ Z x H2) E := by
  intro x dx hx hd ne
  refine ⟨x, dx, z, rfl, upd_same, rfl, ?_⟩
  rw [upd_upd]
  exact q x dx _ (Same.more (Same.new hd) (up_free (Ne.symm ne) hx)) hx upd_same
def sp_read : Sp := fun vs H Q _ => ∃ t : Tr, vs = [.str (tx t.txt)] ∧ t.Good ∧ ∀ u H', Same H H' → TAt H' u t → Q u H'
def sp_k06_right : Sp := fun vs H Q _ => ∃ (v : V) (t : Tr), vs = [v] ∧ TAt H v t ∧ t.Good ∧ ∀ H', Same H H' → Q (.bl true) H'
end J

/-! Joinside, the end: from the law's promise to its row. -/
namespace J
open PySem PySem.Spec PyProof.Rows L2
section
variable {P : Program} {w : World} {K : PySem.W.Frag} {mg mb : Str → Option Value} {k : Nat} {fa a : Addr} {fd : FuncData} {x : Str} {sp : Sp} {s₁ : Shared} {vs : List Value} {ns : List Int}
/-- the law is called from a heap in which nothing is tracked but, perhaps, the script -/
theorem law_from {H : Hp} (kin : K.In s₁.heap) (glob : s₁.heap.Ns mainGlobals mg) (blt : s₁.heap.Ns builtinsNs mb) (same : ∀ x : Str, x ≠ "__name__" → mb x = bootBuiltins x) (nolim : s₁.heap.NoLimit) (still : s₁.gens = #[])
    (ha : s₁.heap.get? a = some { cls := .type "list", data := .seq vs.toArray }) (room : Room k callerA) (F : ∀ base : Heap, K.In base → base.Ns mainGlobals mg → FnG P w K mg base k fa fd [x] sp)
    (bound : ∀ (s : Shared) (u : Value), BindsTo s fd ⟨[u], []⟩ [(x, u)]) (asked : sp [.ref a] H (fun v _ => v = .bl true) fun _ _ _ => False) (only : Only H) (ok : HOk P w H s₁.heap) (inA : ∀ b, H b ≠ none → b = a) (outK : H a ≠ none → K.lookup a = none) :
    codeAny (model P w) callerA (.call (.ref fa) ⟨[.ref a], []⟩) (fun r s' => r = .ok (.ret (.bool true)) ∧ OldK s₁.heap s'.heap ∧ s'.os = s₁.os ∧ AllBare s'.gens) s₁ := by
  have free : ∀ {b : Addr} {o : Obj} {es : Array DictEntry} {ep : Nat}, s₁.heap.get? b = some o → o.data = .dict es ep → H b = none := by
    intro b o es ep at_b isDict
    by_cases q : H b = none
    · exact q
    · have eq := inA b q
      subst eq
      rw [ha] at at_b
      injection at_b with at_b
      subst at_b
      exact nomatch isDict
  have names : ∀ {b : Addr} {m : Str → Option Value}, s₁.heap.Ns b m → (hidT s₁.heap H).Ns b m := by
    rintro b m ⟨o, es, ep, e, d, r⟩
    exact ⟨o, es, ep, hidT_get e (free e d), d, r⟩
  have kinB : K.In (hidT s₁.heap H) := by
    intro b o e
    refine hidT_get (kin b o e) ?_
    by_cases q : H b = none
    · exact q
    · have eq := inA b q
      subst eq
      rw [outK q] at e
      exact nomatch e
  have limB : (hidT s₁.heap H).NoLimit := by
    obtain ⟨mc, h1, h2⟩ := nolim
    exact ⟨mc, names h1, h2⟩
  have md : L2.Mod K mg (hidT s₁.heap H) := L2.Mod.mk kinB (names glob) ⟨mb, names blt, same⟩ limB
  have env : Env0 P w K mg (hidT s₁.heap H) callerA [] s₁ H := by
    constructor
    · rfl
    · exact md
    · exact fun b o e => of_hidT e
    · exact Nat.le_of_eq (hidT_size _ _)
    · trivial
    · exact fun b hb => absurd (show b ∈ ([] : List Addr) from hb) List.not_mem_nil
    · exact ok
    · exact .of_eq still
  refine codeAny_mono ((F _ kinB (names glob)).run callerA [] s₁ H ⟨[.ref a], []⟩ [.ref a] [.ref a] _ _ room rfl env (bound s₁ (.ref a)) (.cons rfl .nil) asked) ?_
  intro res s' got
  match res, got with
  | .error err, got =>
    obtain ⟨_, _, _, _, _, _, _, _, _, _, _, _, z⟩ := got
    exact z.elim
  | .ok .next, got => exact got.elim
  | .ok .brk, got => exact got.elim
  | .ok .cont, got => exact got.elim
  | .ok (.ret u), got =>
    obtain ⟨v, H', os, bare, un, ok', rel, q⟩ := got
    have vt : v = V.bl true := q
    subst vt
    obtain rfl : u = Value.bool true := rel
    refine ⟨rfl, OldK.of_keep ?_, os, bare⟩
    intro b o at_b
    rcases only b with z | ⟨ob, xs, z⟩
    · exact un.keep b o at_b z List.not_mem_nil List.not_mem_nil
    · obtain ⟨e1, _⟩ := ok b _ z
      obtain ⟨e2, _⟩ := ok' b _ (un.frzs b ob _ z)
      rw [at_b] at e1
      injection e1 with e1
      subst e1
      exact e2
theorem law_callG (kin : K.In s₁.heap) (glob : s₁.heap.Ns mainGlobals mg) (blt : s₁.heap.Ns builtinsNs mb) (same : ∀ x : Str, x ≠ "__name__" → mb x = bootBuiltins x) (nolim : s₁.heap.NoLimit) (still : s₁.gens = #[])
    (ha : s₁.heap.get? a = some { cls := .type "list", data := .seq vs.toArray }) (hi : IntsAre vs ns) (hl : ns.length ≤ sizeLine) (room : Room k callerA)
    (F : ∀ base : Heap, K.In base → base.Ns mainGlobals mg → FnG P w K mg base k fa fd [x] sp) (bound : ∀ (s : Shared) (u : Value), BindsTo s fd ⟨[u], []⟩ [(x, u)])
    (asked : ∀ H : Hp, Only H → SqL K H a (ns.map V.int) → sp [.ref a] H (fun v _ => v = .bl true) fun _ _ _ => False) :
    codeAny (model P w) callerA (.call (.ref fa) ⟨[.ref a], []⟩) (fun r s' => r = .ok (.ret (.bool true)) ∧ OldK s₁.heap s'.heap ∧ s'.os = s₁.os ∧ AllBare s'.gens) s₁ := by
  have rel := vals_ints hi
  have len_eq := hi.length
  by_cases hk : K.lookup a = none
  · let H : Hp := fun b => if b = a then some (.frz { cls := .type "list", data := .seq vs.toArray } (.lst (ns.map V.int))) else none
    have at_a : H a = some (.frz { cls := .type "list", data := .seq vs.toArray } (.lst (ns.map V.int))) := if_pos rfl
    have off : ∀ b, b ≠ a → H b = none := fun b q => if_neg q
    have only : Only H := by
      intro b
      by_cases q : b = a
      · subst q
        exact Or.inr ⟨_, _, at_a⟩
      · exact Or.inl (off b q)
    refine law_from (H := H) kin glob blt same nolim still ha room F bound (asked H only (Or.inl (Or.inr ⟨_, at_a⟩))) only ?_ ?_ (fun _ => hk)
    · intro b u z
      by_cases q : b = a
      · subst q
        rw [at_a] at z
        injection z with z
        subst z
        exact ⟨ha, by rw [List.length_map]; exact hl, vs, _, rel, ha⟩
      · rw [off b q] at z
        exact nomatch z
    · intro b z
      by_cases q : b = a
      · exact q
      · exact absurd (off b q) z
  · obtain ⟨o, ho⟩ := Option.ne_none_iff_exists'.mp hk
    have e := kin a o ho
    rw [ha] at e
    injection e with e
    subst e
    have sq : SqL K (fun _ => none) a (ns.map V.int) := Or.inr ⟨_, vs.toArray, _, ho, rfl, rfl, rfl, by rw [List.size_toArray, len_eq]; exact hl, by simpa using rel⟩
    exact law_from (H := fun _ => none) kin glob blt same nolim still ha room F bound (asked _ (fun _ => Or.inl rfl) sq) (fun _ => Or.inl rfl) (fun b u z => nomatch z) (fun b z => absurd rfl z) (fun z => absurd rfl z)
end
theorem walk_ofG {l : PySem.W.OpenLaw} {n k : Nat} {q : Program} {loose : List Str} {XP : (Str → Option Value) → Heap → Prop} {YP : World → Heap → Prop} {d : DefRec} {K : Params → PySem.W.Frag} {sp : PySem.W.Frag → Sp} {x : Str}
    (hn : l.most = some n) (hn2 : n ≤ sizeLine) (hdf : d.params.defaults = []) (room : Room k callerA) (hY : ∀ (w : World) (h : Heap), YP w h → (K w.params).In h)
    (F : ∀ (w : World) (mg : Str → Option Value) (fa : Addr) (h : Heap), (K w.params).In h → h.Ns mainGlobals mg → mg d.name = some (.ref fa) →
      ∃ fd : FuncData, (∀ (s : Shared) (u : Value), BindsTo s fd ⟨[u], []⟩ [(x, u)]) ∧ ∀ base : Heap, (K w.params).In base → base.Ns mainGlobals mg → FnG l.prog w (K w.params) mg base k fa fd [x] (sp (K w.params)))
    (asked : ∀ (K : PySem.W.Frag) (H : Hp) (a : Addr) (ns : List Int), ns.length ≤ n → Only H → SqL K H a (ns.map V.int) → sp K [.ref a] H (fun v _ => v = .bl true) fun _ _ _ => False) :
    PySem.W.WalkO q loose XP YP l.row.toRowW d [] (fun f vs => PySem.call f vs) := by
  apply Att.attach_call hn hdf
  intro w s₀ s₁ mg mb fa o pm cd doc a vs ns G Y ho hd hcd hmg hobj hints hlen hg
  obtain ⟨fd, bound, hF⟩ := F w mg fa _ (hY w _ Y) G.T.g hmg
  exact law_callG (hY w _ Y) G.T.g G.T.b G.T.builtins G.T.nolimit hg hobj hints (Nat.le_trans hlen hn2) room hF bound fun H hO hS => asked _ H a ns hlen hO hS
end J

namespace J
open PySem PySem.Spec L2 TL
/-! own steps, given to the walk under names of their own: jlen (an argument list's length), jh (what stands in the heap), jn (addresses differ), js (one step of a reading) -/
local macro_rules | `(tactic| walk_at "jn") => `(tactic| first
  | assumption | exact Ne.symm (by assumption)
  | (refine' free_ne (by assumption)) | (refine Ne.symm (free_ne (by assumption)))
  | (refine' ne_none2 (by assumption) ?hh; (case hh => walk_at "jh")) | (refine' Ne.symm (ne_none2 (by assumption) ?hh); (case hh => walk_at "jh")))
local macro_rules | `(tactic| walk_at "jh") => `(tactic| with_reducible first
  | assumption
  | exact upd_same
  | (refine' up_old (by assumption) ?hh; (case hh => walk_at "jh"))
  | (refine' up_ne (by walk_at "jn") ?hh; (case hh => walk_at "jh"))
  | (refine' same_at (by assumption) ?hh; (case hh => walk_at "jh"))
  | (refine' up_free (by walk_at "jn") ?hh; (case hh => walk_at "jh"))
  | (refine' free_of (by assumption))
  | (refine' same_free (by assumption) ?hh; (case hh => walk_at "jh"))
  | (refine' SqL.of ?hh; (case hh => walk_at "jh"))
  | (refine' SqT.of ?hh; (case hh => walk_at "jh"))
  | (refine' Same.seq (by assumption) ?hh; (case hh => walk_at "jh"))
  | (refine' Same.sqT (by assumption) ?hh; (case hh => walk_at "jh"))
  | (refine' sqL_upd (by walk_at "jn") ?hh; (case hh => walk_at "jh")))
local macro_rules | `(tactic| walk_at "jt") => `(tactic| with_reducible first
  | assumption
  | exact Th.int _ | exact Th.bl _ | exact Th.str _ | exact Th.non
  | (refine' Th.same (by assumption) ?hh; (case hh => walk_at "jt"))
  | (refine' Th.lst ?hh; (case hh => walk_at "jh")) | (refine' Th.tup ?hh; (case hh => walk_at "jh")) | (refine' Th.dK ?hh; (case hh => walk_at "jh")) | (refine' Th.dT ?hh; (case hh => walk_at "jh")) | (refine' Th.frz ?hh; (case hh => walk_at "jh")))
local macro_rules | `(tactic| walk_at "jw") => `(tactic| with_reducible first
  | assumption
  | (refine' WebAt.same (by assumption) ?hh; (case hh => walk_at "jw"))
  | exact WebAt.flip (by assumption))
local macro_rules | `(tactic| walk_at "jlc") => `(tactic| simp only [L2.wipe, List.set_cons_succ, List.set_cons_zero])
local macro_rules | `(tactic| walk_at "jsz") => `(tactic| first | assumption | decide | (simp only [List.length_cons, List.length_nil, List.length_map, List.length_append, List.length_replicate]; first | omega | decide | (refine Nat.le_trans (?_ : _ ≤ 100000) (by decide); omega)))
local macro_rules | `(tactic| walk_at "js") => `(tactic| first
  | (with_reducible first
    | refine s_seq ?_ | refine s_asg ?_ | refine s_ret ?_ | refine s_ifS ?_ | refine s_op ?_ | refine s_test ?_ | refine s_bl ?_ | refine s_chain ?_ | refine s_cb ?_ | refine s_cons ?_ | refine s_nil ?_ | refine s_c ?_ | refine s_I0 ?_ | refine s_U ?_ | refine s_drop ?_ | refine s_cl ?_ | refine s_un ?_
    | refine s_andV ?_ | refine s_orV ?_ | refine s_notV ?_ | refine s_and ?_ | refine s_or ?_ | refine s_not ?_ | refine s_if ?_ | refine s_blV ?_ | refine s_B ?_ | refine s_yes ?_ | refine s_no ?_ | refine s_next ?_ | refine s_brk ?_ | refine s_cont ?_ | refine s_retN ?_
    | refine s_fld ?_ | refine s_cm ?_ | refine s_mk ?_ | refine s_tup ?_ | refine s_lst ?_ | refine s_augS ?_ | refine s_sfld ?_ | refine s_sl ?_ | refine s_part ?_ | refine s_nopart ?_ | refine s_int ?_ | refine s_gcons ?_ | refine s_gnil ?_ | refine s_gsub ?_ | refine s_ckw ?_ | refine s_addI ?_ | refine s_eqI ?_ | refine s_neI ?_ | refine s_eqS ?_ | refine s_neS ?_ | refine s_lc ?_ | refine s_bm ?_ | refine s_bm0 ?_ | refine s_for ?_ | refine s_rng1 ?_ | refine s_rng2 ?_ | refine s_ilist ?_ | refine s_listRg ?_ | refine s_tryK ?_ | refine s_intB ?_ | refine s_intI ?_ | refine s_m1 ?_ | refine s_m1E ?_ | refine s_ienum ?_ | refine s_itup ?_ | refine s_lset ?_ | refine s_dnew ?_ | refine s_dnewT ?_ | refine s_dget ?_ | refine s_din ?_ | refine s_dput ?_ | refine s_min2 ?_ | refine s_max2 ?_ | refine s_isNN ?_ | refine s_isNr ?_ | refine s_isNi ?_ | refine s_notNN ?_ | refine s_notNr ?_ | refine s_notNi ?_)
  | ((with_reducible refine' s_var ?h ?_); (case h => rfl))
  | ((with_reducible refine' s_name (σ' := ?_) ?h ?_); rotate_left; (dsimp only [List.set_cons_succ, List.set_cons_zero]; exact rfl))
  | ((with_reducible refine' s_I ?h ?_); (case h => first | (show (0 : Int) < _; decide) | (exact ⟨by decide, by decide⟩) | (exact ⟨by omega, by omega, by decide⟩) | (show (0 : Int) ≤ _; omega)))
  | ((with_reducible refine' s_mulI ?h ?_); (case h => first | exact .inl ⟨by omega, by omega⟩ | exact .inr ⟨by omega, by omega⟩))
  | ((with_reducible refine' s_new ?h ?_); (case h => walk_at "jsz"))
  | ((with_reducible refine' s_fldE ?h ?c ?n ?l ?_); (case h => walk_at "jh"); (case c => assumption); (case n => assumption); (case l => first | assumption | rfl))
  | ((with_reducible refine' s_sfldE ?h ?c ?n ?l ?_); (case h => walk_at "jh"); (case c => assumption); (case n => assumption); (case l => first | assumption | (show _ < _; decide)))
  | ((with_reducible refine' s_cm1 ?h ?l ?_); (case h => walk_at "jh"); (case l => first | assumption | rfl))
  | ((with_reducible refine' s_is ?h ?t ?_); (case h => walk_at "jt"); (case t => decide))
  | ((with_reducible refine' s_rng1E ?h ?k ?_); (case h => first | decide | omega); (case k => first | decide | omega))
  | ((with_reducible refine' s_ilistE ?h ?_); (case h => walk_at "jh"))
  | ((with_reducible refine' s_ienumE ?h ?_); (case h => walk_at "jh"))
  | ((with_reducible refine' s_gtup ?h ?l ?_); (case h => walk_at "jh"); (case l => rfl))
  | ((with_reducible refine' s_itupE ?h ?_); (case h => walk_at "jh"))
  | ((with_reducible refine' s_tyL ?h ?_); (case h => walk_at "jh"))
  | ((with_reducible refine' u_is_among ?h ?_); (case h => walk_at "jt"))
  | ((with_reducible refine' u_many ?h ?_); (case h => walk_at "jw"))
  | ((with_reducible refine' u_points_in ?_))
  | ((with_reducible refine' s_then ?h ?_); (case h => rfl))
  | ((with_reducible refine' s_else ?h ?_); (case h => rfl)))
local macro_rules | `(tactic| walk_at "go") => `(tactic| repeat walk_at "js")
local macro_rules | `(tactic| walk_at "j0") => `(tactic| simp only [L2.cxOf, L2.start, List.map_cons, List.map_nil, List.length_cons, List.length_nil, Nat.reduceAdd, Nat.reduceSub, Nat.zero_add, Nat.sub_self, List.replicate_zero, List.replicate_succ, List.replicate, List.cons_append, List.nil_append, List.append_nil])

def topS (i : Nat) : Stmt := PySem.Challenge.pw_joinside_k06_texts.main.body.getD i (.Pass ⟨0, 0, 0, 0⟩)
abbrev st_is_among : Stmt := topS 7
abbrev st_need : Stmt := topS 14
abbrev st_made_by : Stmt := topS 15
abbrev st_tree_by : Stmt := topS 16
abbrev st_text_of : Stmt := topS 21
abbrev st_shown : Stmt := topS 22
abbrev st_read : Stmt := topS 24
abbrev st__law_mixed : Stmt := topS 26
abbrev st__law_number : Stmt := topS 27
abbrev st__law_order : Stmt := topS 28
abbrev st__law_least : Stmt := topS 29
abbrev st__law_told : Stmt := topS 30
abbrev st__law_tree : Stmt := topS 31
abbrev st__law_text : Stmt := topS 34
abbrev st__law_right : Stmt := topS 35
abbrev st_law : Stmt := topS 36
abbrev st_Tree_word : Stmt := inClass (topS 9) 5
abbrev st_Point_init : Stmt := inClass (topS 10) 0
abbrev st_Point_told : Stmt := inClass (topS 10) 1
abbrev st_Point_points : Stmt := inClass (topS 10) 2
abbrev st_Inner_init : Stmt := inClass (topS 11) 0
abbrev st_Inner_told : Stmt := inClass (topS 11) 1
abbrev st_Inner_points : Stmt := inClass (topS 11) 2
abbrev st_Side_word : Stmt := inClass (topS 12) 0
abbrev st_Join_word : Stmt := inClass (topS 13) 0
abbrev st_Reader_init : Stmt := inClass (topS 23) 0
abbrev st_Reader_ahead : Stmt := inClass (topS 23) 1
abbrev st_Reader_read_point : Stmt := inClass (topS 23) 2
abbrev st_Reader_tree : Stmt := inClass (topS 23) 3
theorem sc_is_among : FnScope ["thing", "least", "most"] ["thing", "least", "most"] (defScope st_is_among) := ⟨rfl, rfl, rfl, by decide +kernel, rfl, by decide +kernel, by decide +kernel⟩
theorem sc_need : FnScope ["good"] ["good"] (defScope st_need) := ⟨rfl, rfl, rfl, by decide +kernel, rfl, by decide +kernel, by decide +kernel⟩
theorem sc_made_by : FnScope ["told", "left", "parts", "firsts", "found", "points", "one"] ["told", "left"] (defScope st_made_by) := ⟨rfl, rfl, rfl, by decide +kernel, rfl, by decide +kernel, by decide +kernel⟩
theorem sc_tree_by : FnScope ["told"] ["told"] (defScope st_tree_by) := ⟨rfl, rfl, rfl, by decide +kernel, rfl, by decide +kernel, by decide +kernel⟩
theorem sc_text_of : FnScope ["told", "one"] ["told"] (defScope st_text_of) := ⟨rfl, rfl, rfl, by decide +kernel, rfl, by decide +kernel, by decide +kernel⟩
theorem sc_shown : FnScope ["told"] ["told"] (defScope st_shown) := ⟨rfl, rfl, rfl, by decide +kernel, rfl, by decide +kernel, by decide +kernel⟩
theorem sc_read : FnScope ["text", "reader", "told", "again"] ["text"] (defScope st_read) := ⟨rfl, rfl, rfl, by decide +kernel, rfl, by decide +kernel, by decide +kernel⟩
theorem sc__law_mixed : FnScope ["_law_cell", "_law_k", "_law_number_here"] ["_law_cell", "_law_k"] (defScope st__law_mixed) := ⟨rfl, rfl, rfl, by decide +kernel, rfl, by decide +kernel, by decide +kernel⟩
theorem sc__law_number : FnScope ["_law_script", "_law_k", "_law_cell"] ["_law_script", "_law_k"] (defScope st__law_number) := ⟨rfl, rfl, rfl, by decide +kernel, rfl, by decide +kernel, by decide +kernel⟩
theorem sc__law_order : FnScope ["_law_many", "_law_number_here", "_law_left", "_law_found", "_law_k"] ["_law_many", "_law_number_here"] (defScope st__law_order) := ⟨rfl, rfl, rfl, by decide +kernel, rfl, by decide +kernel, by decide +kernel⟩
theorem sc__law_least : FnScope ["_law_told_here"] ["_law_told_here"] (defScope st__law_least) := ⟨rfl, rfl, rfl, by decide +kernel, rfl, by decide +kernel, by decide +kernel⟩
theorem sc__law_told : FnScope ["_law_nodes", "_law_at", "_law_names", "_law_node", "_law_parts", "_law_piece"] ["_law_nodes", "_law_at", "_law_names"] (defScope st__law_told) := ⟨rfl, rfl, rfl, by decide +kernel, rfl, by decide +kernel, by decide +kernel⟩
theorem sc__law_tree : FnScope ["_law_script", "_law_most", "_law_names", "_law_nodes", "_law_above", "_law_leaves", "_law_k", "_law_cell", "_law_old", "_law_word"] ["_law_script", "_law_most", "_law_names"] (defScope st__law_tree) := ⟨rfl, rfl, rfl, by decide +kernel, rfl, by decide +kernel, by decide +kernel⟩
theorem sc__law_text : FnScope ["_law_told_here", "_law_sign", "_law_text_here", "_law_piece"] ["_law_told_here"] (defScope st__law_text) := ⟨rfl, rfl, rfl, by decide +kernel, rfl, by decide +kernel, by decide +kernel⟩
theorem sc__law_right : FnScope ["_law_told_here", "_law_text_here", "_law_found"] ["_law_told_here"] (defScope st__law_right) := ⟨rfl, rfl, rfl, by decide +kernel, rfl, by decide +kernel, by decide +kernel⟩
theorem sc_law : FnScope ["_law_script", "_law_first", "_law_names", "_law_second", "_law_told_here", "_law_piece"] ["_law_script"] (defScope st_law) := ⟨rfl, rfl, rfl, by decide +kernel, rfl, by decide +kernel, by decide +kernel⟩
theorem sc_Tree_word : FnScope ["self"] ["self"] (defScope st_Tree_word) := ⟨rfl, rfl, rfl, by decide +kernel, rfl, by decide +kernel, by decide +kernel⟩
theorem sc_Point_init : FnScope ["self", "number"] ["self", "number"] (defScope st_Point_init) := ⟨rfl, rfl, rfl, by decide +kernel, rfl, by decide +kernel, by decide +kernel⟩
theorem sc_Point_told : FnScope ["self"] ["self"] (defScope st_Point_told) := ⟨rfl, rfl, rfl, by decide +kernel, rfl, by decide +kernel, by decide +kernel⟩
theorem sc_Point_points : FnScope ["self"] ["self"] (defScope st_Point_points) := ⟨rfl, rfl, rfl, by decide +kernel, rfl, by decide +kernel, by decide +kernel⟩
theorem sc_Inner_init : FnScope ["self", "parts"] ["self", "parts"] (defScope st_Inner_init) := ⟨rfl, rfl, rfl, by decide +kernel, rfl, by decide +kernel, by decide +kernel⟩
theorem sc_Inner_told : FnScope ["self", "part"] ["self"] (defScope st_Inner_told) := ⟨rfl, rfl, rfl, by decide +kernel, rfl, by decide +kernel, by decide +kernel⟩
theorem sc_Inner_points : FnScope ["self", "found", "part"] ["self"] (defScope st_Inner_points) := ⟨rfl, rfl, rfl, by decide +kernel, rfl, by decide +kernel, by decide +kernel⟩
theorem sc_Side_word : FnScope ["self"] ["self"] (defScope st_Side_word) := ⟨rfl, rfl, rfl, by decide +kernel, rfl, by decide +kernel, by decide +kernel⟩
theorem sc_Join_word : FnScope ["self"] ["self"] (defScope st_Join_word) := ⟨rfl, rfl, rfl, by decide +kernel, rfl, by decide +kernel, by decide +kernel⟩
theorem sc_Reader_init : FnScope ["self", "text"] ["self", "text"] (defScope st_Reader_init) := ⟨rfl, rfl, rfl, by decide +kernel, rfl, by decide +kernel, by decide +kernel⟩
theorem sc_Reader_ahead : FnScope ["self", "many"] ["self", "many"] (defScope st_Reader_ahead) := ⟨rfl, rfl, rfl, by decide +kernel, rfl, by decide +kernel, by decide +kernel⟩
theorem sc_Reader_read_point : FnScope ["self", "begin"] ["self"] (defScope st_Reader_read_point) := ⟨rfl, rfl, rfl, by decide +kernel, rfl, by decide +kernel, by decide +kernel⟩
theorem sc_Reader_tree : FnScope ["self", "left", "parts", "sign"] ["self", "left"] (defScope st_Reader_tree) := ⟨rfl, rfl, rfl, by decide +kernel, rfl, by decide +kernel, by decide +kernel⟩
structure Txt0 (w : World) (K : PySem.W.Frag) (mg : Str → Option Value) where
  a_is_among : Addr
  a_need : Addr
  a_made_by : Addr
  a_tree_by : Addr
  a_text_of : Addr
  a_shown : Addr
  a_read : Addr
  a__law_mixed : Addr
  a__law_number : Addr
  a__law_order : Addr
  a__law_least : Addr
  a__law_told : Addr
  a__law_tree : Addr
  a__law_text : Addr
  a__law_right : Addr
  a_law : Addr
  a_Tree_word : Addr
  a_Point_init : Addr
  a_Point_told : Addr
  a_Point_points : Addr
  a_Inner_init : Addr
  a_Inner_told : Addr
  a_Inner_points : Addr
  a_Side_word : Addr
  a_Join_word : Addr
  a_Reader_init : Addr
  a_Reader_ahead : Addr
  a_Reader_read_point : Addr
  a_Reader_tree : Addr
  c_Point : Addr
  c_Side : Addr
  c_Join : Addr
  c_Reader : Addr
  c_BadTree : Addr
  c_BadText : Addr
  a_SIGNS : Addr
  d_is_among : FuncData
  F_is_among : Fun K "is_among" "is_among" st_is_among a_is_among d_is_among
  b_is_among : Binds K d_is_among ["thing", "least", "most"] []
  g_is_among : mg "is_among" = some (.ref a_is_among)
  d_need : FuncData
  F_need : Fun K "need" "need" st_need a_need d_need
  b_need : Binds K d_need ["good"] []
  g_need : mg "need" = some (.ref a_need)
  d_made_by : FuncData
  F_made_by : Fun K "made_by" "made_by" st_made_by a_made_by d_made_by
  b_made_by : Binds K d_made_by ["told", "left"] []
  g_made_by : mg "made_by" = some (.ref a_made_by)
  d_tree_by : FuncData
  F_tree_by : Fun K "tree_by" "tree_by" st_tree_by a_tree_by d_tree_by
  b_tree_by : Binds K d_tree_by ["told"] []
  g_tree_by : mg "tree_by" = some (.ref a_tree_by)
  d_text_of : FuncData
  F_text_of : Fun K "text_of" "text_of" st_text_of a_text_of d_text_of
  b_text_of : Binds K d_text_of ["told"] []
  g_text_of : mg "text_of" = some (.ref a_text_of)
  d_shown : FuncData
  F_shown : Fun K "shown" "shown" st_shown a_shown d_shown
  b_shown : Binds K d_shown ["told"] []
  g_shown : mg "shown" = some (.ref a_shown)
  d_read : FuncData
  F_read : Fun K "read" "read" st_read a_read d_read
  b_read : Binds K d_read ["text"] []
  g_read : mg "read" = some (.ref a_read)
  d__law_mixed : FuncData
  F__law_mixed : Fun K "_law_mixed" "_law_mixed" st__law_mixed a__law_mixed d__law_mixed
  b__law_mixed : Binds K d__law_mixed ["_law_cell", "_law_k"] []
  g__law_mixed : mg "_law_mixed" = some (.ref a__law_mixed)
  d__law_number : FuncData
  F__law_number : Fun K "_law_number" "_law_number" st__law_number a__law_number d__law_number
  b__law_number : Binds K d__law_number ["_law_script", "_law_k"] []
  g__law_number : mg "_law_number" = some (.ref a__law_number)
  d__law_order : FuncData
  F__law_order : Fun K "_law_order" "_law_order" st__law_order a__law_order d__law_order
  b__law_order : Binds K d__law_order ["_law_many", "_law_number_here"] []
  g__law_order : mg "_law_order" = some (.ref a__law_order)
  d__law_least : FuncData
  F__law_least : Fun K "_law_least" "_law_least" st__law_least a__law_least d__law_least
  b__law_least : Binds K d__law_least ["_law_told_here"] []
  g__law_least : mg "_law_least" = some (.ref a__law_least)
  d__law_told : FuncData
  F__law_told : Fun K "_law_told" "_law_told" st__law_told a__law_told d__law_told
  b__law_told : Binds K d__law_told ["_law_nodes", "_law_at", "_law_names"] []
  g__law_told : mg "_law_told" = some (.ref a__law_told)
  d__law_tree : FuncData
  F__law_tree : Fun K "_law_tree" "_law_tree" st__law_tree a__law_tree d__law_tree
  b__law_tree : Binds K d__law_tree ["_law_script", "_law_most", "_law_names"] []
  g__law_tree : mg "_law_tree" = some (.ref a__law_tree)
  d__law_text : FuncData
  F__law_text : Fun K "_law_text" "_law_text" st__law_text a__law_text d__law_text
  b__law_text : Binds K d__law_text ["_law_told_here"] []
  g__law_text : mg "_law_text" = some (.ref a__law_text)
  d__law_right : FuncData
  F__law_right : Fun K "_law_right" "_law_right" st__law_right a__law_right d__law_right
  b__law_right : Binds K d__law_right ["_law_told_here"] []
  g__law_right : mg "_law_right" = some (.ref a__law_right)
  d_law : FuncData
  F_law : Fun K "law" "law" st_law a_law d_law
  b_law : Binds K d_law ["_law_script"] []
  g_law : mg "law" = some (.ref a_law)
  d_Tree_word : FuncData
  F_Tree_word : Fun K "word" "Tree.word" st_Tree_word a_Tree_word d_Tree_word
  b_Tree_word : Binds K d_Tree_word ["self"] []
  d_Point_init : FuncData
  F_Point_init : Fun K "__init__" "Point.__init__" st_Point_init a_Point_init d_Point_init
  b_Point_init : Binds K d_Point_init ["self", "number"] []
  d_Point_told : FuncData
  F_Point_told : Fun K "told" "Point.told" st_Point_told a_Point_told d_Point_told
  b_Point_told : Binds K d_Point_told ["self"] []
  d_Point_points : FuncData
  F_Point_points : Fun K "points" "Point.points" st_Point_points a_Point_points d_Point_points
  b_Point_points : Binds K d_Point_points ["self"] []
  d_Inner_init : FuncData
  F_Inner_init : Fun K "__init__" "Inner.__init__" st_Inner_init a_Inner_init d_Inner_init
  b_Inner_init : Binds K d_Inner_init ["self", "parts"] []
  d_Inner_told : FuncData
  F_Inner_told : Fun K "told" "Inner.told" st_Inner_told a_Inner_told d_Inner_told
  b_Inner_told : Binds K d_Inner_told ["self"] []
  d_Inner_points : FuncData
  F_Inner_points : Fun K "points" "Inner.points" st_Inner_points a_Inner_points d_Inner_points
  b_Inner_points : Binds K d_Inner_points ["self"] []
  d_Side_word : FuncData
  F_Side_word : Fun K "word" "Side.word" st_Side_word a_Side_word d_Side_word
  b_Side_word : Binds K d_Side_word ["self"] []
  d_Join_word : FuncData
  F_Join_word : Fun K "word" "Join.word" st_Join_word a_Join_word d_Join_word
  b_Join_word : Binds K d_Join_word ["self"] []
  d_Reader_init : FuncData
  F_Reader_init : Fun K "__init__" "Reader.__init__" st_Reader_init a_Reader_init d_Reader_init
  b_Reader_init : Binds K d_Reader_init ["self", "text"] []
  d_Reader_ahead : FuncData
  F_Reader_ahead : Fun K "ahead" "Reader.ahead" st_Reader_ahead a_Reader_ahead d_Reader_ahead
  b_Reader_ahead : Binds K d_Reader_ahead ["self", "many"] []
  d_Reader_read_point : FuncData
  F_Reader_read_point : Fun K "read_point" "Reader.read_point" st_Reader_read_point a_Reader_read_point d_Reader_read_point
  b_Reader_read_point : Binds K d_Reader_read_point ["self"] []
  d_Reader_tree : FuncData
  F_Reader_tree : Fun K "tree" "Reader.tree" st_Reader_tree a_Reader_tree d_Reader_tree
  b_Reader_tree : Binds K d_Reader_tree ["self", "left"] []
  cl_Point : Cls K c_Point
  g_Point : mg "Point" = some (.ref c_Point)
  mk_Point : Mk K c_Point a_Point_init
  n_Point_number : NoAttr K c_Point "number"
  m_Point_told : Meth K c_Point "told" a_Point_told
  m_Point_points : Meth K c_Point "points" a_Point_points
  m_Point_word : Meth K c_Point "word" a_Tree_word
  cl_Side : Cls K c_Side
  g_Side : mg "Side" = some (.ref c_Side)
  mk_Side : Mk K c_Side a_Inner_init
  n_Side_parts : NoAttr K c_Side "parts"
  m_Side_word : Meth K c_Side "word" a_Side_word
  m_Side_told : Meth K c_Side "told" a_Inner_told
  m_Side_points : Meth K c_Side "points" a_Inner_points
  cl_Join : Cls K c_Join
  g_Join : mg "Join" = some (.ref c_Join)
  mk_Join : Mk K c_Join a_Inner_init
  n_Join_parts : NoAttr K c_Join "parts"
  m_Join_word : Meth K c_Join "word" a_Join_word
  m_Join_told : Meth K c_Join "told" a_Inner_told
  m_Join_points : Meth K c_Join "points" a_Inner_points
  cl_Reader : Cls K c_Reader
  g_Reader : mg "Reader" = some (.ref c_Reader)
  mk_Reader : Mk K c_Reader a_Reader_init
  n_Reader_text : NoAttr K c_Reader "text"
  n_Reader_spot : NoAttr K c_Reader "spot"
  m_Reader_ahead : Meth K c_Reader "ahead" a_Reader_ahead
  m_Reader_read_point : Meth K c_Reader "read_point" a_Reader_read_point
  m_Reader_tree : Meth K c_Reader "tree" a_Reader_tree
  g_BadTree : mg "BadTree" = some (.ref c_BadTree)
  be_BadTree : PySem.W.subIn K (.ref c_BadTree) (.type "BaseException") = some true
  te_BadTree : PySem.W.typeIn K (.ref c_BadTree) = some (.type "type")
  is_BadTree : (PySem.W.clsIn K c_BadTree).isSome = true
  hx_BadTree : PySem.W.hasDictIn K c_BadTree = true
  sb_BadTree_BadTree : PySem.W.subIn K (.ref c_BadTree) (.ref c_BadTree) = some true
  x_BadTree : PySem.W.excIn K c_BadTree [.type "ValueError", .type "Exception", .type "BaseException", .type "object"] "ValueError.__new__" = true
  kp_BadTree : PySem.W.keepIn K (.ref c_BadTree) = true
  ex_BadTree : ExcC K c_BadTree
  sb_BadTree_BadText : PySem.W.subIn K (.ref c_BadTree) (.ref c_BadText) = some false
  sv_BadTree : PySem.W.subIn K (.ref c_BadTree) (.type "ValueError") = some true
  g_BadText : mg "BadText" = some (.ref c_BadText)
  be_BadText : PySem.W.subIn K (.ref c_BadText) (.type "BaseException") = some true
  te_BadText : PySem.W.typeIn K (.ref c_BadText) = some (.type "type")
  is_BadText : (PySem.W.clsIn K c_BadText).isSome = true
  hx_BadText : PySem.W.hasDictIn K c_BadText = true
  sb_BadText_BadText : PySem.W.subIn K (.ref c_BadText) (.ref c_BadText) = some true
  x_BadText : PySem.W.excIn K c_BadText [.type "ValueError", .type "Exception", .type "BaseException", .type "object"] "ValueError.__new__" = true
  kp_BadText : PySem.W.keepIn K (.ref c_BadText) = true
  ex_BadText : ExcC K c_BadText
  sb_BadText_BadTree : PySem.W.subIn K (.ref c_BadText) (.ref c_BadTree) = some false
  sv_BadText : PySem.W.subIn K (.ref c_BadText) (.type "ValueError") = some true
  t_MOST_POINTS : Tok
  g_MOST_POINTS : mg "MOST_POINTS" = some (.int 30 t_MOST_POINTS)
  g_SIGNS : mg "SIGNS" = some (.ref a_SIGNS)
  kd_SIGNS_0 : KDct K w a_SIGNS "side" (.str " | ")
  kd_SIGNS_1 : KDct K w a_SIGNS "join" (.str " & ")
  t_FIGURES : Tok
  g_FIGURES : mg "FIGURES" = some (.str "0123456789" t_FIGURES)
  t_LONGEST : Tok
  g_LONGEST : mg "LONGEST" = some (.int 4000 t_LONGEST)
  z_all : mg "all" = none
  z_bool : mg "bool" = none
  z_int : mg "int" = none
  z_isinstance : mg "isinstance" = none
  z_len : mg "len" = none
  z_list : mg "list" = none
  z_min : mg "min" = none
  z_range : mg "range" = none
  z_repr : mg "repr" = none
  z_set : mg "set" = none
  z_sorted : mg "sorted" = none
  z_str : mg "str" = none
  z_tuple : mg "tuple" = none
abbrev Txt0.tc {w : World} {K : PySem.W.Frag} {mg : Str → Option Value} (T : Txt0 w K mg) : TC := ⟨T.c_Point, T.c_Side, T.c_Join⟩
section
variable {P : Program} {w : World} {K : PySem.W.Frag} {mg : Str → Option Value} {base : Heap}

-- _law_mixed
theorem ok__law_mixed (T : Txt0 w K mg) : FnG P w K mg base 1 T.a__law_mixed T.d__law_mixed ["_law_cell", "_law_k"] sp__law_mixed := by
  refine okG T.F__law_mixed sc__law_mixed (fun vs H Q E h => ?_) (fun cdv A outer s H vs Q E hr hG h => ?_)
  · (first | (obtain ⟨rfl, _⟩ := h; rfl) | (obtain ⟨_, rfl, _⟩ := h; rfl) | (obtain ⟨_, _, rfl, _⟩ := h; rfl) | (obtain ⟨_, _, _, rfl, _⟩ := h; rfl) | (obtain ⟨_, _, _, _, rfl, _⟩ := h; rfl) | (obtain ⟨_, _, _, _, _, rfl, _⟩ := h; rfl) | (obtain ⟨_, _, _, _, _, _, rfl, _⟩ := h; rfl) | (obtain ⟨_, _, _, _, _, _, _, rfl, _⟩ := h; rfl) | (obtain ⟨_, _, _, _, _, _, _, _, rfl, _⟩ := h; rfl) | (obtain ⟨_, _, _, _, _, _, _, _, _, rfl, _⟩ := h; rfl) | (obtain ⟨_, _, _, _, _, _, _, _, _, _, rfl, _⟩ := h; rfl) | (obtain ⟨_, _, _, _, _, _, _, _, _, _, _, rfl, _⟩ := h; rfl) | (obtain ⟨_, _, _, _, _, _, _, _, _, _, _, _, rfl, _⟩ := h; rfl))
  · have sc := sc__law_mixed
    have hu := hr.units
    have hu1 := hu_of hr
    have hu65 := room65 hr
    have hu2 := room200 hr
    obtain ⟨c, k, rfl, h1, h2, q⟩ := h
    refine ⟨_, (pss_cons (ps_set (i := 2) sc.nd rfl (by first | exact Or.inl rfl | exact Or.inr rfl) (pe_op op_mod (pe_op (kMul (K := K)) (pe_op (kAdd (K := K)) (pe_op (kAdd (K := K)) (pe_op (kAdd (K := K)) (pe_op op_mod (pv 0) pe_int) (pe_op (kMul (K := K)) (pe_op (kMul (K := K)) pe_int (pv 1)) (pv 1))) (pe_op (kMul (K := K)) pe_int (pv 1))) pe_int) pe_int) pe_int))
    (pss_one (ps_ret (pe_op op_fdiv (pe_op op_mod (pe_op (kMul (K := K)) (pv 2) (pe_op (kAdd (K := K)) (pe_op op_mod (pv 2) pe_int) pe_int)) pe_int) pe_int)))), ?_⟩
    walk_at "j0"
    walk_at "go"
    rw [mixN_eq] at q
    exact q
-- _law_number
theorem ok__law_number (T : Txt0 w K mg) : FnG P w K mg base 2 T.a__law_number T.d__law_number ["_law_script", "_law_k"] (sp__law_number K) := by
  refine okG T.F__law_number sc__law_number (fun vs H Q E h => ?_) (fun cdv A outer s H vs Q E hr hG h => ?_)
  · (first | (obtain ⟨rfl, _⟩ := h; rfl) | (obtain ⟨_, rfl, _⟩ := h; rfl) | (obtain ⟨_, _, rfl, _⟩ := h; rfl) | (obtain ⟨_, _, _, rfl, _⟩ := h; rfl) | (obtain ⟨_, _, _, _, rfl, _⟩ := h; rfl) | (obtain ⟨_, _, _, _, _, rfl, _⟩ := h; rfl) | (obtain ⟨_, _, _, _, _, _, rfl, _⟩ := h; rfl) | (obtain ⟨_, _, _, _, _, _, _, rfl, _⟩ := h; rfl) | (obtain ⟨_, _, _, _, _, _, _, _, rfl, _⟩ := h; rfl) | (obtain ⟨_, _, _, _, _, _, _, _, _, rfl, _⟩ := h; rfl) | (obtain ⟨_, _, _, _, _, _, _, _, _, _, rfl, _⟩ := h; rfl) | (obtain ⟨_, _, _, _, _, _, _, _, _, _, _, rfl, _⟩ := h; rfl) | (obtain ⟨_, _, _, _, _, _, _, _, _, _, _, _, rfl, _⟩ := h; rfl))
  · have sc := sc__law_number
    have hu := hr.units
    have hu1 := hu_of hr
    have hu65 := room65 hr
    have hu2 := room200 hr
    obtain ⟨a, ns, k, rfl, hS, hk, q⟩ := h
    refine ⟨_, (pss_cons (ps_set (i := 2) sc.nd rfl (by first | exact Or.inl rfl | exact Or.inr rfl) pe_int)
    (pss_cons (ps_if (pt_cmpR op_gt (pe_callB (kLen (K := K)) (by rfl) T.z_len bt_len (pa_cons (pv 0) pa_nil)) pe_int (nomark _)) (pss_one (ps_set (i := 2) sc.nd rfl (by first | exact Or.inl rfl | exact Or.inr rfl) (pe_ix (kIx (K := K)) (pv 0) (pe_op op_mod (pv 1) (pe_callB (kLen (K := K)) (by rfl) T.z_len bt_len (pa_cons (pv 0) pa_nil))) (fun _ _ => rfl)))) pss_nil)
    (pss_one (ps_ret (pe_cl (ok__law_mixed T) (hr.mono (by decide)) hG (by rfl) T.g__law_mixed T.F__law_mixed.kp T.b__law_mixed (takes_of rfl rfl rfl rfl) (pa_cons (pv 2) (pa_cons (pv 1) pa_nil))))))), ?_⟩
    walk_at "j0"
    walk_at "go"
    refine s_lenL (.inl hS) ?_
    walk_at "go"
    rw [List.length_map]
    refine s_dec (fun b => ?_) (fun b => ?_)
    · have ne : ns ≠ [] := fun z => by rw [z] at b; simp at b
      have hl : 0 < ns.length := List.length_pos_iff.mpr ne
      have hm : k % ns.length < ns.length := Nat.mod_lt _ hl
      walk_at "go"
      refine s_lenL (.inl hS) ?_
      walk_at "go"
      rw [List.length_map]
      refine s_I (by show (0 : Int) < _; omega) ?_
      have e1 : (k : Int) % (ns.length : Int) = ((k % ns.length : Nat) : Int) := by omega
      rw [e1]
      have e2 : (ns.map V.int)[k % ns.length]? = some (V.int (numC ns k)) := by
        unfold numC
        rw [if_neg ne, List.getElem?_map, List.getElem?_eq_getElem hm, List.getD_eq_getElem?_getD, List.getElem?_eq_getElem hm]
        rfl
      refine s_ixL hS (atI_nat e2) ?_
      walk_at "go"
      exact u__law_mixed (by omega) (by omega) q
    · have e : ns = [] := List.eq_nil_of_length_eq_zero (by omega)
      walk_at "go"
      refine u__law_mixed (by omega) (by omega) ?_
      have e2 : numN ns k = mixN 0 k := by unfold numN numC; rw [if_pos e]
      rw [e2] at q
      exact q
-- _law_order
theorem ok__law_order (T : Txt0 w K mg) : FnG P w K mg base 2 T.a__law_order T.d__law_order ["_law_many", "_law_number_here"] sp__law_order := by
  refine okG T.F__law_order sc__law_order (fun vs H Q E h => ?_) (fun cdv A outer s H vs Q E hr hG h => ?_)
  · (first | (obtain ⟨rfl, _⟩ := h; rfl) | (obtain ⟨_, rfl, _⟩ := h; rfl) | (obtain ⟨_, _, rfl, _⟩ := h; rfl) | (obtain ⟨_, _, _, rfl, _⟩ := h; rfl) | (obtain ⟨_, _, _, _, rfl, _⟩ := h; rfl) | (obtain ⟨_, _, _, _, _, rfl, _⟩ := h; rfl) | (obtain ⟨_, _, _, _, _, _, rfl, _⟩ := h; rfl) | (obtain ⟨_, _, _, _, _, _, _, rfl, _⟩ := h; rfl) | (obtain ⟨_, _, _, _, _, _, _, _, rfl, _⟩ := h; rfl) | (obtain ⟨_, _, _, _, _, _, _, _, _, rfl, _⟩ := h; rfl) | (obtain ⟨_, _, _, _, _, _, _, _, _, _, rfl, _⟩ := h; rfl) | (obtain ⟨_, _, _, _, _, _, _, _, _, _, _, rfl, _⟩ := h; rfl) | (obtain ⟨_, _, _, _, _, _, _, _, _, _, _, _, rfl, _⟩ := h; rfl))
  · have sc := sc__law_order
    have hu := hr.units
    have hu1 := hu_of hr
    have hu65 := room65 hr
    have hu2 := room200 hr
    obtain ⟨n, num, rfl, hn, k⟩ := h
    refine ⟨_, (pss_cons (ps_set (i := 2) sc.nd rfl (by first | exact Or.inl rfl | exact Or.inr rfl) (pe_listRg rfl (by rfl) T.z_list (prg_1 (by rfl) T.z_range (pv 0))))
    (pss_cons (ps_set (i := 3) sc.nd rfl (by first | exact Or.inl rfl | exact Or.inr rfl) (pe_lst pa_nil))
    (pss_cons (ps_for (passes_of rfl) rfl (pi_range1 (by rfl) T.z_range (pa_cons (pv 0) pa_nil)) (pg_name (i := 4) sc.nd rfl (by first | exact Or.inl rfl | exact Or.inr rfl))
    (pss_cons (ps_expr (pe_bm PySem.F.plainAttrs_list PySem.F.slot_list_append PySem.F.type_list_append mt_append (pv 3) (pa_cons (pe_bm PySem.F.plainAttrs_list PySem.F.slot_list_pop PySem.F.type_list_pop mt_popAt (pv 2) (pa_cons (pe_op op_mod (pv 1) (pe_callB (kLen (K := K)) (by rfl) T.z_len bt_len (pa_cons (pv 2) pa_nil))) pa_nil)) pa_nil)))
    (pss_one (ps_set (i := 1) sc.nd rfl (by first | exact Or.inl rfl | exact Or.inr rfl) (pe_cl (ok__law_mixed T) (hr.mono (by decide)) hG (by rfl) T.g__law_mixed T.F__law_mixed.kp T.b__law_mixed (takes_of rfl rfl rfl rfl) (pa_cons (pv 1) (pa_cons (pv 4) pa_nil)))))))
    (pss_one (ps_ret (pv 3)))))), ?_⟩
    walk_at "j0"
    walk_at "go"
    refine ⟨rg_ok (by omega), fun a ha => ?_⟩
    rw [rgV_nat]
    walk_at "go"
    intro p hp
    walk_at "go"
    have nap : a ≠ p := ne_of_none upd_same hp
    refine for_range (lo := 0) (n := n) (fun i σ H' => ∃ (v : Option V), σ = [some (.int n), some (.int (ordS n num i).num), some (.ref a), some (.ref p), v] ∧ Same H H' ∧ H' a = some (.lst (msk (ordS n num i).left)) ∧ H' p = some (.lst (msk (ordS n num i).found))) ⟨none, rfl, (Same.new ha).trans (Same.new hp), up_ne nap upd_same, upd_same⟩ ?_ ?_
    · rintro i σ H' hi ⟨v, rfl, S, h1, h2⟩
      have hl := ordS_left n num i (by omega)
      have hm : (ordS n num i).num % (ordS n num i).left.length < (ordS n num i).left.length := Nat.mod_lt _ (by omega)
      rw [Int.zero_add]
      walk_at "go"
      refine s_lenL (.inl (SqL.of h1)) ?_
      walk_at "go"
      rw [msk_length]
      refine s_I (by show (0 : Int) < _; omega) ?_
      have e1 : ((ordS n num i).num : Int) % ((ordS n num i).left.length : Int) = (((ordS n num i).num % (ordS n num i).left.length : Nat) : Int) := by omega
      rw [e1]
      walk_at "go"
      refine s_popN h1 (msk_get hm) ?_
      walk_at "go"
      have h2' : upd H' a (.lst ((msk (ordS n num i).left).eraseIdx ((ordS n num i).num % (ordS n num i).left.length))) p = some (.lst (msk (ordS n num i).found)) := up_ne nap.symm h2
      refine s_append h2' (by rw [msk_length, ordS_found]; exact Nat.lt_of_lt_of_le (m := 100) (by omega) (by decide)) ?_
      walk_at "go"
      refine u__law_mixed (by omega) (by omega) ?_
      walk_at "go"
      refine ⟨_, rfl, ?_, ?_, ?_⟩
      · exact Same.mut (Same.mut S ha) (free_of hp)
      · rw [msk_erase]
        exact up_ne nap upd_same
      · rw [msk_app]
        exact upd_same
    · rintro σ H' ⟨v, rfl, S, h1, h2⟩
      walk_at "go"
      exact k p H' S (free_of hp) h2
-- _law_text
theorem ok__law_text (T : Txt0 w K mg) : ∀ d : Nat, FnG P w K mg base (1 + d) T.a__law_text T.d__law_text ["_law_told_here"] (sp_rec S_txt d)
  | 0 => FnG.none sp_rec_zero
  | d + 1 => by
    have ih := ok__law_text T d

    refine okG T.F__law_text sc__law_text (fun vs H Q E h => ?_) (fun cdv A outer s H vs Q E hr hG h => ?_)
    · exact len0_rec (fun _ _ _ _ h => h.1) h
    · have hr : Room (1 + d) _ := hr
      have sc := sc__law_text
      have hu := hr.units
      have hu1 := hu_of hr
      have hu65 := room65 hr
      have hu2 := room200 hr
      obtain ⟨v, t, xs, rfl, hT, g, hd, rfl, k⟩ := h
      refine ⟨_, (pss_cons (ps_if (pt_not (pt_val (pe_callB (kIs (K := K)) (by rfl) T.z_isinstance bt_isinstance (pa_cons (pv 0) (pa_cons (pe_bltn (v := .ty "tuple") (by rfl) T.z_tuple bt_tuple rfl) pa_nil))))) (pss_one (ps_ret (pe_op (kAdd (K := K)) (pe_op op_mulS (pe_ix (kIx (K := K)) pe_str (pe_op op_fdiv (pv 0) pe_int) (fun _ _ => rfl)) (pe_callTy kInt1 (by rfl) T.z_int bt_int (pa_cons (pe_cmpR op_gt (pv 0) pe_int (nomark _)) pa_nil))) (pe_ix (kIx (K := K)) pe_str (pe_op op_mod (pv 0) pe_int) (fun _ _ => rfl))))) pss_nil)
      (pss_cons (ps_set (i := 1) sc.nd rfl (by first | exact Or.inl rfl | exact Or.inr rfl) (pe_dget hu1 (pe_disp (pps_cons pe_str pe_str (pps_cons pe_str pe_str pps_nil)) (by rfl) (by rfl) (fun z => by cases z) (by decide)) (pe_ix (kIx (K := K)) (pv 0) pe_int (fun _ _ => rfl)) (fun _ _ => rfl)))
      (pss_cons (ps_set (i := 2) sc.nd rfl (by first | exact Or.inl rfl | exact Or.inr rfl) pe_str)
      (pss_cons (ps_for (passes_of rfl) rfl (kTup (K := K) (pe_ix (kIx (K := K)) (pv 0) pe_int (fun _ _ => rfl))) (pg_name (i := 3) sc.nd rfl (by first | exact Or.inl rfl | exact Or.inr rfl))
      (pss_one (ps_set (i := 2) sc.nd rfl (by first | exact Or.inl rfl | exact Or.inr rfl) (pe_op (kAdd (K := K)) (pe_op (kAdd (K := K)) (pv 2) (pe_op op_mulS (pv 1) (pe_callTy kInt1 (by rfl) T.z_int bt_int (pa_cons (pe_cmpR (kNe (K := K) hu) (pv 2) pe_str (nomark _)) pa_nil)))) (pe_cl ih (hr.mono (by omega)) hG (by rfl) T.g__law_text T.F__law_text.kp T.b__law_text (takes_of rfl rfl rfl rfl) (pa_cons (pv 3) pa_nil))))))
      (pss_one (ps_ret (pe_op (kAdd (K := K)) (pe_op (kAdd (K := K)) pe_str (pv 2)) pe_str))))))), ?_⟩
      walk_at "j0"
      cases t with
      | pt n =>
        have := hT.int
        subst this
        have g' := g
        rw [Tr.Good] at g'
        walk_at "go"
        rw [show ((n : Int) / 10) = ((n / 10 : Nat) : Int) by omega]
        refine s_ixFig (by omega) ?_
        walk_at "go"
        rw [show decide ((9 : Int) < (n : Int)) = decide (9 < n) by rw [decide_eq_decide]; omega]
        refine s_mulS (b := decide (9 < n)) (by rw [tx_len]; show 1 ≤ 100; decide) ?_
        walk_at "go"
        rw [show ((n : Int) % 10) = ((n % 10 : Nat) : Int) by omega]
        refine s_ixFig (by omega) ?_
        rw [if_tx]
        refine s_addTx (by split <;> simp) ?_
        rw [← tx_app, ← if_tx, num_law (by omega)]
        exact k _ (Same.refl _)
      | nd j ps =>
        obtain ⟨a, b, vs, rfl, ha, hb, hp⟩ := hT.tup
        have gp := fun p (hp : p ∈ ps) => good_part g hp
        have len := Paired.length hp
        have l30 := parts_30 g
        have dp : ∀ p ∈ ps, p.dep < d := fun p hp => by
          have h1 := dep_mem hp
          rw [Tr.dep] at hd
          omega
        have lz := txt_210 g
        rw [Tr.txt, List.length_cons, List.length_append] at lz
        walk_at "go"
        refine s_disp2 (by decide +kernel) fun p1 H1 hp1 S1 e1 => ?_
        have ha1 := S1 _ _ ha
        have hb1 := S1 _ _ hb
        have hpT := TAts.same S1 hp
        walk_at "go"
        refine s_ixT (v := .str (wd j)) (SqT.of ha1) rfl ?_
        refine s_dgetS e1 signs_get ?_
        walk_at "go"
        refine s_ixT (v := .ref b) (SqT.of ha1) rfl ?_
        refine s_itupE (SqT.of hb1) ?_
        rw [par_tx.2.2]
        refine for_tup (K := K) (a := b) (xs := vs) (fun i σ H' => ∃ v3, σ = [some (.ref a), some (.str (tx (sgn j))), some (.str (tx (joinL (sgn j) ((txtL ps).take i)))), v3] ∧ Same H1 H') ⟨none, rfl, Same.refl _⟩ ?_ ?_ ?_
        · rintro i σ H' _ ⟨v3, rfl, S⟩
          exact SqT.of (S _ _ hb1)
        · rintro i x σ H' hx ⟨v3, rfl, S⟩
          obtain ⟨p, hpi, hT'⟩ := Paired.at' hpT hx
          have pm := List.mem_of_getElem? hpi
          walk_at "go"
          have lp := List.getElem?_eq_some_iff.mp hpi
          have tk : (txtL ps).take (i + 1) = (txtL ps).take i ++ [p.txt] := by
            rw [txtL_eq, List.take_add_one, List.getElem?_map, hpi]
            rfl
          have snoc := joinL_snoc (sgn j) p.txt ((txtL ps).take i)
          have jl := joinL_take (sgn j) (txtL ps) (i + 1)
          rw [tk, snoc, List.length_append, List.length_append] at jl
          rw [tk, snoc, tx_dec, joinL_nil fun q hq => ?_]
          rotate_left
          · have := List.mem_of_mem_take hq
            rw [txtL_eq] at this
            obtain ⟨q', _, rfl⟩ := List.mem_map.mp this
            exact txt_ne q'
          refine s_mulS (b := !decide ((txtL ps).take i = [])) (by rw [tx_len]; cases j <;> decide) ?_
          rw [if_tx]
          refine s_addTx (by omega) ?_
          walk_at "go"
          refine u_rec (hT'.same S) (gp p pm).1 (dp p pm) ⟨rfl, fun H2 S2 => ?_⟩
          refine s_addTx (by rw [List.length_append]; omega) ?_
          walk_at "go"
          exact ⟨_, rfl, S.trans S2⟩
        · rintro σ H' ⟨v3, rfl, S⟩
          rw [List.take_of_length_le (by rw [txtL_eq, List.length_map, len]; exact Nat.le_refl _)]
          walk_at "go"
          rw [par_tx.1]
          refine s_addTx (by simp only [List.length_cons, List.length_nil]; omega) ?_
          walk_at "go"
          rw [par_tx.2.1]
          refine s_addTx (by simp only [List.length_cons, List.length_append, List.length_nil]; omega) ?_
          exact k _ (S1.trans S)
-- Reader_init
theorem ok_Reader_init (T : Txt0 w K mg) : FnG P w K mg base 1 T.a_Reader_init T.d_Reader_init ["self", "text"] (sp_Reader_init T.c_Reader) := by
  refine okG T.F_Reader_init sc_Reader_init (fun vs H Q E h => ?_) (fun cdv A outer s H vs Q E hr hG h => ?_)
  · (first | (obtain ⟨rfl, _⟩ := h; rfl) | (obtain ⟨_, rfl, _⟩ := h; rfl) | (obtain ⟨_, _, rfl, _⟩ := h; rfl) | (obtain ⟨_, _, _, rfl, _⟩ := h; rfl) | (obtain ⟨_, _, _, _, rfl, _⟩ := h; rfl) | (obtain ⟨_, _, _, _, _, rfl, _⟩ := h; rfl) | (obtain ⟨_, _, _, _, _, _, rfl, _⟩ := h; rfl) | (obtain ⟨_, _, _, _, _, _, _, rfl, _⟩ := h; rfl) | (obtain ⟨_, _, _, _, _, _, _, _, rfl, _⟩ := h; rfl) | (obtain ⟨_, _, _, _, _, _, _, _, _, rfl, _⟩ := h; rfl) | (obtain ⟨_, _, _, _, _, _, _, _, _, _, rfl, _⟩ := h; rfl) | (obtain ⟨_, _, _, _, _, _, _, _, _, _, _, rfl, _⟩ := h; rfl) | (obtain ⟨_, _, _, _, _, _, _, _, _, _, _, _, rfl, _⟩ := h; rfl))
  · have sc := sc_Reader_init
    have hu := hr.units
    have hu1 := hu_of hr
    have hu65 := room65 hr
    have hu2 := room200 hr
    obtain ⟨p, dx, z, rfl, hp, k⟩ := h
    have cl := T.cl_Reader
    have n1 := T.n_Reader_text
    have n2 := T.n_Reader_spot
    refine ⟨_, (pss_cons (kSet (K := K) (pv 0) (pv 1) rfl)
    (pss_one (kSet (K := K) (pv 0) pe_int rfl))), ?_⟩
    walk_at "j0"
    walk_at "go"
    refine s_sfldE upd_same cl n2 (by show 1 < 1000; decide) ?_
    rw [upd_upd]
    exact k
-- Reader_ahead
theorem ok_Reader_ahead (T : Txt0 w K mg) : FnG P w K mg base 1 T.a_Reader_ahead T.d_Reader_ahead ["self", "many"] (sp_Reader_ahead T.c_Reader) := by
  refine okG T.F_Reader_ahead sc_Reader_ahead (fun vs H Q E h => ?_) (fun cdv A outer s H vs Q E hr hG h => ?_)
  · (first | (obtain ⟨rfl, _⟩ := h; rfl) | (obtain ⟨_, rfl, _⟩ := h; rfl) | (obtain ⟨_, _, rfl, _⟩ := h; rfl) | (obtain ⟨_, _, _, rfl, _⟩ := h; rfl) | (obtain ⟨_, _, _, _, rfl, _⟩ := h; rfl) | (obtain ⟨_, _, _, _, _, rfl, _⟩ := h; rfl) | (obtain ⟨_, _, _, _, _, _, rfl, _⟩ := h; rfl) | (obtain ⟨_, _, _, _, _, _, _, rfl, _⟩ := h; rfl) | (obtain ⟨_, _, _, _, _, _, _, _, rfl, _⟩ := h; rfl) | (obtain ⟨_, _, _, _, _, _, _, _, _, rfl, _⟩ := h; rfl) | (obtain ⟨_, _, _, _, _, _, _, _, _, _, rfl, _⟩ := h; rfl) | (obtain ⟨_, _, _, _, _, _, _, _, _, _, _, rfl, _⟩ := h; rfl) | (obtain ⟨_, _, _, _, _, _, _, _, _, _, _, _, rfl, _⟩ := h; rfl))
  · have sc := sc_Reader_ahead
    have hu := hr.units
    have hu1 := hu_of hr
    have hu65 := room65 hr
    have hu2 := room200 hr
    obtain ⟨r, z, k, m, rfl, ⟨dx, hr0⟩, kz, zz, q⟩ := h
    have cl := T.cl_Reader
    have n1 := T.n_Reader_text
    have n2 := T.n_Reader_spot
    refine ⟨_, (pss_one (ps_ret (pe_slice kSlS (kFld (K := K) (pv 0)) (po_some (kFld (K := K) (pv 0))) (po_some (pe_op (kAdd (K := K)) (kFld (K := K) (pv 0)) (pv 1)))))), ?_⟩
    walk_at "j0"
    walk_at "go"
    rw [show (k : Int) + (m : Int) = ((k + m : Nat) : Int) by omega]
    refine s_slS zz kz (Nat.le_add_right _ _) ?_
    rw [Nat.add_sub_cancel_left]
    exact q
theorem me_Reader_ahead (T : Txt0 w K mg) : MethG P w K mg base 1 T.c_Reader "ahead" (sp_Reader_ahead T.c_Reader) := ⟨T.cl_Reader, _, _, _, T.m_Reader_ahead, ok_Reader_ahead T, T.b_Reader_ahead⟩
-- Reader_read_point
theorem ok_Reader_read_point (T : Txt0 w K mg) : FnG P w K mg base 2 T.a_Reader_read_point T.d_Reader_read_point ["self"] (sp_Reader_pt T.c_Reader T.c_BadText) := by
  refine okG T.F_Reader_read_point sc_Reader_read_point (fun vs H Q E h => ?_) (fun cdv A outer s H vs Q E hr hG h => ?_)
  · (first | (obtain ⟨rfl, _⟩ := h; rfl) | (obtain ⟨_, rfl, _⟩ := h; rfl) | (obtain ⟨_, _, rfl, _⟩ := h; rfl) | (obtain ⟨_, _, _, rfl, _⟩ := h; rfl) | (obtain ⟨_, _, _, _, rfl, _⟩ := h; rfl) | (obtain ⟨_, _, _, _, _, rfl, _⟩ := h; rfl) | (obtain ⟨_, _, _, _, _, _, rfl, _⟩ := h; rfl) | (obtain ⟨_, _, _, _, _, _, _, rfl, _⟩ := h; rfl) | (obtain ⟨_, _, _, _, _, _, _, _, rfl, _⟩ := h; rfl) | (obtain ⟨_, _, _, _, _, _, _, _, _, rfl, _⟩ := h; rfl) | (obtain ⟨_, _, _, _, _, _, _, _, _, _, rfl, _⟩ := h; rfl) | (obtain ⟨_, _, _, _, _, _, _, _, _, _, _, rfl, _⟩ := h; rfl) | (obtain ⟨_, _, _, _, _, _, _, _, _, _, _, _, rfl, _⟩ := h; rfl))
  · have sc := sc_Reader_read_point
    have hu := hr.units
    have hu1 := hu_of hr
    have hu65 := room65 hr
    have hu2 := room200 hr
    obtain ⟨r, z, k, rfl, ⟨dx, hr0⟩, kz, zz, q, e⟩ := h
    have cl := T.cl_Reader
    have n1 := T.n_Reader_text
    have n2 := T.n_Reader_spot
    have dl := digs_le ((tl z).drop k)
    rw [List.length_drop, ← len_tl] at dl
    refine ⟨_, (pss_cons (ps_set (i := 1) sc.nd rfl (by first | exact Or.inl rfl | exact Or.inr rfl) (kFld (K := K) (pv 0)))
    (pss_cons (ps_while (passes_of rfl) (PW.pt (pw_and (pt_cmpR op_lt (kFld (K := K) (pv 0)) (pe_op (kAdd (K := K)) (pv 1) pe_int) (nomark _)) (pw_and1 (pt_cmpR (kIn (K := K) hu65) (pe_cm (pv 0) (one_me (me_Reader_ahead T)) (hr.mono (by decide)) hG (takes_of rfl rfl rfl rfl) (pa_cons pe_int pa_nil)) (pe_callTy (call_tupS rfl) (by rfl) T.z_tuple bt_tuple (pa_cons (pe_glob (v := .str "0123456789") (by rfl) T.g_FIGURES ⟨_, rfl⟩) pa_nil)) (by rfl))))) (pss_one (ps_fldaug (pv 0) pe_int in_add)))
    (pss_cons (ps_if (pt_cmpR (kEq (K := K) hu) (kFld (K := K) (pv 0)) (pv 1) (nomark _)) (pss_one (ps_raise rfl (takes_of rfl rfl rfl rfl) (pmk_own PySem.F.excBase_ValueError T.x_BadText T.g_BadText T.kp_BadText (raises_own T.be_BadText T.te_BadText) rfl))) pss_nil)
    (pss_one (ps_ret (pe_callTy call_int_str (by rfl) T.z_int bt_int (pa_cons (pe_slice kSlS (kFld (K := K) (pv 0)) (po_some (pv 1)) (po_some (kFld (K := K) (pv 0)))) pa_nil))))))), ?_⟩
    walk_at "j0"
    walk_at "go"
    refine ⟨fun m σ' H' => ∃ j, m = 2 - j ∧ j ≤ digs ((tl z).drop k) ∧ σ' = [some (.ref r), some (.int (k : Nat))] ∧ But r H H' ∧ H' r = some (.ins T.c_Reader dx [("text", .str z), ("spot", .int ((k + j : Nat) : Int))]), ⟨_, 0, rfl, Nat.zero_le _, rfl, But.refl r H, hr0⟩, ?_⟩
    rintro m σ' H' ⟨j, rfl, jd, rfl, B, hr1⟩
    walk_at "go"
    have jl : j < 2 → k + j ≤ z.length := fun _ => by omega
    refine s_dec (fun c => ?_) (fun c => ?_)
    · have j2 : j < 2 := by omega
      walk_at "go"
      refine u_ahead (m := 1) ⟨dx, hr1⟩ (by omega) zz ?_
      walk_at "go"
      rw [figs_tx]
      refine s_tupS (by decide) fun p hp => ?_
      have S1 := Same.new (H := H') (o := .tup (signsV (tx [48, 49, 50, 51, 52, 53, 54, 55, 56, 57]))) hp
      have e1 : upd H' p (.tup (signsV (tx [48, 49, 50, 51, 52, 53, 54, 55, 56, 57]))) p = some (.tup ([[48], [49], [50], [51], [52], [53], [54], [55], [56], [57]].map fun l => V.str (tx l))) := by
        rw [upd_same]
        unfold signsV
        rw [tl_tx]
        rfl
      generalize upd H' p (.tup (signsV (tx [48, 49, 50, 51, 52, 53, 54, 55, 56, 57]))) = H1 at S1 e1 ⊢
      refine s_inTx (.inr (SqT.of e1)) ?_
      rw [fig_in, ← List.drop_drop, digs_step jd j2]
      refine ⟨_, rfl, s_dec (fun c2 => ?_) (fun c2 => ?_)⟩
      · refine ⟨fun σ2 H2 => σ2 = [some (.ref r), some (.int (k : Nat))] ∧ But r H H2 ∧ H2 r = some (.ins T.c_Reader dx [("text", .str z), ("spot", .int ((k + (j + 1) : Nat) : Int))]), fun σ2 H2 => ?_, ?_⟩
        · rintro ⟨rfl, B2, hr2⟩
          exact ⟨2 - (j + 1), by omega, j + 1, rfl, c2, rfl, B2, hr2⟩
        · refine s_sfldAug (m := 1) cl n2 (S1 _ _ hr1) rfl ?_
          exact ⟨rfl, (B.same S1).trans But.set, upd_same⟩
      · have hr2 := S1 _ _ hr1
        clear hr1 e1 hp
        have ej : j = digs ((tl z).drop k) := by omega
        subst ej
        walk_at "go"
        refine s_dec (fun c3 => ?_) (fun c3 => ?_)
        · refine e ?_ _ (B.same S1)
          unfold rdPt
          rw [if_pos (by omega)]
        · have d0 : digs ((tl z).drop k) ≠ 0 := fun z => c3 (by rw [z]; rfl)
          walk_at "go"
          refine s_slS zz kz (Nat.le_add_right _ _) ?_
          rw [Nat.add_sub_cancel_left]
          refine ⟨_, _, rfl, digs_int d0, ?_, q _ _ _ (by unfold rdPt; rw [if_neg d0]) (B.same S1) ⟨dx, hr2⟩⟩
          rw [tx_len, List.length_take]
          omega
    · walk_at "js"
      have ej : j = digs ((tl z).drop k) := by omega
      subst ej
      walk_at "go"
      refine s_dec (fun c3 => ?_) (fun c3 => ?_)
      · refine e ?_ _ B
        unfold rdPt
        rw [if_pos (by omega)]
      · have d0 : digs ((tl z).drop k) ≠ 0 := fun z => c3 (by rw [z]; rfl)
        walk_at "go"
        refine s_slS zz kz (Nat.le_add_right _ _) ?_
        rw [Nat.add_sub_cancel_left]
        refine ⟨_, _, rfl, digs_int d0, ?_, q _ _ _ (by unfold rdPt; rw [if_neg d0]) B ⟨dx, hr1⟩⟩
        rw [tx_len, List.length_take]
        omega
theorem me_Reader_read_point (T : Txt0 w K mg) : MethG P w K mg base 2 T.c_Reader "read_point" (sp_Reader_pt T.c_Reader T.c_BadText) := ⟨T.cl_Reader, _, _, _, T.m_Reader_read_point, ok_Reader_read_point T, T.b_Reader_read_point⟩
-- Reader_tree
theorem ok_Reader_tree (T : Txt0 w K mg) : ∀ d : Nat, FnG P w K mg base (4 + d) T.a_Reader_tree T.d_Reader_tree ["self", "left"] (sp_Reader_tree T.c_Reader T.c_BadText d)
  | 0 => FnG.none sp_Reader_tree_zero
  | d + 1 => by
    have ih := ok_Reader_tree T d

    refine okG T.F_Reader_tree sc_Reader_tree (fun vs H Q E h => ?_) (fun cdv A outer s H vs Q E hr hG h => ?_)
    · (first | (obtain ⟨rfl, _⟩ := h; rfl) | (obtain ⟨_, rfl, _⟩ := h; rfl) | (obtain ⟨_, _, rfl, _⟩ := h; rfl) | (obtain ⟨_, _, _, rfl, _⟩ := h; rfl) | (obtain ⟨_, _, _, _, rfl, _⟩ := h; rfl) | (obtain ⟨_, _, _, _, _, rfl, _⟩ := h; rfl) | (obtain ⟨_, _, _, _, _, _, rfl, _⟩ := h; rfl) | (obtain ⟨_, _, _, _, _, _, _, rfl, _⟩ := h; rfl) | (obtain ⟨_, _, _, _, _, _, _, _, rfl, _⟩ := h; rfl) | (obtain ⟨_, _, _, _, _, _, _, _, _, rfl, _⟩ := h; rfl) | (obtain ⟨_, _, _, _, _, _, _, _, _, _, rfl, _⟩ := h; rfl) | (obtain ⟨_, _, _, _, _, _, _, _, _, _, _, rfl, _⟩ := h; rfl) | (obtain ⟨_, _, _, _, _, _, _, _, _, _, _, _, rfl, _⟩ := h; rfl))
    · have hr : Room (4 + d) _ := hr
      have sc := sc_Reader_tree
      have hu := hr.units
      have hu1 := hu_of hr
      have hu65 := room65 hr
      have hu2 := room200 hr
      obtain ⟨r, z, k, n, rfl, nd, ⟨dx, hr0⟩, kz, zz, q, e⟩ := h
      have cl := T.cl_Reader
      have n1 := T.n_Reader_text
      have n2 := T.n_Reader_spot
      have lL : ((tl z).drop k).length = z.length - k := by rw [List.length_drop, ← len_tl]
      refine ⟨_, (pss_cons (ps_if (pt_cmpR (kNe (K := K) hu) (pe_cm (pv 0) (one_me (me_Reader_ahead T)) (hr.mono (by omega)) hG (takes_of rfl rfl rfl rfl) (pa_cons pe_int pa_nil)) pe_str (nomark _)) (pss_one (ps_ret (pe_cm0 (pv 0) (one_me (me_Reader_read_point T)) (hr.mono (by omega)) hG (takes_of rfl rfl rfl rfl)))) pss_nil)
      (pss_cons (ps_if (pt_cmpR (kEq (K := K) hu) (pv 1) pe_int (nomark _)) (pss_one (ps_raise rfl (takes_of rfl rfl rfl rfl) (pmk_own PySem.F.excBase_ValueError T.x_BadText T.g_BadText T.kp_BadText (raises_own T.be_BadText T.te_BadText) rfl))) pss_nil)
      (pss_cons (ps_fldaug (pv 0) pe_int in_add)
      (pss_cons (ps_set (i := 2) sc.nd rfl (by first | exact Or.inl rfl | exact Or.inr rfl) (pe_lst (pa_cons (pe_cm (pv 0) (one_me ⟨T.cl_Reader, _, _, _, T.m_Reader_tree, ih, T.b_Reader_tree⟩) (hr.mono (by omega)) hG (takes_of rfl rfl rfl rfl) (pa_cons (pe_op op_sub (pv 1) pe_int) pa_nil)) pa_nil)))
      (pss_cons (ps_set (i := 3) sc.nd rfl (by first | exact Or.inl rfl | exact Or.inr rfl) (pe_cm (pv 0) (one_me (me_Reader_ahead T)) (hr.mono (by omega)) hG (takes_of rfl rfl rfl rfl) (pa_cons pe_int pa_nil)))
      (pss_cons (ps_while (passes_of rfl) (PW.pt (pw_and (pt_cmpR (kEq (K := K) hu) (pe_cm (pv 0) (one_me (me_Reader_ahead T)) (hr.mono (by omega)) hG (takes_of rfl rfl rfl rfl) (pa_cons pe_int pa_nil)) (pv 3) (nomark _)) (pw_and1 (pt_cmpR (kIn (K := K) hu65) (pv 3) (pe_tup (pa_cons pe_str (pa_cons pe_str pa_nil))) (by rfl))))) (pss_cons (ps_fldaug (pv 0) pe_int in_add)
      (pss_one (ps_expr (pe_bm PySem.F.plainAttrs_list PySem.F.slot_list_append PySem.F.type_list_append mt_append (pv 2) (pa_cons (pe_cm (pv 0) (one_me ⟨T.cl_Reader, _, _, _, T.m_Reader_tree, ih, T.b_Reader_tree⟩) (hr.mono (by omega)) hG (takes_of rfl rfl rfl rfl) (pa_cons (pe_op op_sub (pv 1) pe_int) pa_nil)) pa_nil))))))
      (pss_cons (ps_if (PW.pt (pw_or (pt_cmpR (kNe (K := K) hu) (pe_cm (pv 0) (one_me (me_Reader_ahead T)) (hr.mono (by omega)) hG (takes_of rfl rfl rfl rfl) (pa_cons pe_int pa_nil)) pe_str (nomark _)) (pw_or1 (pt_cmpR op_lt (pe_callB (kLen (K := K)) (by rfl) T.z_len bt_len (pa_cons (pv 2) pa_nil)) pe_int (nomark _))))) (pss_one (ps_raise rfl (takes_of rfl rfl rfl rfl) (pmk_own PySem.F.excBase_ValueError T.x_BadText T.g_BadText T.kp_BadText (raises_own T.be_BadText T.te_BadText) rfl))) pss_nil)
      (pss_cons (ps_fldaug (pv 0) pe_int in_add)
      (pss_one (ps_ret (pe_tup (pa_cons (pe_ifExp (pt_cmpR (kEq (K := K) hu) (pv 3) pe_str (nomark _)) pe_str pe_str) (pa_cons (pe_callTy (kTupleO (K := K)) (by rfl) T.z_tuple bt_tuple (pa_cons (pv 2) pa_nil)) pa_nil))))))))))))), ?_⟩
      walk_at "j0"
      walk_at "go"
      refine u_ahead (m := 1) ⟨dx, hr0⟩ kz zz ?_
      walk_at "go"
      rw [par_tx.1]
      walk_at "go"
      rw [tx_dec]
      refine s_decN (fun c => ?_) (fun c => ?_)
      · walk_at "go"
        have pe : prs n ((tl z).drop k) = rdPt ((tl z).drop k) := by
          cases n with
          | zero => rw [prs, if_neg c]
          | succ n => rw [prs, if_neg c]
        rw [pe] at q e
        refine u_readPt ⟨dx, hr0⟩ kz zz (fun t m H' h B R => ?_) e
        exact q _ _ _ _ h B R (.pt t)
      · walk_at "go"
        have l1 := take_le c
        rw [lL] at l1
        simp only [List.length_cons, List.length_nil] at l1
        refine s_dec (fun c0 => ?_) (fun c0 => ?_)
        · have : n = 0 := by omega
          subst this
          refine e ?_ _ (But.refl r H)
          rw [prs, if_pos c]
        obtain ⟨n, rfl⟩ : ∃ m, n = m + 1 := ⟨n - 1, by omega⟩
        walk_at "go"
        refine s_sfldAug (m := 1) cl n2 hr0 rfl ?_
        walk_at "go"
        rw [show (((n + 1 : Nat) : Int)) - 1 = (n : Int) by omega]
        have B1 : But r H (upd H r (.ins T.c_Reader dx [("text", .str z), ("spot", .int ((k + 1 : Nat) : Int))])) := But.set
        refine u_readTree (by omega) ⟨dx, upd_same⟩ (by omega) zz (fun t0 m0 u0 H2 h0 B0 R0 hT0 => ?_) (fun h0 H2 B0 => ?_)
        rotate_left
        · exact e (prs_fail1 c (by rw [List.drop_drop]; exact h0)) _ (B1.trans B0)
        have BB := B1.trans B0
        have ml0 := prs_le _ _ _ _ h0
        rw [List.length_drop, ← len_tl] at ml0
        clear B1 B0
        walk_at "go"
        intro pl hpl
        obtain ⟨dx0, hr2⟩ := R0
        have hr3 := up_old (o' := .lst [u0]) hpl hr2
        have hT3 := hT0.same (Same.new (o := .lst [u0]) hpl)
        have B3 := BB.new (o := .lst [u0]) hpl
        have ep : upd H2 pl (.lst [u0]) pl = some (.lst [u0]) := upd_same
        have npl : pl ≠ r := Ne.symm (ne_of_none hr2 hpl)
        have npH : ∀ x uu, x ≠ r → H x = some uu → x ≠ pl := fun x uu n1 e1 => ne_of_none (BB x uu n1 e1) hpl
        generalize upd H2 pl (.lst [u0]) = H3 at hr3 hT3 B3 ep ⊢
        clear hpl hr2 BB hT0
        walk_at "go"
        refine u_ahead (m := 3) ⟨dx0, hr3⟩ (by omega) zz ?_
        have eL : (tl z).drop (k + 1 + m0) = ((tl z).drop k).drop (1 + m0) := by rw [List.drop_drop, Nat.add_assoc]
        have h0' : prs n (((tl z).drop k).drop 1) = some (t0, m0) := by rw [List.drop_drop]; exact h0
        rw [eL]
        generalize hL0 : ((tl z).drop k).drop (1 + m0) = L0
        have lL0 : L0.length = z.length - (k + 1 + m0) := by rw [← hL0, List.length_drop, lL]; omega
        generalize hs : L0.take 3 = sg
        walk_at "go"
        refine ⟨fun fuel σ' Y => ∃ us done cc, σ' = [some (.ref r), some (.int ((n + 1 : Nat) : Int)), some (.ref pl), some (.str (tx sg))] ∧ But r H Y ∧ RdAt T.c_Reader Y r z (k + 1 + m0 + cc) ∧ Y pl = some (.lst us) ∧ Paired (TAt Y) us (t0 :: done) ∧ done.length ≤ cc ∧ LoopAt n sg L0 ((tl z).drop k).length done cc fuel, ⟨_, [u0], [], 0, rfl, B3, ⟨dx0, hr3⟩, ep, .cons hT3 .nil, Nat.zero_le _, LoopAt.start (by rw [lL, lL0]; omega)⟩, ?_⟩
        rintro fuel σ' Y ⟨us, done, cc, rfl, BY, ⟨dy, hrY⟩, epY, hP, dcc, LA⟩
        have cle := LA.le
        have eD : (tl z).drop (k + 1 + m0 + cc) = L0.drop cc := by rw [← hL0, List.drop_drop, List.drop_drop]; congr 1; omega
        walk_at "go"
        refine u_ahead (m := 3) ⟨dy, hrY⟩ (by omega) zz ?_
        rw [eD]
        walk_at "go"
        rw [tx_dec]
        refine s_dec (fun c2 => ?_) (fun c2 => ?_)
        · walk_at "go"
          intro tq htq
          have S1 := Same.new (H := Y) (o := .tup [.str " | ", .str " & "]) htq
          have et : upd Y tq (.tup [.str " | ", .str " & "]) tq = some (.tup ([sgn false, sgn true].map fun l => V.str (tx l))) := by rw [upd_same, sg_tx.1, sg_tx.2]; rfl
          generalize upd Y tq (.tup [.str " | ", .str " & "]) = Y1 at S1 et ⊢
          refine s_inTx (.inr (SqT.of et)) ?_
          have eS : decide (sg ∈ [sgn false, sgn true]) = isS sg := by
            unfold isS
            rw [← Bool.decide_or, decide_eq_decide, List.mem_cons, List.mem_singleton]
          rw [eS]
          have hrY := S1 _ _ hrY
          have epY := S1 _ _ epY
          have hP := TAts.same S1 hP
          have BY := BY.same S1
          clear et htq S1
          refine ⟨_, rfl, s_ite (fun c3 => ?_) (fun c3 => ?_)⟩
          · have yes : (decide ((L0.drop cc).take 3 = sg) && isS sg) = true := by rw [decide_eq_true c2, c3]; rfl
            have l3 := take_le c2
            rw [isS_len c3, List.length_drop, lL0] at l3
            refine ⟨fun σ2 Y2 => ∃ us done cc f, f < fuel ∧ σ2 = [some (.ref r), some (.int ((n + 1 : Nat) : Int)), some (.ref pl), some (.str (tx sg))] ∧ But r H Y2 ∧ RdAt T.c_Reader Y2 r z (k + 1 + m0 + cc) ∧ Y2 pl = some (.lst us) ∧ Paired (TAt Y2) us (t0 :: done) ∧ done.length ≤ cc ∧ LoopAt n sg L0 ((tl z).drop k).length done cc f, fun σ2 Y2 => ?_, ?_⟩
            · rintro ⟨us, done, cc, f, lt, rfl, a1, a2, a3, a4, a6, a5⟩
              exact ⟨f, lt, us, done, cc, rfl, a1, a2, a3, a4, a6, a5⟩
            · walk_at "js"
              refine s_sfldAug (m := 3) cl n2 hrY rfl ?_
              have BZ := BY.trans (But.set (H := Y1) (r := r) (o := .ins T.c_Reader dy [("text", .str z), ("spot", .int ((k + 1 + m0 + cc + 3 : Nat) : Int))]))
              have hPZ := TAts.keep (Tups.upd (o' := .ins T.c_Reader dy [("text", .str z), ("spot", .int ((k + 1 + m0 + cc + 3 : Nat) : Int))]) hrY (fun _ z => by cases z)) hP
              have epZ := up_ne (o' := .ins T.c_Reader dy [("text", .str z), ("spot", .int ((k + 1 + m0 + cc + 3 : Nat) : Int))]) npl epY
              have erZ : upd Y1 r (.ins T.c_Reader dy [("text", .str z), ("spot", .int ((k + 1 + m0 + cc + 3 : Nat) : Int))]) r = some (.ins T.c_Reader dy [("text", .str z), ("spot", .int ((k + 1 + m0 + cc + 3 : Nat) : Int))]) := upd_same
              generalize upd Y1 r (.ins T.c_Reader dy [("text", .str z), ("spot", .int ((k + 1 + m0 + cc + 3 : Nat) : Int))]) = Z at BZ hPZ epZ erZ ⊢
              clear hrY epY hP BY
              walk_at "go"
              rw [show (((n + 1 : Nat) : Int)) - 1 = (n : Int) by omega]
              have eD3 : (tl z).drop (k + 1 + m0 + cc + 3) = L0.drop (cc + 3) := by rw [← hL0, List.drop_drop, List.drop_drop]; congr 1; omega
              have lus : us.length = done.length + 1 := Paired.length hPZ
              refine u_readTree (by omega) ⟨dy, erZ⟩ (by omega) zz (fun t m u Y3 h3 B3 R3 hT3 => ?_) (fun h3 Y3 B3 => ?_)
              rotate_left
              · rw [eD3] at h3
                exact e (prs_fail2 c h0' (by rw [hL0, hs]; exact LA.fail yes h3)) _ (BZ.trans B3)
              rw [eD3] at h3
              obtain ⟨f, LN, lt⟩ := LA.next yes h3
              obtain ⟨dw, hrW⟩ := R3
              have epW := B3 _ _ npl epZ
              have hPW := TAts.keep (B3.tup erZ) hPZ
              walk_at "go"
              have lds : us.length < 100000 := by omega
              refine s_append epW (Nat.lt_of_lt_of_le lds (by decide)) ?_
              refine ⟨us ++ [u], done ++ [t], cc + 3 + m, f, lt, rfl, fun x uu n1 e1 => up_ne (npH x uu n1 e1) ((BZ.trans B3) x uu n1 e1), ⟨dw, ?_⟩, upd_same, ?_, by rw [List.length_append, List.length_singleton]; omega, LN⟩
              · rw [show k + 1 + m0 + (cc + 3 + m) = k + 1 + m0 + cc + 3 + m by omega]
                exact up_ne (Ne.symm npl) hrW
              · rw [← List.cons_append]
                exact TAts.keep (Tups.upd epW (fun _ z => by cases z)) (Paired.app hPW (.cons hT3 .nil))
          · have no : (decide ((L0.drop cc).take 3 = sg) && isS sg) = false := by rw [c3, Bool.and_false]
            have pe := prs_end c h0' (ts := done) (m1 := cc) (by rw [hL0, hs]; exact LA.stop no)
            rw [hL0, hs, ← List.drop_drop, hL0] at pe
            walk_at "go"
            refine u_ahead (m := 1) ⟨dy, hrY⟩ (by omega) zz ?_
            rw [eD]
            walk_at "go"
            rw [par_tx.2.1]
            walk_at "go"
            rw [tx_dec]
            have lus : us.length = done.length + 1 := Paired.length hP
            refine s_decN (fun c4 => ?_) (fun c4 => ?_)
            · walk_at "go"
              refine e ?_ _ BY
              rw [pe, if_neg]
              rw [decide_eq_false c4, Bool.false_and]
              exact Bool.false_ne_true
            walk_at "go"
            refine s_lenL (.inl (SqL.of epY)) ?_
            walk_at "go"
            rw [lus]
            refine s_dec (fun c5 => ?_) (fun c5 => ?_)
            · walk_at "go"
              refine e ?_ _ BY
              rw [pe, if_neg]
              rw [decide_eq_false (show ¬ 1 ≤ done.length by omega), Bool.and_false]
              exact Bool.false_ne_true
            have l41 := take_le c4
            rw [List.length_drop, lL0] at l41
            simp only [List.length_cons, List.length_nil] at l41
            rw [decide_eq_true c4, decide_eq_true (show 1 ≤ done.length by omega), if_pos (show (true && true) = true from rfl)] at pe
            walk_at "go"
            refine s_sfldAug (m := 1) cl n2 hrY rfl ?_
            have BZ := BY.trans (But.set (H := Y1) (r := r) (o := .ins T.c_Reader dy [("text", .str z), ("spot", .int ((k + 1 + m0 + cc + 1 : Nat) : Int))]))
            have hPZ := TAts.keep (Tups.upd (o' := .ins T.c_Reader dy [("text", .str z), ("spot", .int ((k + 1 + m0 + cc + 1 : Nat) : Int))]) hrY (fun _ z => by cases z)) hP
            have epZ := up_ne (o' := .ins T.c_Reader dy [("text", .str z), ("spot", .int ((k + 1 + m0 + cc + 1 : Nat) : Int))]) npl epY
            have erZ : upd Y1 r (.ins T.c_Reader dy [("text", .str z), ("spot", .int ((k + 1 + m0 + cc + 1 : Nat) : Int))]) r = some (.ins T.c_Reader dy [("text", .str z), ("spot", .int ((k + 1 + m0 + cc + 1 : Nat) : Int))]) := upd_same
            generalize upd Y1 r (.ins T.c_Reader dy [("text", .str z), ("spot", .int ((k + 1 + m0 + cc + 1 : Nat) : Int))]) = Z at BZ hPZ epZ erZ ⊢
            walk_at "go"
            rw [sg_tx.1, tx_dec]
            have key : ∀ j : Bool, (!decide (sg = sgn false)) = j → tCons (tCB (rTupleOf K) (tCons (tVar 2) tNil)) tNil [some (.ref r), some (.int ((n + 1 : Nat) : Int)), some (.ref pl), some (.str (tx sg))] Z fun xs H2 => (V.str (wd j) :: xs).length ≤ sizeLine ∧ ∀ p, H2 p = none → Q (.ref p) (upd H2 p (.tup (V.str (wd j) :: xs))) := by
              intro j hj
              rw [hj] at pe
              walk_at "go"
              refine s_tupleO (SqL.of epZ) fun b hb => ?_
              walk_at "go"
              intro p hp
              have hb' : upd (upd Z b (.tup us)) p (.tup [.str (wd j), .ref b]) b = some (.tup us) := up_old hp upd_same
              refine q _ _ _ _ pe ((BZ.new hb).new hp) ⟨dy, ?_⟩ (.nd (j := j) upd_same hb' (TAts.same (Same.new hp) (TAts.same (Same.new hb) hPZ)))
              rw [show k + (1 + m0 + cc + 1) = k + 1 + m0 + cc + 1 by omega]
              exact up_old hp (up_old hb erZ)
            refine s_dec (fun c6 => ?_) (fun c6 => ?_)
            · exact key false (by rw [decide_eq_true c6]; rfl)
            · exact key true (by rw [decide_eq_false c6]; rfl)
        · walk_at "js"
          have no : (decide ((L0.drop cc).take 3 = sg) && isS sg) = false := by rw [decide_eq_false c2, Bool.false_and]
          have pe := prs_end c h0' (ts := done) (m1 := cc) (by rw [hL0, hs]; exact LA.stop no)
          rw [hL0, hs, ← List.drop_drop, hL0] at pe
          walk_at "go"
          refine u_ahead (m := 1) ⟨dy, hrY⟩ (by omega) zz ?_
          rw [eD]
          walk_at "go"
          rw [par_tx.2.1]
          walk_at "go"
          rw [tx_dec]
          have lus : us.length = done.length + 1 := Paired.length hP
          refine s_decN (fun c4 => ?_) (fun c4 => ?_)
          · walk_at "go"
            refine e ?_ _ BY
            rw [pe, if_neg]
            rw [decide_eq_false c4, Bool.false_and]
            exact Bool.false_ne_true
          walk_at "go"
          refine s_lenL (.inl (SqL.of epY)) ?_
          walk_at "go"
          rw [lus]
          refine s_dec (fun c5 => ?_) (fun c5 => ?_)
          · walk_at "go"
            refine e ?_ _ BY
            rw [pe, if_neg]
            rw [decide_eq_false (show ¬ 1 ≤ done.length by omega), Bool.and_false]
            exact Bool.false_ne_true
          have l41 := take_le c4
          rw [List.length_drop, lL0] at l41
          simp only [List.length_cons, List.length_nil] at l41
          rw [decide_eq_true c4, decide_eq_true (show 1 ≤ done.length by omega), if_pos (show (true && true) = true from rfl)] at pe
          walk_at "go"
          refine s_sfldAug (m := 1) cl n2 hrY rfl ?_
          have BZ := BY.trans (But.set (H := Y) (r := r) (o := .ins T.c_Reader dy [("text", .str z), ("spot", .int ((k + 1 + m0 + cc + 1 : Nat) : Int))]))
          have hPZ := TAts.keep (Tups.upd (o' := .ins T.c_Reader dy [("text", .str z), ("spot", .int ((k + 1 + m0 + cc + 1 : Nat) : Int))]) hrY (fun _ z => by cases z)) hP
          have epZ := up_ne (o' := .ins T.c_Reader dy [("text", .str z), ("spot", .int ((k + 1 + m0 + cc + 1 : Nat) : Int))]) npl epY
          have erZ : upd Y r (.ins T.c_Reader dy [("text", .str z), ("spot", .int ((k + 1 + m0 + cc + 1 : Nat) : Int))]) r = some (.ins T.c_Reader dy [("text", .str z), ("spot", .int ((k + 1 + m0 + cc + 1 : Nat) : Int))]) := upd_same
          generalize upd Y r (.ins T.c_Reader dy [("text", .str z), ("spot", .int ((k + 1 + m0 + cc + 1 : Nat) : Int))]) = Z at BZ hPZ epZ erZ ⊢
          walk_at "go"
          rw [sg_tx.1, tx_dec]
          have key : ∀ j : Bool, (!decide (sg = sgn false)) = j → tCons (tCB (rTupleOf K) (tCons (tVar 2) tNil)) tNil [some (.ref r), some (.int ((n + 1 : Nat) : Int)), some (.ref pl), some (.str (tx sg))] Z fun xs H2 => (V.str (wd j) :: xs).length ≤ sizeLine ∧ ∀ p, H2 p = none → Q (.ref p) (upd H2 p (.tup (V.str (wd j) :: xs))) := by
            intro j hj
            rw [hj] at pe
            walk_at "go"
            refine s_tupleO (SqL.of epZ) fun b hb => ?_
            walk_at "go"
            intro p hp
            have hb' : upd (upd Z b (.tup us)) p (.tup [.str (wd j), .ref b]) b = some (.tup us) := up_old hp upd_same
            refine q _ _ _ _ pe ((BZ.new hb).new hp) ⟨dy, ?_⟩ (.nd (j := j) upd_same hb' (TAts.same (Same.new hp) (TAts.same (Same.new hb) hPZ)))
            rw [show k + (1 + m0 + cc + 1) = k + 1 + m0 + cc + 1 by omega]
            exact up_old hp (up_old hb erZ)
          refine s_dec (fun c6 => ?_) (fun c6 => ?_)
          · exact key false (by rw [decide_eq_true c6]; rfl)
          · exact key true (by rw [decide_eq_false c6]; rfl)
-- Side_word
theorem ok_Side_word (T : Txt0 w K mg) : FnG P w K mg base 1 T.a_Side_word T.d_Side_word ["self"] (sp_nd T.tc S_word false 30) := by
  refine okG T.F_Side_word sc_Side_word (fun vs H Q E h => ?_) (fun cdv A outer s H vs Q E hr hG h => ?_)
  · exact len0_nd (fun _ _ _ _ h => h.1) h
  · have sc := sc_Side_word
    have hu := hr.units
    have hu1 := hu_of hr
    have hu65 := room65 hr
    have hu2 := room200 hr
    obtain ⟨v, ps, xs, rfl, hO, g, hd, rfl, k⟩ := h
    refine ⟨_, (pss_one (ps_ret pe_str)), ?_⟩
    walk_at "j0"
    walk_at "go"
    exact k
-- Tree_word
theorem ok_Tree_word (T : Txt0 w K mg) : FnG P w K mg base 1 T.a_Tree_word T.d_Tree_word ["self"] (sp_pt T.tc S_word) := by
  refine okG T.F_Tree_word sc_Tree_word (fun vs H Q E h => ?_) (fun cdv A outer s H vs Q E hr hG h => ?_)
  · exact len0_pt (fun _ _ _ _ h => h.1) h
  · have sc := sc_Tree_word
    have hu := hr.units
    have hu1 := hu_of hr
    have hu65 := room65 hr
    have hu2 := room200 hr
    obtain ⟨v, n, xs, rfl, hO, g, rfl, k⟩ := h
    obtain ⟨a, dx, rfl, ha⟩ := hO.ptE
    have cl := T.cl_Point
    have no := T.n_Point_number
    refine ⟨_, (pss_one (ps_ret pe_str)), ?_⟩
    walk_at "j0"
    walk_at "go"
    exact k
-- Join_word
theorem ok_Join_word (T : Txt0 w K mg) : FnG P w K mg base 2 T.a_Join_word T.d_Join_word ["self"] (sp_nd T.tc S_word true 30) := by
  refine okG T.F_Join_word sc_Join_word (fun vs H Q E h => ?_) (fun cdv A outer s H vs Q E hr hG h => ?_)
  · exact len0_nd (fun _ _ _ _ h => h.1) h
  · have sc := sc_Join_word
    have hu := hr.units
    have hu1 := hu_of hr
    have hu65 := room65 hr
    have hu2 := room200 hr
    obtain ⟨v, ps, xs, rfl, hO, g, hd, rfl, k⟩ := h
    refine ⟨_, (pss_one (ps_ret pe_str)), ?_⟩
    walk_at "j0"
    walk_at "go"
    exact k
theorem me_any_word (T : Txt0 w K mg) : ∀ C sp, DM T.tc (S_word) 30 C sp → MethG P w K mg base 2 C "word" sp := (me_of (X := T.tc) (d := 30) (k := 2) ⟨T.cl_Point, _, _, _, T.m_Point_word, ((ok_Tree_word T).mono (by omega)), T.b_Tree_word⟩ (fun j => by cases j; exact ⟨T.cl_Side, _, _, _, T.m_Side_word, ((ok_Side_word T).mono (by omega)), T.b_Side_word⟩; exact ⟨T.cl_Join, _, _, _, T.m_Join_word, ((ok_Join_word T).mono (by omega)), T.b_Join_word⟩))
-- Point_told
theorem ok_Point_told (T : Txt0 w K mg) : FnG P w K mg base 1 T.a_Point_told T.d_Point_told ["self"] (sp_pt T.tc S_told) := by
  refine okG T.F_Point_told sc_Point_told (fun vs H Q E h => ?_) (fun cdv A outer s H vs Q E hr hG h => ?_)
  · exact len0_pt (fun _ _ _ _ h => h.1) h
  · have sc := sc_Point_told
    have hu := hr.units
    have hu1 := hu_of hr
    have hu65 := room65 hr
    have hu2 := room200 hr
    obtain ⟨v, n, xs, rfl, hO, g, rfl, k⟩ := h
    obtain ⟨a, dx, rfl, ha⟩ := hO.ptE
    have cl := T.cl_Point
    have no := T.n_Point_number
    refine ⟨_, (pss_one (ps_ret (kFld (K := K) (pv 0)))), ?_⟩
    walk_at "j0"
    walk_at "go"
    exact k _ _ (Same.refl _) (.pt n)
-- Inner_told
theorem ok_Inner_told (T : Txt0 w K mg) : ∀ d : Nat, FnG P w K mg base (3 + d) T.a_Inner_told T.d_Inner_told ["self"] (sp_in T.tc S_told d)
  | 0 => FnG.none sp_in_zero
  | d + 1 => by
    have ih := ok_Inner_told T d
    have me := (me_of (P := P) (w := w) (base := base) (X := T.tc) (d := d) (k := 3 + d) ⟨T.cl_Point, _, _, _, T.m_Point_told, ((ok_Point_told T).mono (by omega)), T.b_Point_told⟩ (fun j => by cases j; exact ⟨T.cl_Side, _, _, _, T.m_Side_told, (((ih).imp sp_in_of).mono (by omega)), T.b_Inner_told⟩; exact ⟨T.cl_Join, _, _, _, T.m_Join_told, (((ih).imp sp_in_of).mono (by omega)), T.b_Inner_told⟩))
    refine okG T.F_Inner_told sc_Inner_told (fun vs H Q E h => ?_) (fun cdv A outer s H vs Q E hr hG h => ?_)
    · exact len0_in (fun _ _ _ _ h => h.1) h
    · have hr : Room (3 + d) _ := hr
      have sc := sc_Inner_told
      have hu := hr.units
      have hu1 := hu_of hr
      have hu65 := room65 hr
      have hu2 := room200 hr
      obtain ⟨v, j, ps, xs, rfl, hO, g, hd, rfl, k⟩ := h
      obtain ⟨a, dx, l, vs, rfl, ha, hl, hp, _⟩ := hO.ndE
      have cl : Cls K (T.tc.cl j) := by cases j; exact T.cl_Side; exact T.cl_Join
      have no : NoAttr K (T.tc.cl j) "parts" := by cases j; exact T.n_Side_parts; exact T.n_Join_parts
      have gp := fun p (hp : p ∈ ps) => good_part g hp
      have len := Paired.length hp
      have l30 := parts_30 g
      refine ⟨_, (pss_one (ps_ret (pe_tup (pa_cons (pe_cm0 (pv 0) (me_any_word T) (hr.mono (by omega)) hG (takes_of rfl rfl rfl rfl)) (pa_cons (pe_callTy (kTupleO (K := K)) (by rfl) T.z_tuple bt_tuple (pa_cons (pe_lc (own := [("part", 1)]) rfl sc.nd (kList (K := K) (kFld (K := K) (pv 0))) (blkOk_by (own := [("part", 1)]) (N := ["self", "part"]) (sc := defScope st_Inner_told) (by decide +kernel)) (fun _ _ _ _ _ => (pg_name (i := 1) sc.nd rfl (Or.inl rfl))) (fun _ _ _ _ _ => pts_nil) (fun _ _ _ _ _ => (pe_cm0 (pv 1) me (hr.mono (by omega)) hG takes0))) pa_nil)) pa_nil))))), ?_⟩
      walk_at "j0"
      walk_at "go"
      refine s_m0 hO g (Tr.dep_30 g) (u_word ?_)
      walk_at "go"
      intro D hD
      refine lc_each (K := K) (F := TAt) (ps := ps) (SqL.of hl) len (by omega) hD (fun H1 H2 y p s h => h.same s) (fun H1 y p us zs _ e h => h.keep (Tups.upd e fun _ z => by cases z)) (fun i x p H' us hx hpi S eD Q' q => ?_) (fun x => rfl) (fun us H' S eD hF => ?_)
      · obtain ⟨x', hx', hO'⟩ := Paired.at hp hpi
        rw [hx] at hx'
        cases hx'
        have pm := List.mem_of_getElem? hpi
        walk_at "jlc"
        walk_at "go"
        exact s_m0 (hO'.same S) (gp p pm).1 (dep_part hd pm) (u_told q)
      · walk_at "go"
        refine s_tupleO (SqL.of eD) fun tp htp => ?_
        walk_at "go"
        intro t2 ht2
        refine k _ _ ((S.trans (Same.new htp)).trans (Same.new ht2)) (.nd upd_same (up_old ht2 upd_same) ?_)
        exact TAts.same ((Same.new htp).trans (Same.new ht2)) hF
theorem me_any_told (T : Txt0 w K mg) : ∀ C sp, DM T.tc (S_told) 30 C sp → MethG P w K mg base 33 C "told" sp := (me_of (X := T.tc) (d := 30) (k := 33) ⟨T.cl_Point, _, _, _, T.m_Point_told, ((ok_Point_told T).mono (by omega)), T.b_Point_told⟩ (fun j => by cases j; exact ⟨T.cl_Side, _, _, _, T.m_Side_told, (((ok_Inner_told T 30).imp sp_in_of).mono (by omega)), T.b_Inner_told⟩; exact ⟨T.cl_Join, _, _, _, T.m_Join_told, (((ok_Inner_told T 30).imp sp_in_of).mono (by omega)), T.b_Inner_told⟩))
-- text_of
theorem ok_text_of (T : Txt0 w K mg) : ∀ d : Nat, FnG P w K mg base (1 + d) T.a_text_of T.d_text_of ["told"] (sp_rec S_txt d)
  | 0 => FnG.none sp_rec_zero
  | d + 1 => by
    have ih := ok_text_of T d

    refine okG T.F_text_of sc_text_of (fun vs H Q E h => ?_) (fun cdv A outer s H vs Q E hr hG h => ?_)
    · exact len0_rec (fun _ _ _ _ h => h.1) h
    · have hr : Room (1 + d) _ := hr
      have sc := sc_text_of
      have hu := hr.units
      have hu1 := hu_of hr
      have hu65 := room65 hr
      have hu2 := room200 hr
      obtain ⟨v, t, xs, rfl, hT, g, hd, rfl, k⟩ := h
      refine ⟨_, (pss_cons (ps_if (pt_val (pe_callB (kIs (K := K)) (by rfl) T.z_isinstance bt_isinstance (pa_cons (pv 0) (pa_cons (pe_bltn (v := .ty "int") (by rfl) T.z_int bt_int rfl) pa_nil)))) (pss_one (ps_ret (pe_callTy call_str_int (by rfl) T.z_str bt_str (pa_cons (pv 0) pa_nil)))) pss_nil)
      (pss_one (ps_ret (pe_op (kAdd (K := K)) (pe_op (kAdd (K := K)) pe_str (kJoin (K := K) (pe_ix (kIxD (K := K) (w := w)) (pe_glob (v := .ref T.a_SIGNS) (by rfl) T.g_SIGNS rfl) (pe_ix (kIx (K := K)) (pv 0) pe_int (fun _ _ => rfl)) (fun _ _ => rfl)) (pe_lc (own := [("one", 1)]) rfl sc.nd (kTup (K := K) (pe_ix (kIx (K := K)) (pv 0) pe_int (fun _ _ => rfl))) (blkOk_by (own := [("one", 1)]) (N := ["told", "one"]) (sc := defScope st_text_of) (by decide +kernel)) (fun _ _ _ _ _ => (pg_name (i := 1) sc.nd rfl (Or.inl rfl))) (fun _ _ _ _ _ => pts_nil) (fun _ _ _ _ _ => (pe_cl ih (hr.mono (by omega)) hG (by rfl) T.g_text_of T.F_text_of.kp T.b_text_of takes0 (pa_cons (pv 1) pa_nil)))))) pe_str)))), ?_⟩
      walk_at "j0"
      cases t with
      | pt n =>
        have := hT.int
        subst this
        walk_at "go"
        refine ⟨n, rfl, ?_, ?_⟩
        · rw [Tr.Good] at g
          rw [Int.natAbs_natCast]
          exact Nat.lt_of_le_of_lt (Nat.log2_le_self n) (by omega)
        · rw [num_tx]
          exact k _ (Same.refl _)
      | nd j ps =>
        obtain ⟨a, b, vs, rfl, ha, hb, hp⟩ := hT.tup
        have gp := fun p (hp : p ∈ ps) => good_part g hp
        have len := Paired.length hp
        have l30 := parts_30 g
        have dp : ∀ p ∈ ps, p.dep < d := fun p hp => by
          have h1 := dep_mem hp
          rw [Tr.dep] at hd
          omega
        walk_at "go"
        refine s_ixT (v := .str (wd j)) (SqT.of ha) rfl ?_
        refine s_ixD (kd_sgn T.kd_SIGNS_0 T.kd_SIGNS_1 j) ?_
        walk_at "go"
        refine s_ixT (v := .ref b) (SqT.of ha) rfl ?_
        refine s_itupE (SqT.of hb) ?_
        intro D hD
        refine lc_eachT (K := K) (F := fun _ u p => u = .str (tx (Tr.txt p))) (ps := ps) (SqT.of hb) len (by omega) hD (fun _ _ _ _ _ h => h) (fun _ _ _ _ _ _ _ h => h) (fun i x p H1 us hx hpi S1 eD Q' q => ?_) (fun x => rfl) (fun us H1 S1 eD hF => ?_)
        · obtain ⟨x', hx', hT'⟩ := Paired.at hp hpi
          rw [hx] at hx'
          cases hx'
          have pm := List.mem_of_getElem? hpi
          walk_at "jlc"
          walk_at "go"
          exact u_rec (hT'.same S1) (gp p pm).1 (dp p pm) ⟨rfl, fun H2 S2 => q _ _ S2 rfl⟩
        · rw [strs_of hF] at eD
          refine s_joinT (SqL.of eD) (fun p hp => txt_210 (gp p hp).1) l30 ?_
          have lz := txt_210 g
          rw [Tr.txt, List.length_cons, List.length_append] at lz
          rw [par_tx.1]
          refine s_addTx (by simp only [List.length_cons, List.length_nil]; omega) ?_
          walk_at "go"
          rw [par_tx.2.1]
          refine s_addTx (by simp only [List.length_cons, List.length_append, List.length_nil]; omega) ?_
          exact k _ S1
-- Inner_init
theorem ok_Inner_init (T : Txt0 w K mg) : FnG P w K mg base 1 T.a_Inner_init T.d_Inner_init ["self", "parts"] (sp_Inner_init T.tc) := by
  refine okG T.F_Inner_init sc_Inner_init (fun vs H Q E h => ?_) (fun cdv A outer s H vs Q E hr hG h => ?_)
  · (first | (obtain ⟨rfl, _⟩ := h; rfl) | (obtain ⟨_, rfl, _⟩ := h; rfl) | (obtain ⟨_, _, rfl, _⟩ := h; rfl) | (obtain ⟨_, _, _, rfl, _⟩ := h; rfl) | (obtain ⟨_, _, _, _, rfl, _⟩ := h; rfl) | (obtain ⟨_, _, _, _, _, rfl, _⟩ := h; rfl) | (obtain ⟨_, _, _, _, _, _, rfl, _⟩ := h; rfl) | (obtain ⟨_, _, _, _, _, _, _, rfl, _⟩ := h; rfl) | (obtain ⟨_, _, _, _, _, _, _, _, rfl, _⟩ := h; rfl) | (obtain ⟨_, _, _, _, _, _, _, _, _, rfl, _⟩ := h; rfl) | (obtain ⟨_, _, _, _, _, _, _, _, _, _, rfl, _⟩ := h; rfl) | (obtain ⟨_, _, _, _, _, _, _, _, _, _, _, rfl, _⟩ := h; rfl) | (obtain ⟨_, _, _, _, _, _, _, _, _, _, _, _, rfl, _⟩ := h; rfl))
  · have sc := sc_Inner_init
    have hu := hr.units
    have hu1 := hu_of hr
    have hu65 := room65 hr
    have hu2 := room200 hr
    obtain ⟨p, dx, j, l, vs, rfl, ob, hl, k⟩ := h
    have cl : Cls K (T.tc.cl j) := by cases j; exact T.cl_Side; exact T.cl_Join
    have no : NoAttr K (T.tc.cl j) "parts" := by cases j; exact T.n_Side_parts; exact T.n_Join_parts
    refine ⟨_, (pss_one (kSet (K := K) (pv 0) (pe_callTy (kListO (K := K)) (by rfl) T.z_list bt_list (pa_cons (pv 1) pa_nil)) rfl)), ?_⟩
    walk_at "j0"
    walk_at "go"
    refine s_listO (.inl (SqL.of hl)) fun q hq => ?_
    walk_at "go"
    exact k q hq
-- Point_points
theorem ok_Point_points (T : Txt0 w K mg) : FnG P w K mg base 1 T.a_Point_points T.d_Point_points ["self"] (sp_pt T.tc S_points) := by
  refine okG T.F_Point_points sc_Point_points (fun vs H Q E h => ?_) (fun cdv A outer s H vs Q E hr hG h => ?_)
  · exact len0_pt (fun _ _ _ _ h => h.1) h
  · have sc := sc_Point_points
    have hu := hr.units
    have hu1 := hu_of hr
    have hu65 := room65 hr
    have hu2 := room200 hr
    obtain ⟨v, n, xs, rfl, hO, g, rfl, k⟩ := h
    obtain ⟨a, dx, rfl, ha⟩ := hO.ptE
    have cl := T.cl_Point
    have no := T.n_Point_number
    refine ⟨_, (pss_one (ps_ret (pe_lst (pa_cons (kFld (K := K) (pv 0)) pa_nil)))), ?_⟩
    walk_at "j0"
    walk_at "go"
    intro q hq
    refine k q _ (Same.new hq) hq ?_
    rw [srt_pt (by rw [Tr.Good] at g; exact g)]
    exact upd_same
-- Inner_points
theorem ok_Inner_points (T : Txt0 w K mg) : ∀ d : Nat, FnG P w K mg base (2 + d) T.a_Inner_points T.d_Inner_points ["self"] (sp_in T.tc S_points d)
  | 0 => FnG.none sp_in_zero
  | d + 1 => by
    have ih := ok_Inner_points T d
    have me := (me_of (P := P) (w := w) (base := base) (X := T.tc) (d := d) (k := 2 + d) ⟨T.cl_Point, _, _, _, T.m_Point_points, ((ok_Point_points T).mono (by omega)), T.b_Point_points⟩ (fun j => by cases j; exact ⟨T.cl_Side, _, _, _, T.m_Side_points, (((ih).imp sp_in_of).mono (by omega)), T.b_Inner_points⟩; exact ⟨T.cl_Join, _, _, _, T.m_Join_points, (((ih).imp sp_in_of).mono (by omega)), T.b_Inner_points⟩))
    refine okG T.F_Inner_points sc_Inner_points (fun vs H Q E h => ?_) (fun cdv A outer s H vs Q E hr hG h => ?_)
    · exact len0_in (fun _ _ _ _ h => h.1) h
    · have hr : Room (2 + d) _ := hr
      have sc := sc_Inner_points
      have hu := hr.units
      have hu1 := hu_of hr
      have hu65 := room65 hr
      have hu2 := room200 hr
      obtain ⟨v, j, ps, xs, rfl, hO, g, hd, rfl, k⟩ := h
      obtain ⟨a, dx, l, vs, rfl, ha, hl, hp, _⟩ := hO.ndE
      have cl : Cls K (T.tc.cl j) := by cases j; exact T.cl_Side; exact T.cl_Join
      have no : NoAttr K (T.tc.cl j) "parts" := by cases j; exact T.n_Side_parts; exact T.n_Join_parts
      have gp := fun p (hp : p ∈ ps) => good_part g hp
      have len := Paired.length hp
      have l30 := parts_30 g
      refine ⟨_, (pss_cons (ps_set (i := 1) sc.nd rfl (by first | exact Or.inl rfl | exact Or.inr rfl) (pe_lst pa_nil))
      (pss_cons (ps_for (passes_of rfl) rfl (kList (K := K) (kFld (K := K) (pv 0))) (pg_name (i := 2) sc.nd rfl (by first | exact Or.inl rfl | exact Or.inr rfl))
      (pss_one (ps_expr (pe_bm PySem.F.plainAttrs_list PySem.F.slot_list_extend PySem.F.type_list_extend mt_extend (pv 1) (pa_cons (pe_cm0 (pv 2) me (hr.mono (by omega)) hG (takes_of rfl rfl rfl rfl)) pa_nil)))))
      (pss_one (ps_ret (pe_callB (kSorted (K := K)) (by rfl) T.z_sorted bt_sorted (pa_cons (pv 1) pa_nil)))))), ?_⟩
      walk_at "j0"
      walk_at "go"
      intro f hf
      walk_at "go"
      refine for_list (K := K) (a := l) (xs := vs) (fun i σ H' => ∃ v2, σ = [some (.ref a), some (.ref f), v2] ∧ Same H H' ∧ H' f = some (.lst (msk ((ps.take i).flatMap Tr.srt)))) ⟨none, rfl, Same.new hf, by rw [List.take_zero]; exact upd_same⟩ ?_ ?_ ?_
      · rintro i σ H' _ ⟨v2, rfl, S, _⟩
        exact SqL.of (S _ _ hl)
      · rintro i x σ H' hx ⟨v2, rfl, S, ef⟩
        obtain ⟨p, hpi, hO'⟩ := Paired.at' hp hx
        have pm := List.mem_of_getElem? hpi
        walk_at "go"
        refine s_m0 (hO'.same S) (gp p pm).1 (dep_part hd pm) (u_points fun q H3 S3 hq eq => ?_)
        walk_at "go"
        refine s_extend (S3 _ _ ef) eq ?_ ?_
        · have h1 := srts_len g i
          have h2 := Tr.srt_len (gp p pm).1
          have h3 := Tr.size (gp p pm).1
          rw [msk_length, msk_length]
          exact Nat.le_trans (m := 1000) (by omega) (by decide)
        · refine ⟨_, rfl, Same.mut (S.trans S3) hf, ?_⟩
          rw [flat_take hpi]
          unfold msk
          rw [List.map_append]
          exact upd_same
      · rintro σ H' ⟨v2, rfl, S, ef⟩
        rw [len, List.take_length] at ef
        walk_at "go"
        refine s_sortI (SqL.of ef) (srts_perm g) (Tr.srt_le _) fun q hq => ?_
        exact k q _ (S.trans (Same.new hq)) (S.free hq) upd_same
theorem me_any_points (T : Txt0 w K mg) : ∀ C sp, DM T.tc (S_points) 30 C sp → MethG P w K mg base 32 C "points" sp := (me_of (X := T.tc) (d := 30) (k := 32) ⟨T.cl_Point, _, _, _, T.m_Point_points, ((ok_Point_points T).mono (by omega)), T.b_Point_points⟩ (fun j => by cases j; exact ⟨T.cl_Side, _, _, _, T.m_Side_points, (((ok_Inner_points T 30).imp sp_in_of).mono (by omega)), T.b_Inner_points⟩; exact ⟨T.cl_Join, _, _, _, T.m_Join_points, (((ok_Inner_points T 30).imp sp_in_of).mono (by omega)), T.b_Inner_points⟩))
-- Point_init
theorem ok_Point_init (T : Txt0 w K mg) : FnG P w K mg base 1 T.a_Point_init T.d_Point_init ["self", "number"] (sp_Point_init T.tc) := by
  refine okG T.F_Point_init sc_Point_init (fun vs H Q E h => ?_) (fun cdv A outer s H vs Q E hr hG h => ?_)
  · (first | (obtain ⟨rfl, _⟩ := h; rfl) | (obtain ⟨_, rfl, _⟩ := h; rfl) | (obtain ⟨_, _, rfl, _⟩ := h; rfl) | (obtain ⟨_, _, _, rfl, _⟩ := h; rfl) | (obtain ⟨_, _, _, _, rfl, _⟩ := h; rfl) | (obtain ⟨_, _, _, _, _, rfl, _⟩ := h; rfl) | (obtain ⟨_, _, _, _, _, _, rfl, _⟩ := h; rfl) | (obtain ⟨_, _, _, _, _, _, _, rfl, _⟩ := h; rfl) | (obtain ⟨_, _, _, _, _, _, _, _, rfl, _⟩ := h; rfl) | (obtain ⟨_, _, _, _, _, _, _, _, _, rfl, _⟩ := h; rfl) | (obtain ⟨_, _, _, _, _, _, _, _, _, _, rfl, _⟩ := h; rfl) | (obtain ⟨_, _, _, _, _, _, _, _, _, _, _, rfl, _⟩ := h; rfl) | (obtain ⟨_, _, _, _, _, _, _, _, _, _, _, _, rfl, _⟩ := h; rfl))
  · have sc := sc_Point_init
    have hu := hr.units
    have hu1 := hu_of hr
    have hu65 := room65 hr
    have hu2 := room200 hr
    obtain ⟨p, dx, n, rfl, ob, k⟩ := h
    have cl := T.cl_Point
    have no := T.n_Point_number
    refine ⟨_, (pss_one (kSet (K := K) (pv 0) (pv 1) rfl)), ?_⟩
    walk_at "j0"
    walk_at "go"
    exact k
-- is_among
theorem ok_is_among (T : Txt0 w K mg) : FnG P w K mg base 1 T.a_is_among T.d_is_among ["thing", "least", "most"] (sp_is_among K) := by
  refine okG T.F_is_among sc_is_among (fun vs H Q E h => ?_) (fun cdv A outer s H vs Q E hr hG h => ?_)
  · (first | (obtain ⟨rfl, _⟩ := h; rfl) | (obtain ⟨_, rfl, _⟩ := h; rfl) | (obtain ⟨_, _, rfl, _⟩ := h; rfl) | (obtain ⟨_, _, _, rfl, _⟩ := h; rfl) | (obtain ⟨_, _, _, _, rfl, _⟩ := h; rfl) | (obtain ⟨_, _, _, _, _, rfl, _⟩ := h; rfl) | (obtain ⟨_, _, _, _, _, _, rfl, _⟩ := h; rfl) | (obtain ⟨_, _, _, _, _, _, _, rfl, _⟩ := h; rfl) | (obtain ⟨_, _, _, _, _, _, _, _, rfl, _⟩ := h; rfl) | (obtain ⟨_, _, _, _, _, _, _, _, _, rfl, _⟩ := h; rfl) | (obtain ⟨_, _, _, _, _, _, _, _, _, _, rfl, _⟩ := h; rfl) | (obtain ⟨_, _, _, _, _, _, _, _, _, _, _, rfl, _⟩ := h; rfl) | (obtain ⟨_, _, _, _, _, _, _, _, _, _, _, _, rfl, _⟩ := h; rfl))
  · have sc := sc_is_among
    have hu := hr.units
    have hu1 := hu_of hr
    have hu65 := room65 hr
    have hu2 := room200 hr
    obtain ⟨x, lo, hi, n, rfl, hx, k⟩ := h
    refine ⟨_, (pss_one (ps_ret (pe_and (pe_callB (kIs (K := K)) (by rfl) T.z_isinstance bt_isinstance (pa_cons (pv 0) (pa_cons (pe_bltn (v := .ty "int") (by rfl) T.z_int bt_int rfl) pa_nil))) (pe_and (pe_not (pe_callB (kIs (K := K)) (by rfl) T.z_isinstance bt_isinstance (pa_cons (pv 0) (pa_cons (pe_bltn (v := .ty "bool") (by rfl) T.z_bool bt_bool rfl) pa_nil)))) (pe_one (pe_chain op_le op_le (pv 1) (pv 0) (pv 2))))))), ?_⟩
    walk_at "j0"
    walk_at "go"
    cases hx
    case int i =>
      walk_at "go"
      refine s_dec (fun h => ?_) (fun h => ?_)
      · walk_at "go"
        have e : among (.int i) lo hi = decide (i ≤ hi) := by simp [among, h]
        rw [e] at k
        exact k
      · have e : among (.int i) lo hi = false := by simp [among, h]
        rw [e] at k
        exact k
    all_goals (walk_at "go"; exact k)
-- need
theorem ok_need (T : Txt0 w K mg) : FnG P w K mg base 1 T.a_need T.d_need ["good"] (sp_need T.c_BadTree) := by
  refine okG T.F_need sc_need (fun vs H Q E h => ?_) (fun cdv A outer s H vs Q E hr hG h => ?_)
  · (first | (obtain ⟨rfl, _⟩ := h; rfl) | (obtain ⟨_, rfl, _⟩ := h; rfl) | (obtain ⟨_, _, rfl, _⟩ := h; rfl) | (obtain ⟨_, _, _, rfl, _⟩ := h; rfl) | (obtain ⟨_, _, _, _, rfl, _⟩ := h; rfl) | (obtain ⟨_, _, _, _, _, rfl, _⟩ := h; rfl) | (obtain ⟨_, _, _, _, _, _, rfl, _⟩ := h; rfl) | (obtain ⟨_, _, _, _, _, _, _, rfl, _⟩ := h; rfl) | (obtain ⟨_, _, _, _, _, _, _, _, rfl, _⟩ := h; rfl) | (obtain ⟨_, _, _, _, _, _, _, _, _, rfl, _⟩ := h; rfl) | (obtain ⟨_, _, _, _, _, _, _, _, _, _, rfl, _⟩ := h; rfl) | (obtain ⟨_, _, _, _, _, _, _, _, _, _, _, rfl, _⟩ := h; rfl) | (obtain ⟨_, _, _, _, _, _, _, _, _, _, _, _, rfl, _⟩ := h; rfl))
  · have sc := sc_need
    have hu := hr.units
    have hu1 := hu_of hr
    have hu65 := room65 hr
    have hu2 := room200 hr
    obtain ⟨b, rfl, k, e⟩ := h
    refine ⟨_, (pss_one (ps_if (pt_not (pt_val (pv 0))) (pss_one (ps_raise rfl (takes_of rfl rfl rfl rfl) (pmk_own PySem.F.excBase_ValueError T.x_BadTree T.g_BadTree T.kp_BadTree (raises_own T.be_BadTree T.te_BadTree) rfl))) pss_nil)), ?_⟩
    walk_at "j0"
    walk_at "go"
    cases b with
    | true =>
      walk_at "go"
      exact k rfl
    | false =>
      walk_at "go"
      exact e rfl
-- made_by
theorem ok_made_by (T : Txt0 w K mg) : ∀ d : Nat, FnG P w K mg base (33 + d) T.a_made_by T.d_made_by ["told", "left"] (sp_made T.tc d)
  | 0 => FnG.none (by rintro vs H Q E ⟨v, n, t, _, _, _, _, h, _⟩; omega)
  | d + 1 => by
    have ih := ok_made_by T d

    refine okG T.F_made_by sc_made_by (fun vs H Q E h => ?_) (fun cdv A outer s H vs Q E hr hG h => ?_)
    · (first | (obtain ⟨rfl, _⟩ := h; rfl) | (obtain ⟨_, rfl, _⟩ := h; rfl) | (obtain ⟨_, _, rfl, _⟩ := h; rfl) | (obtain ⟨_, _, _, rfl, _⟩ := h; rfl) | (obtain ⟨_, _, _, _, rfl, _⟩ := h; rfl) | (obtain ⟨_, _, _, _, _, rfl, _⟩ := h; rfl) | (obtain ⟨_, _, _, _, _, _, rfl, _⟩ := h; rfl) | (obtain ⟨_, _, _, _, _, _, _, rfl, _⟩ := h; rfl) | (obtain ⟨_, _, _, _, _, _, _, _, rfl, _⟩ := h; rfl) | (obtain ⟨_, _, _, _, _, _, _, _, _, rfl, _⟩ := h; rfl) | (obtain ⟨_, _, _, _, _, _, _, _, _, _, rfl, _⟩ := h; rfl) | (obtain ⟨_, _, _, _, _, _, _, _, _, _, _, rfl, _⟩ := h; rfl) | (obtain ⟨_, _, _, _, _, _, _, _, _, _, _, _, rfl, _⟩ := h; rfl))
    · have hr : Room (33 + d) _ := hr
      have sc := sc_made_by
      have hu := hr.units
      have hu1 := hu_of hr
      have hu65 := room65 hr
      have hu2 := room200 hr
      obtain ⟨v, n, t, rfl, hT, g, hn, hd, k⟩ := h
      refine ⟨_, (pss_cons (ps_if (pt_val (pe_cl (ok_is_among T) (hr.mono (by omega)) hG (by rfl) T.g_is_among T.F_is_among.kp T.b_is_among (takes_of rfl rfl rfl rfl) (pa_cons (pv 0) (pa_cons pe_int (pa_cons (pe_op op_sub (pe_glob (v := .int 30) (by rfl) T.g_MOST_POINTS ⟨_, rfl⟩) pe_int) pa_nil))))) (pss_one (ps_ret (pe_mkG T.mk_Point (ok_Point_init T) (hr.mono (by omega)) hG (by rfl) T.g_Point T.b_Point_init (takes_of rfl rfl rfl rfl) (pa_cons (pv 0) pa_nil)))) pss_nil)
      (pss_cons (ps_expr (pe_cl (ok_need T) (hr.mono (by omega)) hG (by rfl) T.g_need T.F_need.kp T.b_need (takes_of rfl rfl rfl rfl) (pa_cons (pe_and (pe_cmpR op_gt (pv 1) pe_int (nomark _)) (pe_and (pe_callB (kIs (K := K)) (by rfl) T.z_isinstance bt_isinstance (pa_cons (pv 0) (pa_cons (pe_bltn (v := .ty "tuple") (by rfl) T.z_tuple bt_tuple rfl) pa_nil))) (pe_and (pe_cmpR (kEq (K := K) hu) (pe_callB (kLen (K := K)) (by rfl) T.z_len bt_len (pa_cons (pv 0) pa_nil)) pe_int (nomark _)) (pe_one (pe_callB (kIs (K := K)) (by rfl) T.z_isinstance bt_isinstance (pa_cons (pe_ix (kIx (K := K)) (pv 0) pe_int (fun _ _ => rfl)) (pa_cons (pe_bltn (v := .ty "str") (by rfl) T.z_str bt_str rfl) pa_nil))))))) pa_nil)))
      (pss_cons (ps_expr (pe_cl (ok_need T) (hr.mono (by omega)) hG (by rfl) T.g_need T.F_need.kp T.b_need (takes_of rfl rfl rfl rfl) (pa_cons (pe_and (pe_cmpR (kIn (K := K) hu65) (pe_ix (kIx (K := K)) (pv 0) pe_int (fun _ _ => rfl)) (pe_tup (pa_cons pe_str (pa_cons pe_str pa_nil))) (by rfl)) (pe_and (pe_callB (kIs (K := K)) (by rfl) T.z_isinstance bt_isinstance (pa_cons (pe_ix (kIx (K := K)) (pv 0) pe_int (fun _ _ => rfl)) (pa_cons (pe_bltn (v := .ty "tuple") (by rfl) T.z_tuple bt_tuple rfl) pa_nil))) (pe_one (pe_cmpR op_gt (pe_callB (kLen (K := K)) (by rfl) T.z_len bt_len (pa_cons (pe_ix (kIx (K := K)) (pv 0) pe_int (fun _ _ => rfl)) pa_nil)) pe_int (nomark _))))) pa_nil)))
      (pss_cons (ps_setLc (i := 2) (own := [("one", 6)]) rfl sc.nd rfl rfl (sw_true rfl rfl rfl (by decide +kernel)) (kTup (K := K) (pe_ix (kIx (K := K)) (pv 0) pe_int (fun _ _ => rfl))) (blkOk_by (own := [("one", 6)]) (N := ["told", "left", "parts", "firsts", "found", "points", "one"]) (sc := defScope st_made_by) (by decide +kernel)) (fun _ _ _ _ _ => (pg_name (i := 6) sc.nd rfl (Or.inl rfl))) (fun _ _ _ _ _ => pts_nil) (fun _ _ _ _ _ => (pe_cl ih (hr.mono (by omega)) hG (by rfl) T.g_made_by T.F_made_by.kp T.b_made_by takes0 (pa_cons (pv 6) (pa_cons (pe_op op_sub (pv 1) pe_int) pa_nil)))))
      (pss_cons (ps_expr (pe_cl (ok_need T) (hr.mono (by omega)) hG (by rfl) T.g_need T.F_need.kp T.b_need (takes_of rfl rfl rfl rfl) (pa_cons (pe_callB (kAll (K := K) rfl) (by rfl) T.z_all bt_all (pa_cons (pe_lc (own := [("one", 6)]) rfl sc.nd (kList (K := K) (pv 2)) (blkOk_by (own := [("one", 6)]) (N := ["told", "left", "parts", "firsts", "found", "points", "one"]) (sc := defScope st_made_by) (by decide +kernel)) (fun _ _ _ _ _ => (pg_name (i := 6) sc.nd rfl (Or.inl rfl))) (fun _ _ _ _ _ => pts_nil) (fun _ _ _ _ _ => (pe_cmpR (kNe (K := K) hu) (pe_cm0 (pv 6) (me_any_word T) (hr.mono (by omega)) hG takes0) (pe_ix (kIx (K := K)) (pv 0) pe_int (fun _ _ => rfl)) (nomark _)))) pa_nil)) pa_nil)))
      (pss_cons (ps_setLc (i := 3) (own := [("one", 6)]) rfl sc.nd rfl rfl (sw_true rfl rfl rfl (by decide +kernel)) (kList (K := K) (pv 2)) (blkOk_by (own := [("one", 6)]) (N := ["told", "left", "parts", "firsts", "found", "points", "one"]) (sc := defScope st_made_by) (by decide +kernel)) (fun _ _ _ _ _ => (pg_name (i := 6) sc.nd rfl (Or.inl rfl))) (fun _ _ _ _ _ => pts_nil) (fun _ _ _ _ _ => (pe_ix (kIx (K := K)) (pe_cm0 (pv 6) (me_any_points T) (hr.mono (by omega)) hG takes0) pe_int (fun _ _ => rfl))))
      (pss_cons (ps_expr (pe_cl (ok_need T) (hr.mono (by omega)) hG (by rfl) T.g_need T.F_need.kp T.b_need (takes_of rfl rfl rfl rfl) (pa_cons (pe_cmpR (kEq (K := K) hu) (pv 3) (pe_callB (kSorted (K := K)) (by rfl) T.z_sorted bt_sorted (pa_cons (pv 3) pa_nil)) (nomark _)) pa_nil)))
      (pss_cons (ps_set (i := 4) sc.nd rfl (by first | exact Or.inl rfl | exact Or.inr rfl) (pe_ifExp (pt_cmpR (kEq (K := K) hu) (pe_ix (kIx (K := K)) (pv 0) pe_int (fun _ _ => rfl)) pe_str (nomark _)) (pe_mkG T.mk_Side (ok_Inner_init T) (hr.mono (by omega)) hG (by rfl) T.g_Side T.b_Inner_init (takes_of rfl rfl rfl rfl) (pa_cons (pv 2) pa_nil)) (pe_mkG T.mk_Join (ok_Inner_init T) (hr.mono (by omega)) hG (by rfl) T.g_Join T.b_Inner_init (takes_of rfl rfl rfl rfl) (pa_cons (pv 2) pa_nil))))
      (pss_cons (ps_set (i := 5) sc.nd rfl (by first | exact Or.inl rfl | exact Or.inr rfl) (pe_cm0 (pv 4) (me_any_points T) (hr.mono (by omega)) hG (takes_of rfl rfl rfl rfl)))
      (pss_cons (ps_expr (pe_cl (ok_need T) (hr.mono (by omega)) hG (by rfl) T.g_need T.F_need.kp T.b_need (takes_of rfl rfl rfl rfl) (pa_cons (pe_cmpR (kEq (K := K) hu) (pe_lenSetA (K := K) (by rfl) T.z_len (by rfl) T.z_set (pv 5)) (pe_callB (kLen (K := K)) (by rfl) T.z_len bt_len (pa_cons (pv 5) pa_nil)) (nomark _)) pa_nil)))
      (pss_one (ps_ret (pv 4))))))))))))), ?_⟩
      walk_at "j0"
      cases t with
      | pt m =>
        have := hT.int
        subst this
        walk_at "go"
        refine s_then (among_pt (by rw [Tr.Good] at g; exact g)) ?_
        walk_at "go"
        exact u_newPoint fun p H' _ S hO' => k _ _ S hO'
      | nd j ps =>
        obtain ⟨a, b, vs, rfl, ha, hb, hp⟩ := hT.tup
        walk_at "go"
        have gp := fun p (hp : p ∈ ps) => good_part g hp
        have len := Paired.length hp
        have l30 := parts_30 g
        have g' := g
        rw [Tr.Good] at g'
        have n1 : 0 < n := by rw [Tr.dep] at hn; omega
        have dp : ∀ p ∈ ps, (p.dep : Int) ≤ n - 1 ∧ p.dep < d := fun p hp => by
          have h1 := dep_mem hp
          rw [Tr.dep] at hn hd
          omega
        walk_at "go"
        refine s_then (decide_eq_true n1) ?_
        walk_at "go"
        refine s_lenL (.inr (SqT.of ha)) ?_
        walk_at "go"
        refine s_ixT (v := .str (wd j)) (SqT.of ha) rfl ?_
        walk_at "go"
        refine u_need ?_
        walk_at "go"
        refine s_ixT (v := .str (wd j)) (SqT.of ha) rfl ?_
        walk_at "go"
        intro tw htw
        refine s_inWords (SqT.of upd_same) ?_
        have S1 : Same H (upd H tw (.tup [.str "side", .str "join"])) := Same.new htw
        have ha1 := S1 _ _ ha
        have hb1 := S1 _ _ hb
        have hp1 := TAts.same S1 hp
        generalize upd H tw (.tup [.str "side", .str "join"]) = H1 at S1 ha1 hb1 hp1 ⊢
        walk_at "go"
        refine s_ixT (v := .ref b) (SqT.of ha1) rfl ?_
        walk_at "go"
        refine s_ixT (v := .ref b) (SqT.of ha1) rfl ?_
        walk_at "go"
        refine s_lenL (.inr (SqT.of hb1)) ?_
        walk_at "go"
        refine u_needB (decide_eq_true (by rw [len]; omega)) ?_
        walk_at "go"
        refine s_ixT (v := .ref b) (SqT.of ha1) rfl ?_
        walk_at "go"
        intro D hD
        refine lc_eachT (K := K) (F := fun H2 u p => OAt T.tc (Dom (upd H1 D (.lst []))) H2 u p) (ps := ps) (SqT.of hb1) len (by omega) hD (fun H1 H2 y p s h => h.same s) (fun H1 y p us zs _ e h => h.put e dom_at) (fun i x p H' us hx hpi S eD Q' q => ?_) (fun x => rfl) (fun us H' S eD hF => ?_)
        · obtain ⟨x', hx', hT'⟩ := Paired.at hp1 hpi
          rw [hx] at hx'
          cases hx'
          have pm := List.mem_of_getElem? hpi
          walk_at "jlc"
          walk_at "go"
          exact u_made (hT'.same S) (gp p pm).1 (dp p pm).1 (dp p pm).2 fun u H4 S4 hO4 => q u H4 S4 (hO4.less (dom_D S eD))
        have St2 := S1.trans S
        have ha2 := S _ _ ha1
        walk_at "go"
        intro D2 hD2
        refine lc_each (K := K) (F := fun H2 u p => u = V.bl true) (ps := ps) (SqL.of eD) (Paired.length hF) (by omega) hD2 (fun H1 H2 y p s h => h) (fun H1 y p us zs _ e h => h) (fun i x p H3 us3 hx hpi S3 eD3 Q' q => ?_) (fun x => rfl) (fun us3 H3 S3 eD3 hF3 => ?_)
        · obtain ⟨x', hx', hO'⟩ := Paired.at hF hpi
          rw [hx] at hx'
          cases hx'
          have pm := List.mem_of_getElem? hpi
          walk_at "jlc"
          walk_at "go"
          refine s_m0 (hO'.no.same S3) (gp p pm).1 (Tr.dep_30 (gp p pm).1) (u_word ?_)
          walk_at "go"
          refine s_ixT (v := .str (wd j)) (SqT.of (S3 _ _ ha2)) rfl ?_
          refine s_neS ?_
          rw [decide_eq_false (gp p pm).2]
          exact q _ _ (Same.refl _) rfl
        have e3 := paired_bl (f := fun _ => true) hF3
        rw [e3] at eD3
        walk_at "go"
        refine s_allT (SqL.of eD3) (fun b hb => by obtain ⟨_, _, rfl⟩ := List.mem_map.mp hb; rfl) ?_
        walk_at "go"
        refine u_need ?_
        walk_at "go"
        have eD' := S3 _ _ eD
        have hF' := OAts.same S3 hF
        intro D4 hD4
        refine lc_each (K := K) (F := fun H2 u p => u = V.int (Tr.least p : Nat)) (ps := ps) (SqL.of eD') (Paired.length hF) (by omega) hD4 (fun H1 H2 y p s h => h) (fun H1 y p us zs _ e h => h) (fun i x p H4 us4 hx hpi S4 eD4 Q' q => ?_) (fun x => rfl) (fun us4 H4 S4 eD4 hF4 => ?_)
        · obtain ⟨x', hx', hO'⟩ := Paired.at hF' hpi
          rw [hx] at hx'
          cases hx'
          have pm := List.mem_of_getElem? hpi
          walk_at "jlc"
          walk_at "go"
          refine s_m0 (hO'.no.same S4) (gp p pm).1 (Tr.dep_30 (gp p pm).1) (u_points fun r H5 S5 hr er => ?_)
          walk_at "go"
          refine s_ixL (v := .int (p.least : Nat)) (SqL.of er) (atI_nat (j := 0) ?_) ?_
          · have := Tr.srt_head (gp p pm).1
            unfold msk
            rw [List.getElem?_map, this]
            rfl
          · exact q _ _ S5 rfl
        have e4 := paired_nat (f := Tr.least) hF4
        rw [e4] at eD4
        walk_at "go"
        refine s_sortI (SqL.of eD4) (.refl _) (leasts_le g) fun r hr => ?_
        refine s_eqMsk (SqL.of (up_old hr eD4)) (SqL.of upd_same) ?_
        rw [decide_eq_true rfl]
        walk_at "go"
        refine u_need ?_
        have S15 := (S.trans S3).trans (S4.trans (Same.new (o := .lst (msk (ps.map Tr.least))) hr))
        have ha5 := up_old (o' := .lst (msk (ps.map Tr.least))) hr (S4 _ _ (S3 _ _ ha2))
        have eD5 := up_old (o' := .lst (msk (ps.map Tr.least))) hr (S4 _ _ eD')
        have hF5 := OAts.same (S4.trans (Same.new (o := .lst (msk (ps.map Tr.least))) hr)) hF'
        generalize upd H4 r (.lst (msk (ps.map Tr.least))) = H5 at S15 ha5 eD5 hF5 ⊢
        have D5 : ∀ b, Dom (upd H1 D (.lst [])) b → Dom H5 b := dom_D S15 eD5
        have DH : ∀ b, Dom H b → Dom (upd H1 D (.lst [])) b := fun b hb => dom_up b (Dom.mono S1 b hb)
        have S05 := S1.trans S15
        walk_at "go"
        refine s_ixT (v := .str (wd j)) (SqT.of ha5) rfl ?_
        walk_at "go"
        have fin : ∀ (f : Addr) (H6 : Hp), Same H5 H6 → OAt T.tc (Dom (upd H1 D (.lst []))) H6 (.ref f) (.nd j ps) → ∀ Q' : VK, (∀ u H', Same H H' → OAt T.tc (Dom H) H' u (.nd j ps) → Q' u H') → Q' (.ref f) H6 := fun f H6 S6 hO6 Q' q' => q' _ _ (S05.trans S6) (hO6.less DH)
        have hset : ∀ q : Addr, ∀ H7 : Hp, H7 q = some (.lst (msk (Tr.nd j ps).srt)) → SqL K H7 q (((Tr.nd j ps).srt.map fun (m : Nat) => (m : Int)).map V.int) := fun q H7 e => by rw [← msk_ints]; exact SqL.of e
        have nds : ((Tr.nd j ps).srt.map fun (m : Nat) => (m : Int)).Nodup := nodup_ints.mpr ((Tr.srt_perm g).nodup_iff.mp (Tr.nodup g))
        have lens : ((Tr.nd j ps).srt.map fun (m : Nat) => (m : Int)).length ≤ 30 := by rw [List.length_map, Tr.srt_len g]; exact Tr.size g
        cases j with
        | false =>
          rw [show decide (wd false = ("side" : Str)) = true by decide +kernel]
          walk_at "go"
          refine u_newInner (j := false) eD5 hF5 D5 fun p H6 hp6 S6 hT6 => ?_
          walk_at "go"
          refine s_m0 hT6.no g (Tr.dep_30 g) (u_points fun q H7 S7 hq eq => ?_)
          walk_at "go"
          refine ⟨q, _, rfl, hset q H7 eq, by omega, fun c hc1 hc2 => ?_⟩
          walk_at "go"
          refine s_lenL (.inl (SqL.of eq)) ?_
          walk_at "go"
          refine u_needB (decide_eq_true (by have := hc2.mpr nds; rw [List.length_map] at this; rw [msk_length]; omega)) ?_
          walk_at "go"
          exact fin p H7 (S6.trans S7) (hT6.same S7) _ k
        | true =>
          rw [show decide (wd true = ("side" : Str)) = false by decide +kernel]
          walk_at "go"
          refine u_newInner (j := true) eD5 hF5 D5 fun p H6 hp6 S6 hT6 => ?_
          walk_at "go"
          refine s_m0 hT6.no g (Tr.dep_30 g) (u_points fun q H7 S7 hq eq => ?_)
          walk_at "go"
          refine ⟨q, _, rfl, hset q H7 eq, by omega, fun c hc1 hc2 => ?_⟩
          walk_at "go"
          refine s_lenL (.inl (SqL.of eq)) ?_
          walk_at "go"
          refine u_needB (decide_eq_true (by have := hc2.mpr nds; rw [List.length_map] at this; rw [msk_length]; omega)) ?_
          walk_at "go"
          exact fin p H7 (S6.trans S7) (hT6.same S7) _ k
-- tree_by
theorem ok_tree_by (T : Txt0 w K mg) : FnG P w K mg base 64 T.a_tree_by T.d_tree_by ["told"] (sp_tree_by T.tc) := by
  refine okG T.F_tree_by sc_tree_by (fun vs H Q E h => ?_) (fun cdv A outer s H vs Q E hr hG h => ?_)
  · (first | (obtain ⟨rfl, _⟩ := h; rfl) | (obtain ⟨_, rfl, _⟩ := h; rfl) | (obtain ⟨_, _, rfl, _⟩ := h; rfl) | (obtain ⟨_, _, _, rfl, _⟩ := h; rfl) | (obtain ⟨_, _, _, _, rfl, _⟩ := h; rfl) | (obtain ⟨_, _, _, _, _, rfl, _⟩ := h; rfl) | (obtain ⟨_, _, _, _, _, _, rfl, _⟩ := h; rfl) | (obtain ⟨_, _, _, _, _, _, _, rfl, _⟩ := h; rfl) | (obtain ⟨_, _, _, _, _, _, _, _, rfl, _⟩ := h; rfl) | (obtain ⟨_, _, _, _, _, _, _, _, _, rfl, _⟩ := h; rfl) | (obtain ⟨_, _, _, _, _, _, _, _, _, _, rfl, _⟩ := h; rfl) | (obtain ⟨_, _, _, _, _, _, _, _, _, _, _, rfl, _⟩ := h; rfl) | (obtain ⟨_, _, _, _, _, _, _, _, _, _, _, _, rfl, _⟩ := h; rfl))
  · have sc := sc_tree_by
    have hu := hr.units
    have hu1 := hu_of hr
    have hu65 := room65 hr
    have hu2 := room200 hr
    obtain ⟨v, t, rfl, hT, g, k⟩ := h
    refine ⟨_, (pss_one (ps_ret (pe_cl (ok_made_by T 30) (hr.mono (by decide)) hG (by rfl) T.g_made_by T.F_made_by.kp T.b_made_by (takes_of rfl rfl rfl rfl) (pa_cons (pv 0) (pa_cons (pe_glob (v := .int 30) (by rfl) T.g_MOST_POINTS ⟨_, rfl⟩) pa_nil))))), ?_⟩
    walk_at "j0"
    walk_at "go"
    exact u_made hT g (by have := Tr.dep_29 g; omega) (by have := Tr.dep_29 g; omega) k
-- shown
theorem ok_shown (T : Txt0 w K mg) : FnG P w K mg base 65 T.a_shown T.d_shown ["told"] sp_shown := by
  refine okG T.F_shown sc_shown (fun vs H Q E h => ?_) (fun cdv A outer s H vs Q E hr hG h => ?_)
  · (first | (obtain ⟨rfl, _⟩ := h; rfl) | (obtain ⟨_, rfl, _⟩ := h; rfl) | (obtain ⟨_, _, rfl, _⟩ := h; rfl) | (obtain ⟨_, _, _, rfl, _⟩ := h; rfl) | (obtain ⟨_, _, _, _, rfl, _⟩ := h; rfl) | (obtain ⟨_, _, _, _, _, rfl, _⟩ := h; rfl) | (obtain ⟨_, _, _, _, _, _, rfl, _⟩ := h; rfl) | (obtain ⟨_, _, _, _, _, _, _, rfl, _⟩ := h; rfl) | (obtain ⟨_, _, _, _, _, _, _, _, rfl, _⟩ := h; rfl) | (obtain ⟨_, _, _, _, _, _, _, _, _, rfl, _⟩ := h; rfl) | (obtain ⟨_, _, _, _, _, _, _, _, _, _, rfl, _⟩ := h; rfl) | (obtain ⟨_, _, _, _, _, _, _, _, _, _, _, rfl, _⟩ := h; rfl) | (obtain ⟨_, _, _, _, _, _, _, _, _, _, _, _, rfl, _⟩ := h; rfl))
  · have sc := sc_shown
    have hu := hr.units
    have hu1 := hu_of hr
    have hu65 := room65 hr
    have hu2 := room200 hr
    obtain ⟨v, t, rfl, hT, g, k⟩ := h
    refine ⟨_, (pss_one (ps_ret (pe_cl (ok_text_of T 30) (hr.mono (by decide)) hG (by rfl) T.g_text_of T.F_text_of.kp T.b_text_of (takes_of rfl rfl rfl rfl) (pa_cons (pe_cm0 (pe_cl (ok_tree_by T) (hr.mono (by decide)) hG (by rfl) T.g_tree_by T.F_tree_by.kp T.b_tree_by (takes_of rfl rfl rfl rfl) (pa_cons (pv 0) pa_nil)) (me_any_told T) (hr.mono (by decide)) hG (takes_of rfl rfl rfl rfl)) pa_nil)))), ?_⟩
    walk_at "j0"
    walk_at "go"
    refine u_tree_by hT g fun u H1 S1 hO => ?_
    walk_at "go"
    refine s_m0 hO.no g (Tr.dep_30 g) (u_told fun x H2 S2 hx => ?_)
    walk_at "go"
    exact u_recT hx g ⟨rfl, fun H3 S3 => k _ ((S1.trans S2).trans S3)⟩
-- read
theorem ok_read (T : Txt0 w K mg) : FnG P w K mg base 67 T.a_read T.d_read ["text"] sp_read := by
  refine okG T.F_read sc_read (fun vs H Q E h => ?_) (fun cdv A outer s H vs Q E hr hG h => ?_)
  · (first | (obtain ⟨rfl, _⟩ := h; rfl) | (obtain ⟨_, rfl, _⟩ := h; rfl) | (obtain ⟨_, _, rfl, _⟩ := h; rfl) | (obtain ⟨_, _, _, rfl, _⟩ := h; rfl) | (obtain ⟨_, _, _, _, rfl, _⟩ := h; rfl) | (obtain ⟨_, _, _, _, _, rfl, _⟩ := h; rfl) | (obtain ⟨_, _, _, _, _, _, rfl, _⟩ := h; rfl) | (obtain ⟨_, _, _, _, _, _, _, rfl, _⟩ := h; rfl) | (obtain ⟨_, _, _, _, _, _, _, _, rfl, _⟩ := h; rfl) | (obtain ⟨_, _, _, _, _, _, _, _, _, rfl, _⟩ := h; rfl) | (obtain ⟨_, _, _, _, _, _, _, _, _, _, rfl, _⟩ := h; rfl) | (obtain ⟨_, _, _, _, _, _, _, _, _, _, _, rfl, _⟩ := h; rfl) | (obtain ⟨_, _, _, _, _, _, _, _, _, _, _, _, rfl, _⟩ := h; rfl))
  · have sc := sc_read
    have hu := hr.units
    have hu1 := hu_of hr
    have hu65 := room65 hr
    have hu2 := room200 hr
    obtain ⟨t, rfl, g, k⟩ := h
    refine ⟨_, (pss_cons (ps_if (PW.pt (pw_or (pt_not (pt_val (pe_callB (kIs (K := K)) (by rfl) T.z_isinstance bt_isinstance (pa_cons (pv 0) (pa_cons (pe_bltn (v := .ty "str") (by rfl) T.z_str bt_str rfl) pa_nil))))) (pw_or1 (pt_cmpR op_gt (pe_callB (kLen (K := K)) (by rfl) T.z_len bt_len (pa_cons (pv 0) pa_nil)) (pe_glob (v := .int 4000) (by rfl) T.g_LONGEST ⟨_, rfl⟩) (nomark _))))) (pss_one (ps_raise rfl (takes_of rfl rfl rfl rfl) (pmk_own PySem.F.excBase_ValueError T.x_BadText T.g_BadText T.kp_BadText (raises_own T.be_BadText T.te_BadText) rfl))) pss_nil)
    (pss_cons (ps_set (i := 1) sc.nd rfl (by first | exact Or.inl rfl | exact Or.inr rfl) (pe_mkG T.mk_Reader (ok_Reader_init T) (hr.mono (by decide)) hG (by rfl) T.g_Reader T.b_Reader_init (takes_of rfl rfl rfl rfl) (pa_cons (pv 0) pa_nil)))
    (pss_cons (ps_set (i := 2) sc.nd rfl (by first | exact Or.inl rfl | exact Or.inr rfl) (pe_cm (pv 1) (one_me ⟨T.cl_Reader, _, _, _, T.m_Reader_tree, ok_Reader_tree T 31, T.b_Reader_tree⟩) (hr.mono (by decide)) hG (takes_of rfl rfl rfl rfl) (pa_cons (pe_glob (v := .int 30) (by rfl) T.g_MOST_POINTS ⟨_, rfl⟩) pa_nil)))
    (pss_cons (ps_tryCalm (fun pn xe tk => (pss_one (ps_set (i := 3) sc.nd rfl (by first | exact Or.inl rfl | exact Or.inr rfl) (pe_cl (ok_shown T) (hr.mono (by decide)) hG (by rfl) T.g_shown T.F_shown.kp T.b_shown tk (pa_cons (pv 2) pa_nil))))))
    (pss_cons (ps_if (pt_cmpR (kNe (K := K) hu) (pv 3) (pv 0) (nomark _)) (pss_one (ps_raise rfl (takes_of rfl rfl rfl rfl) (pmk_own PySem.F.excBase_ValueError T.x_BadText T.g_BadText T.kp_BadText (raises_own T.be_BadText T.te_BadText) rfl))) pss_nil)
    (pss_one (ps_ret (pv 2)))))))), ?_⟩
    walk_at "j0"
    have tz := txt_210 g
    walk_at "go"
    refine s_lenS (by rw [tx_len]; exact Nat.le_trans tz (by decide)) ?_
    rw [tx_len]
    walk_at "go"
    refine s_dec (fun c => by omega) (fun c => ?_)
    walk_at "go"
    refine u_newReader fun p dx H1 S1 hp e1 => ?_
    walk_at "go"
    refine u_readTree (n := 30) (d := 31) (by decide) ⟨dx, e1⟩ (Nat.zero_le _) (by rw [tx_len]; omega) (fun t' m u H2 h2 B2 R2 hT => ?_) (fun h2 => ?_)
    rotate_left
    · rw [tl_tx, List.drop_zero, prs_all g] at h2
      cases h2
    rw [tl_tx, List.drop_zero, prs_all g] at h2
    cases h2
    have S2 : Same H H2 := fun x uu e => B2 x uu (ne_of_none e hp) (S1 x uu e)
    clear B2 R2 e1 S1
    walk_at "go"
    refine ⟨u, t, rfl, hT, g, fun H3 S3 => ?_⟩
    walk_at "go"
    rw [decide_eq_true rfl]
    walk_at "go"
    exact k _ _ (S2.trans S3) (hT.same S3)
-- _law_right
theorem ok__law_right (T : Txt0 w K mg) : FnG P w K mg base 68 T.a__law_right T.d__law_right ["_law_told_here"] sp_k06_right := by
  refine okG T.F__law_right sc__law_right (fun vs H Q E h => ?_) (fun cdv A outer s H vs Q E hr hG h => ?_)
  · (first | (obtain ⟨rfl, _⟩ := h; rfl) | (obtain ⟨_, rfl, _⟩ := h; rfl) | (obtain ⟨_, _, rfl, _⟩ := h; rfl) | (obtain ⟨_, _, _, rfl, _⟩ := h; rfl) | (obtain ⟨_, _, _, _, rfl, _⟩ := h; rfl) | (obtain ⟨_, _, _, _, _, rfl, _⟩ := h; rfl) | (obtain ⟨_, _, _, _, _, _, rfl, _⟩ := h; rfl) | (obtain ⟨_, _, _, _, _, _, _, rfl, _⟩ := h; rfl) | (obtain ⟨_, _, _, _, _, _, _, _, rfl, _⟩ := h; rfl) | (obtain ⟨_, _, _, _, _, _, _, _, _, rfl, _⟩ := h; rfl) | (obtain ⟨_, _, _, _, _, _, _, _, _, _, rfl, _⟩ := h; rfl) | (obtain ⟨_, _, _, _, _, _, _, _, _, _, _, rfl, _⟩ := h; rfl) | (obtain ⟨_, _, _, _, _, _, _, _, _, _, _, _, rfl, _⟩ := h; rfl))
  · have sc := sc__law_right
    have hu := hr.units
    have hu1 := hu_of hr
    have hu65 := room65 hr
    have hu2 := room200 hr
    obtain ⟨v, t, rfl, hT, g, k⟩ := h
    refine ⟨_, (pss_cons (ps_set (i := 1) sc.nd rfl (by first | exact Or.inl rfl | exact Or.inr rfl) (pe_cl (ok__law_text T 30) (hr.mono (by decide)) hG (by rfl) T.g__law_text T.F__law_text.kp T.b__law_text (takes_of rfl rfl rfl rfl) (pa_cons (pv 0) pa_nil)))
    (pss_cons (ps_set (i := 2) sc.nd rfl (by first | exact Or.inl rfl | exact Or.inr rfl) (pe_cl (ok_shown T) (hr.mono (by decide)) hG (by rfl) T.g_shown T.F_shown.kp T.b_shown (takes_of rfl rfl rfl rfl) (pa_cons (pv 0) pa_nil)))
    (pss_one (ps_ret (pe_and (pe_callB (kIs (K := K)) (by rfl) T.z_isinstance bt_isinstance (pa_cons (pv 2) (pa_cons (pe_bltn (v := .ty "str") (by rfl) T.z_str bt_str rfl) pa_nil))) (pe_and (pe_cmpR (kEq (K := K) hu) (pv 2) (pv 1) (nomark _)) (pe_one (pe_cmpR (kEq (K := K) hu) (pe_callB (kReprA (K := K) hG hu2) (by rfl) T.z_repr bt_repr (pa_cons (pe_cl (ok_read T) (hr.mono (by decide)) hG (by rfl) T.g_read T.F_read.kp T.b_read (takes_of rfl rfl rfl rfl) (pa_cons (pv 1) pa_nil)) pa_nil)) (pe_callB (kReprA (K := K) hG hu2) (by rfl) T.z_repr bt_repr (pa_cons (pv 0) pa_nil)) (nomark _))))))))), ?_⟩
    walk_at "j0"
    walk_at "go"
    refine u_recT hT g ⟨rfl, fun H1 S1 => ?_⟩
    walk_at "go"
    refine ⟨v, t, rfl, hT.same S1, g, fun H2 S2 => ?_⟩
    walk_at "go"
    rw [decide_eq_true rfl, if_pos rfl]
    walk_at "go"
    refine ⟨t, rfl, g, fun u H3 S3 hu => ?_⟩
    walk_at "go"
    refine u_reprT hu g ?_
    walk_at "go"
    refine u_reprT (hT.same ((S1.trans S2).trans S3)) g ?_
    walk_at "go"
    rw [decide_eq_true rfl]
    exact k _ ((S1.trans S2).trans S3)
-- _law_least
theorem ok__law_least (T : Txt0 w K mg) : FnG P w K mg base 1 T.a__law_least T.d__law_least ["_law_told_here"] sp_least := by
  refine okG T.F__law_least sc__law_least (fun vs H Q E h => ?_) (fun cdv A outer s H vs Q E hr hG h => ?_)
  · (first | (obtain ⟨rfl, _⟩ := h; rfl) | (obtain ⟨_, rfl, _⟩ := h; rfl) | (obtain ⟨_, _, rfl, _⟩ := h; rfl) | (obtain ⟨_, _, _, rfl, _⟩ := h; rfl) | (obtain ⟨_, _, _, _, rfl, _⟩ := h; rfl) | (obtain ⟨_, _, _, _, _, rfl, _⟩ := h; rfl) | (obtain ⟨_, _, _, _, _, _, rfl, _⟩ := h; rfl) | (obtain ⟨_, _, _, _, _, _, _, rfl, _⟩ := h; rfl) | (obtain ⟨_, _, _, _, _, _, _, _, rfl, _⟩ := h; rfl) | (obtain ⟨_, _, _, _, _, _, _, _, _, rfl, _⟩ := h; rfl) | (obtain ⟨_, _, _, _, _, _, _, _, _, _, rfl, _⟩ := h; rfl) | (obtain ⟨_, _, _, _, _, _, _, _, _, _, _, rfl, _⟩ := h; rfl) | (obtain ⟨_, _, _, _, _, _, _, _, _, _, _, _, rfl, _⟩ := h; rfl))
  · have sc := sc__law_least
    have hu := hr.units
    have hu1 := hu_of hr
    have hu65 := room65 hr
    have hu2 := room200 hr
    obtain ⟨v, t, rfl, hT, g, k⟩ := h
    refine ⟨_, (pss_cons (ps_while (passes_of rfl) (pt_val (pe_callB (kIs (K := K)) (by rfl) T.z_isinstance bt_isinstance (pa_cons (pv 0) (pa_cons (pe_bltn (v := .ty "tuple") (by rfl) T.z_tuple bt_tuple rfl) pa_nil)))) (pss_one (ps_set (i := 0) sc.nd rfl (by first | exact Or.inl rfl | exact Or.inr rfl) (pe_ix (kIx (K := K)) (pe_ix (kIx (K := K)) (pv 0) pe_int (fun _ _ => rfl)) pe_int (fun _ _ => rfl)))))
    (pss_one (ps_ret (pv 0)))), ?_⟩
    walk_at "j0"
    refine s_seq ?_
    refine ⟨fun m σ' H' => ∃ v' t', σ' = [some v'] ∧ H' = H ∧ TAt H v' t' ∧ t'.Good ∧ t'.least = t.least ∧ m = t'.dep, ⟨_, v, t, rfl, rfl, hT, g, rfl, rfl⟩, ?_⟩
    rintro m σ' H' ⟨v', t', rfl, rfl, hT', g', le, rfl⟩
    cases t' with
    | pt n =>
      have := hT'.int
      subst this
      walk_at "go"
      rw [← le] at k
      exact k
    | nd j ps =>
      obtain ⟨a, b, vs, rfl, ha, hb, hp⟩ := hT'.tup
      walk_at "go"
      match ps, g', hp, le with
      | p :: ps, g', .cons (a := v2) (l₁ := vs) hv hp, le =>
        refine ⟨fun σ' H2 => σ' = [some v2] ∧ H2 = H', fun σ' H2 => ?_, ?_⟩
        · rintro ⟨rfl, rfl⟩
          refine ⟨p.dep, ?_, v2, p, rfl, rfl, hv, (good_part g' List.mem_cons_self).1, ?_, rfl⟩
          · have := dep_mem (t := p) (ps := p :: ps) List.mem_cons_self
            rw [Tr.dep]
            omega
          · rw [← le, least_nd g']
        · walk_at "go"
          refine s_ixT (v := .ref b) (SqT.of ha) rfl ?_
          walk_at "go"
          refine s_ixT (v := v2) (SqT.of hb) (atI_nat (j := 0) rfl) ?_
          walk_at "go"
          exact ⟨rfl, rfl⟩
-- _law_told
theorem ok__law_told (T : Txt0 w K mg) : ∀ d : Nat, FnG P w K mg base (4 + d) T.a__law_told T.d__law_told ["_law_nodes", "_law_at", "_law_names"] (sp__law_told K d)
  | 0 => FnG.none (by rintro vs H Q E ⟨_, _, _, _, _, _, _, _, _, _, _, _, _, _, _, _, _, h, _⟩; omega)
  | d + 1 => by
    have ih := ok__law_told T d

    refine okG T.F__law_told sc__law_told (fun vs H Q E h => ?_) (fun cdv A outer s H vs Q E hr hG h => ?_)
    · obtain ⟨_, _, _, _, _, _, _, _, _, rfl, _⟩ := h
      rfl
    · have hr : Room (4 + d) _ := hr
      have sc := sc__law_told
      have hu := hr.units
      have hu1 := hu_of hr
      have hu65 := room65 hr
      have hu2 := room200 hr
      obtain ⟨nl, nm, rs, cA, N, ab, names, t, par, rfl, hTb, hR, hN, nd, n30, ndp, ltp, hd, k⟩ := h
      refine ⟨_, (pss_cons (ps_set (i := 3) sc.nd rfl (by first | exact Or.inl rfl | exact Or.inr rfl) (pe_ix (kIx (K := K)) (pv 0) (pv 1) (fun _ _ => rfl)))
      (pss_cons (ps_if (pt_cmpR (kEq (K := K) hu) (pe_ix (kIx (K := K)) (pv 3) pe_int (fun _ _ => rfl)) pe_str (nomark _)) (pss_one (ps_ret (pe_ix (kIx (K := K)) (pv 2) (pe_ix (kIx (K := K)) (pv 3) pe_int (fun _ _ => rfl)) (fun _ _ => rfl)))) pss_nil)
      (pss_cons (ps_setLc (i := 4) (own := [("_law_piece", 5)]) rfl sc.nd rfl rfl (sw_true rfl rfl rfl (by decide +kernel)) (kList (K := K) (pe_ix (kIx (K := K)) (pv 3) pe_int (fun _ _ => rfl))) (blkOk_by (own := [("_law_piece", 5)]) (N := ["_law_nodes", "_law_at", "_law_names", "_law_node", "_law_parts", "_law_piece"]) (sc := defScope st__law_told) (by decide +kernel)) (fun _ _ _ _ _ => (pg_name (i := 5) sc.nd rfl (Or.inl rfl))) (fun _ _ _ _ _ => pts_nil) (fun _ _ _ _ _ => (pe_cl ih (hr.mono (by omega)) hG (by rfl) T.g__law_told T.F__law_told.kp T.b__law_told takes0 (pa_cons (pv 0) (pa_cons (pv 5) (pa_cons (pv 2) pa_nil))))))
      (pss_one (ps_ret (pe_tup (pa_cons (pe_ix (kIx (K := K)) (pv 3) pe_int (fun _ _ => rfl)) (pa_cons (pe_callTy (kTupleO (K := K)) (by rfl) T.z_tuple bt_tuple (pa_cons (pe_callBK (kSortF (K := K) (ok__law_least T) (hr.mono (by omega)) hG T.b__law_least (by rfl)) (by rfl) T.z_sorted bt_sorted (pa_cons (pv 4) pa_nil) (pk_cons (pe_glob (v := .ref T.a__law_least) (by rfl) T.g__law_least rfl) pk_nil)) pa_nil)) pa_nil)))))))), ?_⟩
      walk_at "j0"
      have hR' := hR
      cases t with
      | leaf i p =>
        rw [Rep] at hR'
        have il := (List.getElem?_eq_some_iff.mp hR'.1).1
        obtain ⟨r, hr⟩ : ∃ r, rs[i]? = some r := ⟨_, List.getElem?_eq_getElem (by rw [hTb.len]; exact il)⟩
        have hn := hTb.at_ i _ r hR'.1 hr
        have pl : p < names.length := ltp p (by rw [IT.pts]; exact List.mem_singleton.mpr rfl)
        walk_at "go"
        refine s_ixL (v := .ref r) (SqL.of hTb.hn) (atI_nat (by rw [List.getElem?_map, show (IT.leaf i p).id = i from rfl, hr]; rfl)) ?_
        walk_at "go"
        refine s_ixL (v := .str "") (SqL.of hn) (atI_nat (j := 0) rfl) ?_
        walk_at "go"
        refine s_ixL (v := .int p) (SqL.of hn) (atI_nat (j := 1) rfl) ?_
        refine s_ixL (v := .int (names.getD p 0 : Nat)) hN (atI_nat (msk_get pl)) ?_
        exact k _ _ (.pt (names.getD p 0)) (Same.refl _) (by rw [Tr.Good]; exact n30 _ (getD_mem pl)) rfl (by rw [Tr.pts, IT.pts]; exact .refl _) (.pt _)
      | nd i w cs =>
        rw [Rep] at hR'
        obtain ⟨e1, e2, l2, e3⟩ := hR'
        have e3 := repL_iff.mp e3
        have il := (List.getElem?_eq_some_iff.mp e1).1
        obtain ⟨r, hr⟩ : ∃ r, rs[i]? = some r := ⟨_, List.getElem?_eq_getElem (by rw [hTb.len]; exact il)⟩
        have hn := hTb.at_ i _ r e1 hr
        obtain ⟨hn1, hn2⟩ := hn
        walk_at "go"
        refine s_ixL (v := .ref r) (SqL.of hTb.hn) (atI_nat (by rw [List.getElem?_map, show (IT.nd i w cs).id = i from rfl, hr]; rfl)) ?_
        walk_at "go"
        refine s_ixL (v := .str (wd w)) (SqL.of hn1) (atI_nat (j := 0) rfl) ?_
        walk_at "go"
        rw [show decide (wd w = ("" : Str)) = false from decide_eq_false (wd_ne w)]
        walk_at "go"
        refine s_ixL (v := .ref (cA i)) (SqL.of hn1) (atI_nat (j := 1) rfl) ?_
        walk_at "go"
        have np : (iptsL cs).Nodup := by rw [IT.pts] at ndp; exact ndp
        have lp : ∀ p ∈ iptsL cs, p < names.length := fun p hp => ltp p (by rw [IT.pts]; exact hp)
        have l30 : cs.length ≤ 30 := by
          have h1 : names.length ≤ 30 := pts_le (n := 30) nd n30
          have h2 := pts_le np lp
          have : ∀ ds : List IT, (∀ d ∈ ds, 0 < d.pts.length) → ds.length ≤ (iptsL ds).length := by
            intro ds
            induction ds with
            | nil => intro _; exact Nat.zero_le _
            | cons d ds ih2 =>
              intro h
              have h1 := ih2 fun e he => h e (List.mem_cons_of_mem _ he)
              have h2 := h d List.mem_cons_self
              rw [iptsL, List.length_append, List.length_cons]
              omega
          have h3 := this cs fun c hc => by have := idep_lt (e3 c hc).1; omega
          omega
        have dp : ∀ c ∈ cs, c.dep < d := fun c hc => by
          have h1 := idep_mem hc
          rw [IT.dep] at hd
          omega
        have len : (msk (cs.map IT.id)).length = cs.length := by rw [msk_length, List.length_map]
        intro D hD
        refine lc_each (K := K) (F := fun H2 u c => Stands names H2 u c) (ps := cs) (SqL.of hn2) len (by omega) hD (fun H1 H2 y p s h => by obtain ⟨T, a, b, c, h⟩ := h; exact ⟨T, a, b, c, h.same s⟩) (fun H1 y p us zs _ e h => by obtain ⟨T, a, b, c, h⟩ := h; exact ⟨T, a, b, c, h.keep (Tups.upd e fun _ z => by cases z)⟩) (fun j x c H' us hx hci S eD Q' q => ?_) (fun x => rfl) (fun us H' S eD hF => ?_)
        · have jl : j < (cs.map IT.id).length := by rw [List.length_map]; exact (List.getElem?_eq_some_iff.mp hci).1
          rw [msk_get jl] at hx
          cases hx
          have ec : (cs.map IT.id).getD j 0 = c.id := by rw [List.getD_eq_getElem?_getD, List.getElem?_map, hci]; rfl
          rw [ec]
          have cm := List.mem_of_getElem? hci
          obtain ⟨q1, q2⟩ := ipts_part np cm
          walk_at "jlc"
          walk_at "go"
          exact ⟨nl, nm, rs, cA, N, ab, names, c, some i, rfl, hTb.same S, (e3 c cm).1, Same.seq S hN, nd, n30, q1, fun p hp => lp p (q2 p hp), dp c cm, fun u H4 T S4 g1 g2 g3 g4 => q u H4 S4 ⟨T, g1, g2, g3, g4⟩⟩
        obtain ⟨Ts, t1, t2, t3, t4⟩ := stands_all hF
        have ndT : (ptsL Ts).Nodup := t3.nodup_iff.mpr (map_nodup nd np lp)
        have gT : ∀ T ∈ Ts, T.Good ∧ T.word ≠ wd w := fun T hT => by
          obtain ⟨g, c, hc, e⟩ := t2 T hT
          exact ⟨g, by rw [e]; exact (e3 c hc).2⟩
        walk_at "go"
        refine s_ixL (v := .str (wd w)) (SqL.of (S _ _ hn1)) (atI_nat (j := 0) rfl) ?_
        walk_at "go"
        refine s_sortLeast (SqL.of eD) t1 (fun T hT => (gT T hT).1) fun ys us2 p H3 S3 hp ep pm hT3 srt => ?_
        have good := sorted_good (j := w) pm (by rw [t4]; exact l2) gT ndT srt
        walk_at "go"
        refine s_tupleO (SqL.of ep) fun tp htp => ?_
        walk_at "go"
        intro t5 ht5
        refine k _ _ (.nd w us2) (((S.trans S3).trans (Same.new htp)).trans (Same.new ht5)) good rfl ?_ (.nd upd_same (up_old ht5 upd_same) (TAts.same ((Same.new htp).trans (Same.new ht5)) hT3))
        rw [Tr.pts, IT.pts]
        refine List.Perm.trans ?_ t3
        rw [ptsL_eq, ptsL_eq]
        exact pm.flatMap_right _
-- _law_tree
theorem ok__law_tree (T : Txt0 w K mg) : FnG P w K mg base 35 T.a__law_tree T.d__law_tree ["_law_script", "_law_most", "_law_names"] (sp__law_tree K) := by
  refine okG T.F__law_tree sc__law_tree (fun vs H Q E h => ?_) (fun cdv A outer s H vs Q E hr hG h => ?_)
  · (first | (obtain ⟨rfl, _⟩ := h; rfl) | (obtain ⟨_, rfl, _⟩ := h; rfl) | (obtain ⟨_, _, rfl, _⟩ := h; rfl) | (obtain ⟨_, _, _, rfl, _⟩ := h; rfl) | (obtain ⟨_, _, _, _, rfl, _⟩ := h; rfl) | (obtain ⟨_, _, _, _, _, rfl, _⟩ := h; rfl) | (obtain ⟨_, _, _, _, _, _, rfl, _⟩ := h; rfl) | (obtain ⟨_, _, _, _, _, _, _, rfl, _⟩ := h; rfl) | (obtain ⟨_, _, _, _, _, _, _, _, rfl, _⟩ := h; rfl) | (obtain ⟨_, _, _, _, _, _, _, _, _, rfl, _⟩ := h; rfl) | (obtain ⟨_, _, _, _, _, _, _, _, _, _, rfl, _⟩ := h; rfl) | (obtain ⟨_, _, _, _, _, _, _, _, _, _, _, rfl, _⟩ := h; rfl) | (obtain ⟨_, _, _, _, _, _, _, _, _, _, _, _, rfl, _⟩ := h; rfl))
  · have sc := sc__law_tree
    have hu := hr.units
    have hu1 := hu_of hr
    have hu65 := room65 hr
    have hu2 := room200 hr
    obtain ⟨a, nm, ns, most, names, rfl, hS, hl, m1, m30, hN, nd, n30, hle, k⟩ := h
    refine ⟨_, (pss_cons (ps_set (i := 3) sc.nd rfl (by first | exact Or.inl rfl | exact Or.inr rfl) (pe_lst (pa_cons (pe_lst (pa_cons pe_str (pa_cons pe_int pa_nil))) pa_nil)))
    (pss_cons (ps_set (i := 4) sc.nd rfl (by first | exact Or.inl rfl | exact Or.inr rfl) (pe_lst (pa_cons pe_non pa_nil)))
    (pss_cons (ps_set (i := 5) sc.nd rfl (by first | exact Or.inl rfl | exact Or.inr rfl) (pe_lst (pa_cons pe_int pa_nil)))
    (pss_cons (ps_for (passes_of rfl) rfl (pi_range1 (by rfl) T.z_range (pa_cons (pe_callB (kMin2 rfl) (by rfl) T.z_min bt_min (pa_cons (pe_op op_sub (pv 1) pe_int) (pa_cons (pe_callB (kLen (K := K)) (by rfl) T.z_len bt_len (pa_cons (pv 0) pa_nil)) pa_nil))) pa_nil)) (pg_name (i := 6) sc.nd rfl (by first | exact Or.inl rfl | exact Or.inr rfl))
    (pss_cons (ps_set (i := 7) sc.nd rfl (by first | exact Or.inl rfl | exact Or.inr rfl) (pe_cl (ok__law_number T) (hr.mono (by decide)) hG (by rfl) T.g__law_number T.F__law_number.kp T.b__law_number (takes_of rfl rfl rfl rfl) (pa_cons (pv 0) (pa_cons (pv 6) pa_nil))))
    (pss_cons (ps_set (i := 8) sc.nd rfl (by first | exact Or.inl rfl | exact Or.inr rfl) (pe_ix (kIx (K := K)) (pv 5) (pe_op op_mod (pe_op op_fdiv (pv 7) pe_int) (pe_callB (kLen (K := K)) (by rfl) T.z_len bt_len (pa_cons (pv 5) pa_nil))) (fun _ _ => rfl)))
    (pss_cons (ps_set (i := 9) sc.nd rfl (by first | exact Or.inl rfl | exact Or.inr rfl) (pe_ix (kIx (K := K)) (pe_lst (pa_cons pe_str (pa_cons pe_str pa_nil))) (pe_op op_mod (pv 7) pe_int) (fun _ _ => rfl)))
    (pss_cons (ps_expr (pe_bm PySem.F.plainAttrs_list PySem.F.slot_list_append PySem.F.type_list_append mt_append (pv 5) (pa_cons (pe_callB (kLen (K := K)) (by rfl) T.z_len bt_len (pa_cons (pv 3) pa_nil)) pa_nil)))
    (pss_cons (ps_expr (pe_bm PySem.F.plainAttrs_list PySem.F.slot_list_append PySem.F.type_list_append mt_append (pv 3) (pa_cons (pe_lst (pa_cons pe_str (pa_cons (pe_op op_sub (pe_callB (kLen (K := K)) (by rfl) T.z_len bt_len (pa_cons (pv 5) pa_nil)) pe_int) pa_nil))) pa_nil)))
    (pss_cons (ps_if (PW.pt (pw_and (pt_cmpR op_notN1 (pe_ix (kIx (K := K)) (pv 4) (pv 8) (fun _ _ => rfl)) pe_non (nomark _)) (pw_and1 (pt_cmpR (kEq (K := K) hu) (pe_ix (kIx (K := K)) (pe_ix (kIx (K := K)) (pv 3) (pe_ix (kIx (K := K)) (pv 4) (pv 8) (fun _ _ => rfl)) (fun _ _ => rfl)) pe_int (fun _ _ => rfl)) (pv 9) (nomark _))))) (pss_cons (ps_expr (pe_bm PySem.F.plainAttrs_list PySem.F.slot_list_append PySem.F.type_list_append mt_append (pe_ix (kIx (K := K)) (pe_ix (kIx (K := K)) (pv 3) (pe_ix (kIx (K := K)) (pv 4) (pv 8) (fun _ _ => rfl)) (fun _ _ => rfl)) pe_int (fun _ _ => rfl)) (pa_cons (pe_op op_sub (pe_callB (kLen (K := K)) (by rfl) T.z_len bt_len (pa_cons (pv 3) pa_nil)) pe_int) pa_nil)))
    (pss_cons (ps_expr (pe_bm PySem.F.plainAttrs_list PySem.F.slot_list_append PySem.F.type_list_append mt_append (pv 4) (pa_cons (pe_ix (kIx (K := K)) (pv 4) (pv 8) (fun _ _ => rfl)) pa_nil)))
    (pss_one ps_continue))) pss_nil)
    (pss_cons (ps_expr (pe_bm PySem.F.plainAttrs_list PySem.F.slot_list_append PySem.F.type_list_append mt_append (pv 4) (pa_cons (pv 8) pa_nil)))
    (pss_cons (ps_asg (pe_callB (kLen (K := K)) (by rfl) T.z_len bt_len (pa_cons (pv 3) pa_nil)) (pg_sub (pv 5) (pe_bm PySem.F.plainAttrs_list PySem.F.slot_list_index PySem.F.type_list_index (kIndex (K := K)) (pv 5) (pa_cons (pv 8) pa_nil)) set_list))
    (pss_cons (ps_expr (pe_bm PySem.F.plainAttrs_list PySem.F.slot_list_append PySem.F.type_list_append mt_append (pv 4) (pa_cons (pv 8) pa_nil)))
    (pss_cons (ps_expr (pe_bm PySem.F.plainAttrs_list PySem.F.slot_list_append PySem.F.type_list_append mt_append (pv 3) (pa_cons (pe_ix (kIx (K := K)) (pv 3) (pv 8) (fun _ _ => rfl)) pa_nil)))
    (pss_one (ps_asg (pe_lst (pa_cons (pv 9) (pa_cons (pe_lst (pa_cons (pe_op op_sub (pe_callB (kLen (K := K)) (by rfl) T.z_len bt_len (pa_cons (pv 3) pa_nil)) pe_int) (pa_cons (pe_op op_sub (pe_callB (kLen (K := K)) (by rfl) T.z_len bt_len (pa_cons (pv 3) pa_nil)) pe_int) pa_nil))) pa_nil))) (pg_sub (pv 3) (pv 8) set_list))))))))))))))
    (pss_one (ps_ret (pe_cl (ok__law_told T 30) (hr.mono (by decide)) hG (by rfl) T.g__law_told T.F__law_told.kp T.b__law_told (takes_of rfl rfl rfl rfl) (pa_cons (pv 3) (pa_cons pe_int (pa_cons (pv 2) pa_nil)))))))))), ?_⟩
    walk_at "j0"
    walk_at "go"
    intro r0 hr0
    walk_at "go"
    intro nl hnl
    walk_at "go"
    intro al hal
    walk_at "go"
    intro ll hll
    walk_at "go"
    refine s_lenL (.inl (Same.seq ((((Same.new hr0).trans (Same.new hnl)).trans (Same.new hal)).trans (Same.new hll)) hS)) ?_
    rw [List.length_map]
    rw [show (most : Int) - 1 = ((most - 1 : Nat) : Int) by omega]
    walk_at "go"
    rw [show (((min (most - 1) ns.length : Nat) : Int)).toNat = min (most - 1) ns.length by omega]
    generalize hK : min (most - 1) ns.length = cnt at hle k ⊢
    have cnt29 : cnt ≤ 29 := by omega
    have S0 : Same H (upd (upd (upd (upd H r0 (.lst [.str "", .int 0])) nl (.lst [.ref r0])) al (.lst [.non])) ll (.lst [.int 0])) := (((Same.new hr0).trans (Same.new hnl)).trans (Same.new hal)).trans (Same.new hll)
    have G0 : GrowAt H (upd (upd (upd (upd H r0 (.lst [.str "", .int 0])) nl (.lst [.ref r0])) al (.lst [.non])) ll (.lst [.int 0])) nl al ll [r0] (fun _ => r0) [.leaf 0] [none] [0] := by
      have f1 : H nl = none := free_of hnl
      have f2 : H al = none := free_of (free_of hal)
      have f3 : H ll = none := free_of (free_of (free_of hll))
      have n1 : nl ≠ al := ne_of_none upd_same hal
      have n2 : nl ≠ ll := ne_of_none (up_old hal upd_same) hll
      have n3 : al ≠ ll := ne_of_none upd_same hll
      refine ⟨S0, up_old hll (up_old hal upd_same), up_old hll upd_same, upd_same, ⟨f1, f2, f3⟩, ⟨n1, n2, n3⟩, rfl, fun i n r h1 h2 => ?_, fun i w is h => ?_⟩
      · match i with
        | 0 =>
          simp at h1 h2
          subst h1 h2
          exact up_old hll (up_old hal (up_old hnl upd_same))
        | i + 1 => simp at h1
      · match i with
        | 0 => cases h
        | i + 1 => cases h
    refine for_range (lo := 0) (n := cnt) (fun i σ H' => ∃ (v6 v7 v8 v9 : Option V) (rs : List Addr) (cA : Nat → Addr) (N : List Nd) (ab : List (Option Nat)) (lv : List Nat) (t : IT), σ = [some (.ref a), some (.int most), some (.ref nm), some (.ref nl), some (.ref al), some (.ref ll), v6, v7, v8, v9] ∧ GrowAt H H' nl al ll rs cA N ab lv ∧ Grown N ab lv t ∧ lv.length = i + 1 ∧ N.length ≤ 1 + 2 * i) ⟨none, none, none, none, _, _, _, _, _, _, rfl, G0, grown_start, rfl, by simp⟩ ?_ ?_
    · rintro i σ H' hi ⟨v6, v7, v8, v9, rs, cA, N, ab, lv, t, rfl, G, g, lvl, nle⟩
      rw [Int.zero_add]
      walk_at "go"
      refine u__law_number (G.S.seq hS) (by omega) ?_
      generalize numN ns i = c
      walk_at "go"
      refine s_lenL (.inl (SqL.of G.hl)) ?_
      rw [msk_length]
      rw [show (c : Int) / 2 = ((c / 2 : Nat) : Int) by omega]
      refine s_modN (by omega) ?_
      have hk : c / 2 % lv.length < lv.length := Nat.mod_lt _ (by omega)
      generalize c / 2 % lv.length = k0 at hk ⊢
      refine s_ixL (v := .int (lv.getD k0 0 : Nat)) (SqL.of G.hl) (atI_nat (msk_get hk)) ?_
      have hko := getD_at hk
      generalize lv.getD k0 0 = o at hko ⊢
      obtain ⟨ol, ⟨x0, ho⟩, hab⟩ := g.leaf hko
      walk_at "go"
      intro wl hwl
      walk_at "go"
      obtain ⟨w, hw⟩ : ∃ w : Bool, ([.str "side", .str "join"] : List V)[c % 2]? = some (.str (wd w)) := by
        have : c % 2 = 0 ∨ c % 2 = 1 := by omega
        rcases this with e | e <;> rw [e]
        · exact ⟨false, rfl⟩
        · exact ⟨true, rfl⟩
      rw [show (c : Int) % 2 = ((c % 2 : Nat) : Int) by omega]
      refine s_ixL (SqL.of upd_same) (atI_nat hw) ?_
      have G1 := G.same (Same.new (o := .lst [.str "side", .str "join"]) hwl)
      generalize upd H' wl (.lst [.str "side", .str "join"]) = H1 at G1 ⊢
      clear hwl G hw
      have nb : N.length ≤ 100 := by omega
      have e1 := G1.hl
      have e2 := G1.hn
      walk_at "go"
      refine s_lenL (.inl (SqL.of e2)) ?_
      rw [List.length_map, G1.len]
      walk_at "go"
      refine s_append e1 (Nat.lt_of_lt_of_le (m := 100) (by rw [msk_length]; omega) (by decide)) ?_
      rw [msk_app]
      have G2 := G1.setL (lv ++ [N.length])
      generalize upd H1 ll (.lst (msk (lv ++ [N.length]))) = H2 at G2 ⊢
      clear e1 e2 G1
      have e1 := G2.hl
      have e2 := G2.hn
      walk_at "go"
      refine s_lenL (.inl (SqL.of e1)) ?_
      rw [msk_length, List.length_append, List.length_singleton, show ((lv.length + 1 : Nat) : Int) = (lv.length : Int) + 1 by omega]
      walk_at "go"
      rw [show (lv.length : Int) + 1 - 1 = (lv.length : Int) by omega]
      intro r hr
      have e3 := up_old (o' := .lst [.str "", .int lv.length]) hr e2
      walk_at "go"
      refine s_append e3 (Nat.lt_of_lt_of_le (m := 200) (by rw [List.length_map, G2.len]; omega) (by decide)) ?_
      rw [show rs.map V.ref ++ [V.ref r] = (rs ++ [r]).map V.ref by simp]
      have G3 := (G2.same (Same.new (o := .lst [.str "", .int lv.length]) hr)).push upd_same
      generalize upd (upd H2 r (.lst [.str "", .int lv.length])) nl (.lst ((rs ++ [r]).map V.ref)) = H3 at G3 ⊢
      clear e1 e2 e3 G2 hr
      have el := G3.hl
      have en := G3.hn
      have ea := G3.ha
      have rl : rs.length = N.length := by have := G3.len; simpa using this
      obtain ⟨ro, hro⟩ : ∃ x, rs[o]? = some x := ⟨_, List.getElem?_eq_getElem (by rw [rl]; exact ol)⟩
      have nro := G3.at_ o _ ro (get_app ho) (get_app hro)
      by_cases hA : ∃ q is, q ∈ t.iids ∧ ab[o]? = some (some q) ∧ N[q]? = some (.inner w is)
      · obtain ⟨q, is, hq, hab', hN'⟩ := hA
        have hN1 := get_app (r := [Nd.leaf lv.length]) hN'
        obtain ⟨rq, hrq⟩ : ∃ x, (rs ++ [r])[q]? = some x := ⟨_, List.getElem?_eq_getElem (by rw [G3.len]; exact (List.getElem?_eq_some_iff.mp hN1).1)⟩
        have nq := G3.at_ q _ rq hN1 hrq
        obtain ⟨nq1, nq2⟩ := nq
        walk_at "go"
        refine s_ixL (v := .int q) (SqL.of ea) (atI_nat (opt_get hab')) ?_
        walk_at "go"
        refine s_ixL (v := .int q) (SqL.of ea) (atI_nat (opt_get hab')) ?_
        refine s_ixL (v := .ref rq) (SqL.of en) (atI_nat (ref_get hrq)) ?_
        walk_at "go"
        refine s_ixL (v := .str (wd w)) (SqL.of nq1) (atI_nat (j := 0) rfl) ?_
        walk_at "go"
        rw [decide_eq_true rfl]
        walk_at "go"
        refine s_ixL (v := .int q) (SqL.of ea) (atI_nat (opt_get hab')) ?_
        refine s_ixL (v := .ref rq) (SqL.of en) (atI_nat (ref_get hrq)) ?_
        walk_at "go"
        refine s_ixL (v := .ref (cA q)) (SqL.of nq1) (atI_nat (j := 1) rfl) ?_
        refine s_tyL (SqL.of nq2) ?_
        walk_at "go"
        refine s_lenL (.inl (SqL.of en)) ?_
        rw [List.length_map, G3.len, List.length_append, List.length_singleton, show ((N.length + 1 : Nat) : Int) = (N.length : Int) + 1 by omega]
        walk_at "go"
        rw [show (N.length : Int) + 1 - 1 = (N.length : Int) by omega]
        have il : is.length ≤ 100 := by
          have h1 := rep_kids g.rep q hq w is hN'
          rw [g.pts.length_eq, List.length_range] at h1
          omega
        refine s_append nq2 (Nat.lt_of_lt_of_le (m := 200) (by rw [msk_length]; omega) (by decide)) ?_
        rw [msk_app]
        have G4 := G3.part hN1 N.length
        generalize upd H3 (cA q) (.lst (msk (is ++ [N.length]))) = H4 at G4 ⊢
        have ea4 := G4.ha
        walk_at "go"
        refine s_ixL (v := .int q) (SqL.of ea4) (atI_nat (opt_get hab')) ?_
        walk_at "go"
        refine s_append ea4 (Nat.lt_of_lt_of_le (m := 200) (by rw [List.length_map, g.len]; omega) (by decide)) ?_
        rw [show ab.map optV ++ [V.int q] = (ab ++ [some q]).map optV by simp [optV]]
        have G5 := G4.setA (ab ++ [some q])
        walk_at "go"
        exact ⟨_, _, _, _, _, _, _, _, _, _, rfl, G5, g.app hq hN', by simp [lvl], by rw [List.length_set, List.length_append, List.length_singleton]; omega⟩
      · have no : ∀ q v is, ab[o]? = some (some q) → N[q]? = some (.inner v is) → v ≠ w := fun q v is h1 h2 z => by
          subst z
          rcases hab with hab | ⟨q', w', is', hq', hab', hN'⟩
          · rw [hab] at h1; cases h1
          · rw [hab'] at h1
            cases h1
            exact hA ⟨_, _, hq', hab', h2⟩
        have tst : ∀ Q' : Bool → Hp → Prop, Q' false H3 → tAnd (tTest (tOp rNotN (tOp (rIx K) (tVar 4) (tVar 8)) (tC V.non))) (tTest (tOp (rEqA K) (tOp (rIx K) (tOp (rIx K) (tVar 3) (tOp (rIx K) (tVar 4) (tVar 8))) (tC (V.int 0))) (tVar 9)))
            [some (.ref a), some (.int most), some (.ref nm), some (.ref nl), some (.ref al), some (.ref ll), some (.int i), some (.int c), some (.int o), some (.str (wd w))] H3 Q' := by
          intro Q' q'
          rcases hab with hab | ⟨q, w', is, hq, hab', hN'⟩
          · walk_at "go"
            refine s_ixL (v := .non) (SqL.of ea) (atI_nat (opt_get hab)) ?_
            walk_at "go"
            exact q'
          · have hN1 := get_app (r := [Nd.leaf lv.length]) hN'
            obtain ⟨rq, hrq⟩ : ∃ x, (rs ++ [r])[q]? = some x := ⟨_, List.getElem?_eq_getElem (by rw [G3.len]; exact (List.getElem?_eq_some_iff.mp hN1).1)⟩
            have nq := (G3.at_ q _ rq hN1 hrq).1
            walk_at "go"
            refine s_ixL (v := .int q) (SqL.of ea) (atI_nat (opt_get hab')) ?_
            walk_at "go"
            refine s_ixL (v := .int q) (SqL.of ea) (atI_nat (opt_get hab')) ?_
            refine s_ixL (v := .ref rq) (SqL.of en) (atI_nat (ref_get hrq)) ?_
            walk_at "go"
            refine s_ixL (v := .str (wd w')) (SqL.of nq) (atI_nat (j := 0) rfl) ?_
            walk_at "go"
            rw [decide_eq_false (fun z => no q w' is hab' hN' (wd_inj z))]
            exact q'
        refine s_next ?_
        refine s_seq (s_ifS (tst _ ?_))
        walk_at "go"
        refine s_append ea (Nat.lt_of_lt_of_le (m := 200) (by rw [List.length_map, g.len]; omega) (by decide)) ?_
        rw [show ab.map optV ++ [V.int o] = (ab ++ [some o]).map optV by simp [optV]]
        have G4 := G3.setA (ab ++ [some o])
        generalize upd H3 al (.lst ((ab ++ [some o]).map optV)) = H4 at G4 ⊢
        clear nro
        have nro := G4.at_ o _ ro (get_app ho) (get_app hro)
        have el4 := G4.hl
        have en4 := G4.hn
        walk_at "go"
        refine s_lenL (.inl (SqL.of en4)) ?_
        rw [List.length_map, G4.len, List.length_append, List.length_singleton]
        walk_at "go"
        have ndl := g.lvp.nodup_iff.mpr g.nd2.1
        have hko1 := get_app (r := [N.length]) hko
        refine s_index (SqL.of el4) hko1 (fun m hm z => ?_) ?_
        · rw [List.getElem?_append_left (by omega)] at z
          have hml : m < lv.length := by omega
          have h1 := (List.getElem?_eq_some_iff.mp z).2
          have h2 := (List.getElem?_eq_some_iff.mp hko).2
          have := (List.getElem_inj ndl).mp (h1.trans h2.symm)
          omega
        refine s_setN el4 (by rw [msk_length, List.length_append]; omega) ?_
        rw [msk_set]
        have G5 := G4.setL ((lv ++ [N.length]).set k0 (N.length + 1))
        generalize upd H4 ll (.lst (msk ((lv ++ [N.length]).set k0 (N.length + 1)))) = H5 at G5 ⊢
        have ea5 := G5.ha
        walk_at "go"
        refine s_append ea5 (Nat.lt_of_lt_of_le (m := 200) (by rw [List.length_map, List.length_append, g.len, List.length_singleton]; omega) (by decide)) ?_
        rw [show (ab ++ [some o]).map optV ++ [V.int o] = (ab ++ [some o, some o]).map optV by simp [optV]]
        have G6 := G5.setA (ab ++ [some o, some o])
        generalize upd H5 al (.lst ((ab ++ [some o, some o]).map optV)) = H6 at G6 ⊢
        have en6 := G6.hn
        walk_at "go"
        refine s_ixL (v := .ref ro) (SqL.of en6) (atI_nat (ref_get (get_app hro))) ?_
        walk_at "go"
        refine s_append en6 (Nat.lt_of_lt_of_le (m := 200) (by rw [List.length_map, G6.len, List.length_append, List.length_singleton]; omega) (by decide)) ?_
        rw [show (rs ++ [r]).map V.ref ++ [V.ref ro] = ((rs ++ [r]) ++ [ro]).map V.ref by simp]
        have G7 := G6.push (G6.at_ o _ ro (get_app ho) (get_app hro))
        generalize upd H6 nl (.lst (((rs ++ [r]) ++ [ro]).map V.ref)) = H7 at G7 ⊢
        have en7 := G7.hn
        have l7 : (((rs ++ [r]) ++ [ro]).map V.ref).length = N.length + 2 := by rw [List.length_map, G7.len]; simp
        walk_at "go"
        refine s_lenL (.inl (SqL.of en7)) ?_
        rw [l7]
        walk_at "go"
        refine s_lenL (.inl (SqL.of en7)) ?_
        rw [l7]
        walk_at "go"
        rw [show ((N.length + 2 : Nat) : Int) - 1 = ((N.length + 1 : Nat) : Int) by omega, show ((N.length + 2 : Nat) : Int) - 2 = (N.length : Int) by omega]
        intro c1 hc1
        walk_at "go"
        intro r1 hr1
        have S7 : Same H7 (upd (upd H7 c1 (.lst [.int ((N.length + 1 : Nat) : Int), .int (N.length : Nat)])) r1 (.lst [.str (wd w), .ref c1])) := (Same.new hc1).trans (Same.new hr1)
        have hc2 : (upd (upd H7 c1 (.lst [.int ((N.length + 1 : Nat) : Int), .int (N.length : Nat)])) r1 (.lst [.str (wd w), .ref c1])) c1 = some (.lst (msk [N.length + 1, N.length])) := up_old hr1 upd_same
        have hr2 : (upd (upd H7 c1 (.lst [.int ((N.length + 1 : Nat) : Int), .int (N.length : Nat)])) r1 (.lst [.str (wd w), .ref c1])) r1 = some (.lst [.str (wd w), .ref c1]) := upd_same
        have G8 := G7.same S7
        have hc0 : H7 c1 = none := hc1
        generalize upd (upd H7 c1 (.lst [.int ((N.length + 1 : Nat) : Int), .int (N.length : Nat)])) r1 (.lst [.str (wd w), .ref c1]) = H8 at S7 hc2 hr2 G8 ⊢
        have ho8 : ((N ++ [Nd.leaf lv.length]) ++ [Nd.leaf x0])[o]? = some (.leaf x0) := get_app (get_app ho)
        have G9 := G8.turn ho8 hr2 hc2 (G7.S.free hc0) (ne_of_none G7.hn hc0).symm (ne_of_none G7.ha hc0).symm (ne_of_none G7.hl hc0).symm (fun i v js h => by
          obtain ⟨r', hr'⟩ : ∃ x, ((rs ++ [r]) ++ [ro])[i]? = some x := ⟨_, List.getElem?_eq_getElem (by rw [G7.len]; exact (List.getElem?_eq_some_iff.mp h).1)⟩
          exact ne_of_none (G7.at_ i _ r' h hr').2 hc0)
        walk_at "go"
        refine s_setN G8.hn (by rw [l7]; omega) ?_
        rw [show (((rs ++ [r]) ++ [ro]).map V.ref).set o (V.ref r1) = (((rs ++ [r]) ++ [ro]).set o r1).map V.ref by rw [List.map_set]]
        have gS := g.spl hko ho no
        rw [show (N ++ [Nd.leaf lv.length, Nd.leaf x0]) = (N ++ [Nd.leaf lv.length]) ++ [Nd.leaf x0] by simp] at gS
        exact ⟨_, _, _, _, _, _, _, _, _, _, rfl, G9, gS, by simp [lvl], by simp; omega⟩
    · rintro σ H' ⟨v6, v7, v8, v9, rs, cA, N, ab, lv, t, rfl, G, g, lvl, nle⟩
      walk_at "go"
      have pl : ∀ p ∈ t.pts, p < names.length := fun p hp => by
        have := List.mem_range.mp (g.pts.mem_iff.mp hp)
        omega
      have dl := idep_lt g.rep
      have tl : t.pts.length = cnt + 1 := by rw [g.pts.length_eq, List.length_range]; exact lvl
      refine ⟨nl, nm, rs, cA, N, ab, names, t, none, by rw [g.root]; rfl, G.tab, g.rep, G.S.seq hN, nd, n30, g.pts.nodup_iff.mpr List.nodup_range, pl, by omega, fun u H4 T S4 good _ pm hT => ?_⟩
      refine k u H4 T (G.S.trans S4) good (pm.trans ?_) hT
      have := g.pts.map fun p => names.getD p 0
      rw [lvl, take_range (by omega), Nat.add_comm] at this
      exact this
-- law
theorem ok_law (T : Txt0 w K mg) : FnG P w K mg base 69 T.a_law T.d_law ["_law_script"] (sp_law K) := by
  refine okG T.F_law sc_law (fun vs H Q E h => ?_) (fun cdv A outer s H vs Q E hr hG h => ?_)
  · (first | (obtain ⟨rfl, _⟩ := h; rfl) | (obtain ⟨_, rfl, _⟩ := h; rfl) | (obtain ⟨_, _, rfl, _⟩ := h; rfl) | (obtain ⟨_, _, _, rfl, _⟩ := h; rfl) | (obtain ⟨_, _, _, _, rfl, _⟩ := h; rfl) | (obtain ⟨_, _, _, _, _, rfl, _⟩ := h; rfl) | (obtain ⟨_, _, _, _, _, _, rfl, _⟩ := h; rfl) | (obtain ⟨_, _, _, _, _, _, _, rfl, _⟩ := h; rfl) | (obtain ⟨_, _, _, _, _, _, _, _, rfl, _⟩ := h; rfl) | (obtain ⟨_, _, _, _, _, _, _, _, _, rfl, _⟩ := h; rfl) | (obtain ⟨_, _, _, _, _, _, _, _, _, _, rfl, _⟩ := h; rfl) | (obtain ⟨_, _, _, _, _, _, _, _, _, _, _, rfl, _⟩ := h; rfl) | (obtain ⟨_, _, _, _, _, _, _, _, _, _, _, _, rfl, _⟩ := h; rfl))
  · have sc := sc_law
    have hu := hr.units
    have hu1 := hu_of hr
    have hu65 := room65 hr
    have hu2 := room200 hr
    obtain ⟨a, ns, rfl, hS, hl, k⟩ := h
    refine ⟨_, (pss_cons (ps_set (i := 1) sc.nd rfl (by first | exact Or.inl rfl | exact Or.inr rfl) (pe_cl (ok__law_tree T) (hr.mono (by decide)) hG (by rfl) T.g__law_tree T.F__law_tree.kp T.b__law_tree (takes_of rfl rfl rfl rfl) (pa_cons (pv 0) (pa_cons pe_int (pa_cons (pe_cl (ok__law_order T) (hr.mono (by decide)) hG (by rfl) T.g__law_order T.F__law_order.kp T.b__law_order (takes_of rfl rfl rfl rfl) (pa_cons pe_int (pa_cons (pe_cl (ok__law_number T) (hr.mono (by decide)) hG (by rfl) T.g__law_number T.F__law_number.kp T.b__law_number (takes_of rfl rfl rfl rfl) (pa_cons (pv 0) (pa_cons pe_int pa_nil))) pa_nil))) pa_nil)))))
    (pss_cons (ps_set (i := 2) sc.nd rfl (by first | exact Or.inl rfl | exact Or.inr rfl) (pe_cl (ok__law_order T) (hr.mono (by decide)) hG (by rfl) T.g__law_order T.F__law_order.kp T.b__law_order (takes_of rfl rfl rfl rfl) (pa_cons pe_int (pa_cons (pe_cl (ok__law_number T) (hr.mono (by decide)) hG (by rfl) T.g__law_number T.F__law_number.kp T.b__law_number (takes_of rfl rfl rfl rfl) (pa_cons (pv 0) (pa_cons pe_int pa_nil))) pa_nil))))
    (pss_cons (ps_set (i := 3) sc.nd rfl (by first | exact Or.inl rfl | exact Or.inr rfl) (pe_cl (ok__law_tree T) (hr.mono (by decide)) hG (by rfl) T.g__law_tree T.F__law_tree.kp T.b__law_tree (takes_of rfl rfl rfl rfl) (pa_cons (kRevL (K := K) (pv 0)) (pa_cons (pe_ix (kIx (K := K)) (pe_lst (pa_cons pe_int (pa_cons pe_int pa_nil))) (pe_op op_mod (pe_cl (ok__law_number T) (hr.mono (by decide)) hG (by rfl) T.g__law_number T.F__law_number.kp T.b__law_number (takes_of rfl rfl rfl rfl) (pa_cons (pv 0) (pa_cons pe_int pa_nil))) pe_int) (fun _ _ => rfl)) (pa_cons (pv 2) pa_nil)))))
    (pss_cons (ps_for (passes_of rfl) rfl (kTup (K := K) (pe_tup (pa_cons (pv 1) (pa_cons (pv 3) (pa_cons (pv 1) pa_nil))))) (pg_name (i := 4) sc.nd rfl (by first | exact Or.inl rfl | exact Or.inr rfl))
    (pss_cons (ps_if (pt_not (pt_val (pe_cl (ok__law_right T) (hr.mono (by decide)) hG (by rfl) T.g__law_right T.F__law_right.kp T.b__law_right (takes_of rfl rfl rfl rfl) (pa_cons (pv 4) pa_nil)))) (pss_one (ps_ret pe_bl)) pss_nil)
    (pss_one (ps_if (pt_val (pe_callB (kIs (K := K)) (by rfl) T.z_isinstance bt_isinstance (pa_cons (pv 4) (pa_cons (pe_bltn (v := .ty "tuple") (by rfl) T.z_tuple bt_tuple rfl) pa_nil)))) (pss_one (ps_for (passes_of rfl) rfl (kTup (K := K) (pe_ix (kIx (K := K)) (pv 4) pe_int (fun _ _ => rfl))) (pg_name (i := 5) sc.nd rfl (by first | exact Or.inl rfl | exact Or.inr rfl))
    (pss_one (ps_if (pt_not (pt_val (pe_cl (ok__law_right T) (hr.mono (by decide)) hG (by rfl) T.g__law_right T.F__law_right.kp T.b__law_right (takes_of rfl rfl rfl rfl) (pa_cons (pv 5) pa_nil)))) (pss_one (ps_ret pe_bl)) pss_nil)))) pss_nil))))
    (pss_one (ps_ret pe_bl)))))), ?_⟩
    walk_at "j0"
    walk_at "go"
    refine u__law_number (k := 64) hS (by decide) ?_
    generalize numN ns 64 = num
    walk_at "go"
    refine u__law_order (n := 30) (by decide) fun nm H1 S1 hnm enm => ?_
    have ndn := ordN_nodup 30 num
    have lnn := ordN_length 30 num
    have ltn : ∀ x ∈ ordN 30 num, x < 30 := fun x hx => ordN_lt hx
    generalize ordN 30 num = names at enm ndn lnn ltn
    walk_at "go"
    refine ⟨a, nm, ns, 30, names, rfl, S1.seq hS, hl, by decide, by decide, SqL.of enm, ndn, ltn, by omega, fun v H2 t S2 g pm hT => ?_⟩
    have S := S1.trans S2
    clear pm ndn lnn ltn enm hnm S1 S2
    walk_at "go"
    refine u__law_number (k := 66) (S.seq hS) (by decide) ?_
    generalize numN ns 66 = num2
    walk_at "go"
    refine u__law_order (n := 30) (by decide) fun nm2 H3 S3 hnm enm => ?_
    have ndn := ordN_nodup 30 num2
    have lnn := ordN_length 30 num2
    have ltn : ∀ x ∈ ordN 30 num2, x < 30 := fun x hx => ordN_lt hx
    generalize ordN 30 num2 = names at enm ndn lnn ltn
    have S13 := S.trans S3
    walk_at "go"
    refine s_revL ?_
    walk_at "go"
    refine ⟨a, ns.map V.int, rfl, S13.seq hS, fun rv hrv => ?_⟩
    rw [← List.map_reverse]
    walk_at "go"
    intro l hl9
    walk_at "go"
    have S14 := (S13.trans (Same.new (o := .lst (ns.reverse.map V.int)) hrv)).trans (Same.new (o := .lst [.int 30, .int 6]) hl9)
    have erv := up_old (o' := .lst [.int 30, .int 6]) hl9 (upd_same (H := H3) (a := rv) (o := .lst (ns.reverse.map V.int)))
    have enm4 := up_old (o' := .lst [.int 30, .int 6]) hl9 (up_old (o' := .lst (ns.reverse.map V.int)) hrv enm)
    have el9 : upd (upd H3 rv (.lst (ns.reverse.map V.int))) l (.lst [.int 30, .int 6]) l = some (.lst [.int 30, .int 6]) := upd_same
    have hT4 := hT.same ((S3.trans (Same.new (o := .lst (ns.reverse.map V.int)) hrv)).trans (Same.new (o := .lst [.int 30, .int 6]) hl9))
    generalize upd (upd H3 rv (.lst (ns.reverse.map V.int))) l (.lst [.int 30, .int 6]) = H4 at S14 erv enm4 el9 hT4 ⊢
    clear hl9 hrv enm hnm S3 S13 hT S
    refine u__law_number (k := 65) (S14.seq hS) (by decide) ?_
    generalize numN ns 65 = num3
    walk_at "go"
    obtain ⟨m, em, m1, m30⟩ : ∃ m : Nat, ([.int 30, .int 6] : List V)[num3 % 2]? = some (.int m) ∧ 1 ≤ m ∧ m ≤ 30 := by
      rcases (by omega : num3 % 2 = 0 ∨ num3 % 2 = 1) with e | e <;> rw [e]
      · exact ⟨30, rfl, by decide, by decide⟩
      · exact ⟨6, rfl, by decide, by decide⟩
    rw [show (num3 : Int) % 2 = ((num3 % 2 : Nat) : Int) by omega]
    refine s_ixL (SqL.of el9) (atI_nat em) ?_
    walk_at "go"
    refine ⟨rv, nm2, ns.reverse, m, names, rfl, SqL.of erv, by rw [List.length_reverse]; exact hl, m1, by omega, SqL.of enm4, ndn, ltn, by omega, fun v2 H5 t2 S5 g2 pm hT2 => ?_⟩
    have S := S14.trans S5
    have hT5 := hT4.same S5
    clear pm ndn lnn ltn enm4 erv el9 em S14 S5 hT4
    walk_at "go"
    intro tp htp
    have e9 : upd H5 tp (.tup [v, v2, v]) tp = some (.tup [v, v2, v]) := upd_same
    have S9 := S.trans (Same.new (o := .tup [v, v2, v]) htp)
    have hT9 := hT5.same (Same.new (o := .tup [v, v2, v]) htp)
    have hT29 := hT2.same (Same.new (o := .tup [v, v2, v]) htp)
    generalize upd H5 tp (.tup [v, v2, v]) = H9 at e9 S9 hT9 hT29 ⊢
    refine s_itupE (SqT.of e9) ?_
    refine for_tup (K := K) (a := tp) (xs := [v, v2, v]) (fun i σ H' => ∃ v6 v7, σ = [some (.ref a), some v, some (.ref nm2), some v2, v6, v7] ∧ Same H9 H') ⟨_, _, rfl, Same.refl _⟩ ?_ ?_ ?_
    · rintro i σ H' _ ⟨v6, v7, rfl, S⟩
      exact SqT.of (S _ _ e9)
    · rintro i x σ H' hx ⟨v6, v7, rfl, S⟩
      obtain ⟨t', g', hT'⟩ : ∃ t', t'.Good ∧ TAt H9 x t' := by
        match i, hx with
        | 0, hx => cases hx; exact ⟨t, g, hT9⟩
        | 1, hx => cases hx; exact ⟨t2, g2, hT29⟩
        | 2, hx => cases hx; exact ⟨t, g, hT9⟩
      cases t' with
      | pt n =>
        have := hT'.int
        subst this
        walk_at "go"
        refine ⟨_, .pt n, rfl, hT'.same S, g', fun H6 S6 => ?_⟩
        walk_at "go"
        exact ⟨_, _, rfl, S.trans S6⟩
      | nd j ps =>
        obtain ⟨a1, b1, vs, rfl, ha1, hb1, hp⟩ := hT'.tup
        have len := Paired.length hp
        have l30 := parts_30 g'
        walk_at "go"
        refine ⟨_, .nd j ps, rfl, hT'.same S, g', fun H6 S6 => ?_⟩
        have S96 := S.trans S6
        have ha6 := S96 _ _ ha1
        have hb6 := S96 _ _ hb1
        have hp6 := TAts.same S96 hp
        have th6 : Th K H6 (.ref a1) "tuple" := Th.tup ha6
        walk_at "go"
        refine s_ixT (v := .ref b1) (SqT.of ha6) rfl ?_
        refine s_itupE (SqT.of hb6) ?_
        refine for_tup (K := K) (a := b1) (xs := vs) (fun i σ H' => ∃ v7, σ = [some (.ref a), some v, some (.ref nm2), some v2, some (.ref a1), v7] ∧ Same H6 H') ⟨_, rfl, Same.refl _⟩ ?_ ?_ ?_
        · rintro i σ H' _ ⟨v7, rfl, S⟩
          exact SqT.of (S _ _ hb6)
        · rintro i x σ H' hx ⟨v7, rfl, S7⟩
          obtain ⟨p, hpi, hT7⟩ := Paired.at' hp6 hx
          have pm := List.mem_of_getElem? hpi
          walk_at "go"
          refine ⟨_, p, rfl, hT7.same S7, (good_part g' pm).1, fun H8 S8 => ?_⟩
          walk_at "go"
          exact ⟨_, rfl, S7.trans S8⟩
        · rintro σ H' ⟨v7, rfl, S7⟩
          walk_at "go"
          exact ⟨_, _, rfl, S96.trans S7⟩
    · rintro σ H' ⟨v6, v7, rfl, S⟩
      walk_at "go"
      exact k _
theorem all_mk {K : PySem.W.Frag} {h : Heap} {mg : Str → Option Value} (X : K.In h) (G : h.Ns mainGlobals mg)
    {a_is_among : Addr} {a_need : Addr} {a_made_by : Addr} {a_tree_by : Addr} {a_text_of : Addr} {a_shown : Addr} {a_read : Addr} {a__law_mixed : Addr} {a__law_number : Addr} {a__law_order : Addr} {a__law_least : Addr} {a__law_told : Addr} {a__law_tree : Addr} {a__law_text : Addr} {a__law_right : Addr} {a_law : Addr} {a_Tree_word : Addr} {a_Point_init : Addr} {a_Point_told : Addr} {a_Point_points : Addr} {a_Inner_init : Addr} {a_Inner_told : Addr} {a_Inner_points : Addr} {a_Side_word : Addr} {a_Join_word : Addr} {a_Reader_init : Addr} {a_Reader_ahead : Addr} {a_Reader_read_point : Addr} {a_Reader_tree : Addr} {c_Point : Addr} {c_Side : Addr} {c_Join : Addr} {c_Reader : Addr} {c_BadTree : Addr} {c_BadText : Addr} {t_MOST_POINTS : Tok} {a_SIGNS : Addr} {es_SIGNS : Array DictEntry} {no_SIGNS : Nat} {tk_SIGNS_0 : Tok} {tk_SIGNS_1 : Tok} {t_FIGURES : Tok} {t_LONGEST : Tok}
    {od_is_among an_is_among : Option Addr} {sl_is_among : Array (Option Value)} {oc_is_among kV_is_among dc_is_among pm_is_among cd_is_among ct_is_among : Value}
    {od_need an_need : Option Addr} {sl_need : Array (Option Value)} {oc_need kV_need dc_need pm_need cd_need ct_need : Value}
    {od_made_by an_made_by : Option Addr} {sl_made_by : Array (Option Value)} {oc_made_by kV_made_by dc_made_by pm_made_by cd_made_by ct_made_by : Value}
    {od_tree_by an_tree_by : Option Addr} {sl_tree_by : Array (Option Value)} {oc_tree_by kV_tree_by dc_tree_by pm_tree_by cd_tree_by ct_tree_by : Value}
    {od_text_of an_text_of : Option Addr} {sl_text_of : Array (Option Value)} {oc_text_of kV_text_of dc_text_of pm_text_of cd_text_of ct_text_of : Value}
    {od_shown an_shown : Option Addr} {sl_shown : Array (Option Value)} {oc_shown kV_shown dc_shown pm_shown cd_shown ct_shown : Value}
    {od_read an_read : Option Addr} {sl_read : Array (Option Value)} {oc_read kV_read dc_read pm_read cd_read ct_read : Value}
    {od__law_mixed an__law_mixed : Option Addr} {sl__law_mixed : Array (Option Value)} {oc__law_mixed kV__law_mixed dc__law_mixed pm__law_mixed cd__law_mixed ct__law_mixed : Value}
    {od__law_number an__law_number : Option Addr} {sl__law_number : Array (Option Value)} {oc__law_number kV__law_number dc__law_number pm__law_number cd__law_number ct__law_number : Value}
    {od__law_order an__law_order : Option Addr} {sl__law_order : Array (Option Value)} {oc__law_order kV__law_order dc__law_order pm__law_order cd__law_order ct__law_order : Value}
    {od__law_least an__law_least : Option Addr} {sl__law_least : Array (Option Value)} {oc__law_least kV__law_least dc__law_least pm__law_least cd__law_least ct__law_least : Value}
    {od__law_told an__law_told : Option Addr} {sl__law_told : Array (Option Value)} {oc__law_told kV__law_told dc__law_told pm__law_told cd__law_told ct__law_told : Value}
    {od__law_tree an__law_tree : Option Addr} {sl__law_tree : Array (Option Value)} {oc__law_tree kV__law_tree dc__law_tree pm__law_tree cd__law_tree ct__law_tree : Value}
    {od__law_text an__law_text : Option Addr} {sl__law_text : Array (Option Value)} {oc__law_text kV__law_text dc__law_text pm__law_text cd__law_text ct__law_text : Value}
    {od__law_right an__law_right : Option Addr} {sl__law_right : Array (Option Value)} {oc__law_right kV__law_right dc__law_right pm__law_right cd__law_right ct__law_right : Value}
    {od_law an_law : Option Addr} {sl_law : Array (Option Value)} {oc_law kV_law dc_law pm_law cd_law ct_law : Value}
    {od_Tree_word an_Tree_word : Option Addr} {sl_Tree_word : Array (Option Value)} {oc_Tree_word kV_Tree_word dc_Tree_word pm_Tree_word cd_Tree_word ct_Tree_word : Value}
    {od_Point_init an_Point_init : Option Addr} {sl_Point_init : Array (Option Value)} {oc_Point_init kV_Point_init dc_Point_init pm_Point_init cd_Point_init ct_Point_init : Value}
    {od_Point_told an_Point_told : Option Addr} {sl_Point_told : Array (Option Value)} {oc_Point_told kV_Point_told dc_Point_told pm_Point_told cd_Point_told ct_Point_told : Value}
    {od_Point_points an_Point_points : Option Addr} {sl_Point_points : Array (Option Value)} {oc_Point_points kV_Point_points dc_Point_points pm_Point_points cd_Point_points ct_Point_points : Value}
    {od_Inner_init an_Inner_init : Option Addr} {sl_Inner_init : Array (Option Value)} {oc_Inner_init kV_Inner_init dc_Inner_init pm_Inner_init cd_Inner_init ct_Inner_init : Value}
    {od_Inner_told an_Inner_told : Option Addr} {sl_Inner_told : Array (Option Value)} {oc_Inner_told kV_Inner_told dc_Inner_told pm_Inner_told cd_Inner_told ct_Inner_told : Value}
    {od_Inner_points an_Inner_points : Option Addr} {sl_Inner_points : Array (Option Value)} {oc_Inner_points kV_Inner_points dc_Inner_points pm_Inner_points cd_Inner_points ct_Inner_points : Value}
    {od_Side_word an_Side_word : Option Addr} {sl_Side_word : Array (Option Value)} {oc_Side_word kV_Side_word dc_Side_word pm_Side_word cd_Side_word ct_Side_word : Value}
    {od_Join_word an_Join_word : Option Addr} {sl_Join_word : Array (Option Value)} {oc_Join_word kV_Join_word dc_Join_word pm_Join_word cd_Join_word ct_Join_word : Value}
    {od_Reader_init an_Reader_init : Option Addr} {sl_Reader_init : Array (Option Value)} {oc_Reader_init kV_Reader_init dc_Reader_init pm_Reader_init cd_Reader_init ct_Reader_init : Value}
    {od_Reader_ahead an_Reader_ahead : Option Addr} {sl_Reader_ahead : Array (Option Value)} {oc_Reader_ahead kV_Reader_ahead dc_Reader_ahead pm_Reader_ahead cd_Reader_ahead ct_Reader_ahead : Value}
    {od_Reader_read_point an_Reader_read_point : Option Addr} {sl_Reader_read_point : Array (Option Value)} {oc_Reader_read_point kV_Reader_read_point dc_Reader_read_point pm_Reader_read_point cd_Reader_read_point ct_Reader_read_point : Value}
    {od_Reader_tree an_Reader_tree : Option Addr} {sl_Reader_tree : Array (Option Value)} {oc_Reader_tree kV_Reader_tree dc_Reader_tree pm_Reader_tree cd_Reader_tree ct_Reader_tree : Value}
    (l_is_among : K.lookup a_is_among = some ⟨oc_is_among, od_is_among, .func (PySem.W.fnOf "is_among" "is_among" (defArgs st_is_among) (defBody st_is_among) (defScope st_is_among) .none kV_is_among dc_is_among pm_is_among an_is_among cd_is_among ct_is_among), sl_is_among⟩)
    (c_is_among : PySem.W.codeIn K cd_is_among "is_among" = true)
    (k_is_among : PySem.W.keepIn K (.ref a_is_among) = true)
    (n_is_among : PySem.W.nsIn K mainGlobals "is_among" = some (some (.ref a_is_among)))
    (l_need : K.lookup a_need = some ⟨oc_need, od_need, .func (PySem.W.fnOf "need" "need" (defArgs st_need) (defBody st_need) (defScope st_need) .none kV_need dc_need pm_need an_need cd_need ct_need), sl_need⟩)
    (c_need : PySem.W.codeIn K cd_need "need" = true)
    (k_need : PySem.W.keepIn K (.ref a_need) = true)
    (n_need : PySem.W.nsIn K mainGlobals "need" = some (some (.ref a_need)))
    (l_made_by : K.lookup a_made_by = some ⟨oc_made_by, od_made_by, .func (PySem.W.fnOf "made_by" "made_by" (defArgs st_made_by) (defBody st_made_by) (defScope st_made_by) .none kV_made_by dc_made_by pm_made_by an_made_by cd_made_by ct_made_by), sl_made_by⟩)
    (c_made_by : PySem.W.codeIn K cd_made_by "made_by" = true)
    (k_made_by : PySem.W.keepIn K (.ref a_made_by) = true)
    (n_made_by : PySem.W.nsIn K mainGlobals "made_by" = some (some (.ref a_made_by)))
    (l_tree_by : K.lookup a_tree_by = some ⟨oc_tree_by, od_tree_by, .func (PySem.W.fnOf "tree_by" "tree_by" (defArgs st_tree_by) (defBody st_tree_by) (defScope st_tree_by) .none kV_tree_by dc_tree_by pm_tree_by an_tree_by cd_tree_by ct_tree_by), sl_tree_by⟩)
    (c_tree_by : PySem.W.codeIn K cd_tree_by "tree_by" = true)
    (k_tree_by : PySem.W.keepIn K (.ref a_tree_by) = true)
    (n_tree_by : PySem.W.nsIn K mainGlobals "tree_by" = some (some (.ref a_tree_by)))
    (l_text_of : K.lookup a_text_of = some ⟨oc_text_of, od_text_of, .func (PySem.W.fnOf "text_of" "text_of" (defArgs st_text_of) (defBody st_text_of) (defScope st_text_of) .none kV_text_of dc_text_of pm_text_of an_text_of cd_text_of ct_text_of), sl_text_of⟩)
    (c_text_of : PySem.W.codeIn K cd_text_of "text_of" = true)
    (k_text_of : PySem.W.keepIn K (.ref a_text_of) = true)
    (n_text_of : PySem.W.nsIn K mainGlobals "text_of" = some (some (.ref a_text_of)))
    (l_shown : K.lookup a_shown = some ⟨oc_shown, od_shown, .func (PySem.W.fnOf "shown" "shown" (defArgs st_shown) (defBody st_shown) (defScope st_shown) .none kV_shown dc_shown pm_shown an_shown cd_shown ct_shown), sl_shown⟩)
    (c_shown : PySem.W.codeIn K cd_shown "shown" = true)
    (k_shown : PySem.W.keepIn K (.ref a_shown) = true)
    (n_shown : PySem.W.nsIn K mainGlobals "shown" = some (some (.ref a_shown)))
    (l_read : K.lookup a_read = some ⟨oc_read, od_read, .func (PySem.W.fnOf "read" "read" (defArgs st_read) (defBody st_read) (defScope st_read) .none kV_read dc_read pm_read an_read cd_read ct_read), sl_read⟩)
    (c_read : PySem.W.codeIn K cd_read "read" = true)
    (k_read : PySem.W.keepIn K (.ref a_read) = true)
    (n_read : PySem.W.nsIn K mainGlobals "read" = some (some (.ref a_read)))
    (l__law_mixed : K.lookup a__law_mixed = some ⟨oc__law_mixed, od__law_mixed, .func (PySem.W.fnOf "_law_mixed" "_law_mixed" (defArgs st__law_mixed) (defBody st__law_mixed) (defScope st__law_mixed) .none kV__law_mixed dc__law_mixed pm__law_mixed an__law_mixed cd__law_mixed ct__law_mixed), sl__law_mixed⟩)
    (c__law_mixed : PySem.W.codeIn K cd__law_mixed "_law_mixed" = true)
    (k__law_mixed : PySem.W.keepIn K (.ref a__law_mixed) = true)
    (n__law_mixed : PySem.W.nsIn K mainGlobals "_law_mixed" = some (some (.ref a__law_mixed)))
    (l__law_number : K.lookup a__law_number = some ⟨oc__law_number, od__law_number, .func (PySem.W.fnOf "_law_number" "_law_number" (defArgs st__law_number) (defBody st__law_number) (defScope st__law_number) .none kV__law_number dc__law_number pm__law_number an__law_number cd__law_number ct__law_number), sl__law_number⟩)
    (c__law_number : PySem.W.codeIn K cd__law_number "_law_number" = true)
    (k__law_number : PySem.W.keepIn K (.ref a__law_number) = true)
    (n__law_number : PySem.W.nsIn K mainGlobals "_law_number" = some (some (.ref a__law_number)))
    (l__law_order : K.lookup a__law_order = some ⟨oc__law_order, od__law_order, .func (PySem.W.fnOf "_law_order" "_law_order" (defArgs st__law_order) (defBody st__law_order) (defScope st__law_order) .none kV__law_order dc__law_order pm__law_order an__law_order cd__law_order ct__law_order), sl__law_order⟩)
    (c__law_order : PySem.W.codeIn K cd__law_order "_law_order" = true)
    (k__law_order : PySem.W.keepIn K (.ref a__law_order) = true)
    (n__law_order : PySem.W.nsIn K mainGlobals "_law_order" = some (some (.ref a__law_order)))
    (l__law_least : K.lookup a__law_least = some ⟨oc__law_least, od__law_least, .func (PySem.W.fnOf "_law_least" "_law_least" (defArgs st__law_least) (defBody st__law_least) (defScope st__law_least) .none kV__law_least dc__law_least pm__law_least an__law_least cd__law_least ct__law_least), sl__law_least⟩)
    (c__law_least : PySem.W.codeIn K cd__law_least "_law_least" = true)
    (k__law_least : PySem.W.keepIn K (.ref a__law_least) = true)
    (n__law_least : PySem.W.nsIn K mainGlobals "_law_least" = some (some (.ref a__law_least)))
    (l__law_told : K.lookup a__law_told = some ⟨oc__law_told, od__law_told, .func (PySem.W.fnOf "_law_told" "_law_told" (defArgs st__law_told) (defBody st__law_told) (defScope st__law_told) .none kV__law_told dc__law_told pm__law_told an__law_told cd__law_told ct__law_told), sl__law_told⟩)
    (c__law_told : PySem.W.codeIn K cd__law_told "_law_told" = true)
    (k__law_told : PySem.W.keepIn K (.ref a__law_told) = true)
    (n__law_told : PySem.W.nsIn K mainGlobals "_law_told" = some (some (.ref a__law_told)))
    (l__law_tree : K.lookup a__law_tree = some ⟨oc__law_tree, od__law_tree, .func (PySem.W.fnOf "_law_tree" "_law_tree" (defArgs st__law_tree) (defBody st__law_tree) (defScope st__law_tree) .none kV__law_tree dc__law_tree pm__law_tree an__law_tree cd__law_tree ct__law_tree), sl__law_tree⟩)
    (c__law_tree : PySem.W.codeIn K cd__law_tree "_law_tree" = true)
    (k__law_tree : PySem.W.keepIn K (.ref a__law_tree) = true)
    (n__law_tree : PySem.W.nsIn K mainGlobals "_law_tree" = some (some (.ref a__law_tree)))
    (l__law_text : K.lookup a__law_text = some ⟨oc__law_text, od__law_text, .func (PySem.W.fnOf "_law_text" "_law_text" (defArgs st__law_text) (defBody st__law_text) (defScope st__law_text) .none kV__law_text dc__law_text pm__law_text an__law_text cd__law_text ct__law_text), sl__law_text⟩)
    (c__law_text : PySem.W.codeIn K cd__law_text "_law_text" = true)
    (k__law_text : PySem.W.keepIn K (.ref a__law_text) = true)
    (n__law_text : PySem.W.nsIn K mainGlobals "_law_text" = some (some (.ref a__law_text)))
    (l__law_right : K.lookup a__law_right = some ⟨oc__law_right, od__law_right, .func (PySem.W.fnOf "_law_right" "_law_right" (defArgs st__law_right) (defBody st__law_right) (defScope st__law_right) .none kV__law_right dc__law_right pm__law_right an__law_right cd__law_right ct__law_right), sl__law_right⟩)
    (c__law_right : PySem.W.codeIn K cd__law_right "_law_right" = true)
    (k__law_right : PySem.W.keepIn K (.ref a__law_right) = true)
    (n__law_right : PySem.W.nsIn K mainGlobals "_law_right" = some (some (.ref a__law_right)))
    (l_law : K.lookup a_law = some ⟨oc_law, od_law, .func (PySem.W.fnOf "law" "law" (defArgs st_law) (defBody st_law) (defScope st_law) .none kV_law dc_law pm_law an_law cd_law ct_law), sl_law⟩)
    (c_law : PySem.W.codeIn K cd_law "law" = true)
    (k_law : PySem.W.keepIn K (.ref a_law) = true)
    (n_law : PySem.W.nsIn K mainGlobals "law" = some (some (.ref a_law)))
    (l_Tree_word : K.lookup a_Tree_word = some ⟨oc_Tree_word, od_Tree_word, .func (PySem.W.fnOf "word" "Tree.word" (defArgs st_Tree_word) (defBody st_Tree_word) (defScope st_Tree_word) .none kV_Tree_word dc_Tree_word pm_Tree_word an_Tree_word cd_Tree_word ct_Tree_word), sl_Tree_word⟩)
    (c_Tree_word : PySem.W.codeIn K cd_Tree_word "Tree.word" = true)
    (k_Tree_word : PySem.W.keepIn K (.ref a_Tree_word) = true)
    (l_Point_init : K.lookup a_Point_init = some ⟨oc_Point_init, od_Point_init, .func (PySem.W.fnOf "__init__" "Point.__init__" (defArgs st_Point_init) (defBody st_Point_init) (defScope st_Point_init) .none kV_Point_init dc_Point_init pm_Point_init an_Point_init cd_Point_init ct_Point_init), sl_Point_init⟩)
    (c_Point_init : PySem.W.codeIn K cd_Point_init "Point.__init__" = true)
    (k_Point_init : PySem.W.keepIn K (.ref a_Point_init) = true)
    (l_Point_told : K.lookup a_Point_told = some ⟨oc_Point_told, od_Point_told, .func (PySem.W.fnOf "told" "Point.told" (defArgs st_Point_told) (defBody st_Point_told) (defScope st_Point_told) .none kV_Point_told dc_Point_told pm_Point_told an_Point_told cd_Point_told ct_Point_told), sl_Point_told⟩)
    (c_Point_told : PySem.W.codeIn K cd_Point_told "Point.told" = true)
    (k_Point_told : PySem.W.keepIn K (.ref a_Point_told) = true)
    (l_Point_points : K.lookup a_Point_points = some ⟨oc_Point_points, od_Point_points, .func (PySem.W.fnOf "points" "Point.points" (defArgs st_Point_points) (defBody st_Point_points) (defScope st_Point_points) .none kV_Point_points dc_Point_points pm_Point_points an_Point_points cd_Point_points ct_Point_points), sl_Point_points⟩)
    (c_Point_points : PySem.W.codeIn K cd_Point_points "Point.points" = true)
    (k_Point_points : PySem.W.keepIn K (.ref a_Point_points) = true)
    (l_Inner_init : K.lookup a_Inner_init = some ⟨oc_Inner_init, od_Inner_init, .func (PySem.W.fnOf "__init__" "Inner.__init__" (defArgs st_Inner_init) (defBody st_Inner_init) (defScope st_Inner_init) .none kV_Inner_init dc_Inner_init pm_Inner_init an_Inner_init cd_Inner_init ct_Inner_init), sl_Inner_init⟩)
    (c_Inner_init : PySem.W.codeIn K cd_Inner_init "Inner.__init__" = true)
    (k_Inner_init : PySem.W.keepIn K (.ref a_Inner_init) = true)
    (l_Inner_told : K.lookup a_Inner_told = some ⟨oc_Inner_told, od_Inner_told, .func (PySem.W.fnOf "told" "Inner.told" (defArgs st_Inner_told) (defBody st_Inner_told) (defScope st_Inner_told) .none kV_Inner_told dc_Inner_told pm_Inner_told an_Inner_told cd_Inner_told ct_Inner_told), sl_Inner_told⟩)
    (c_Inner_told : PySem.W.codeIn K cd_Inner_told "Inner.told" = true)
    (k_Inner_told : PySem.W.keepIn K (.ref a_Inner_told) = true)
    (l_Inner_points : K.lookup a_Inner_points = some ⟨oc_Inner_points, od_Inner_points, .func (PySem.W.fnOf "points" "Inner.points" (defArgs st_Inner_points) (defBody st_Inner_points) (defScope st_Inner_points) .none kV_Inner_points dc_Inner_points pm_Inner_points an_Inner_points cd_Inner_points ct_Inner_points), sl_Inner_points⟩)
    (c_Inner_points : PySem.W.codeIn K cd_Inner_points "Inner.points" = true)
    (k_Inner_points : PySem.W.keepIn K (.ref a_Inner_points) = true)
    (l_Side_word : K.lookup a_Side_word = some ⟨oc_Side_word, od_Side_word, .func (PySem.W.fnOf "word" "Side.word" (defArgs st_Side_word) (defBody st_Side_word) (defScope st_Side_word) .none kV_Side_word dc_Side_word pm_Side_word an_Side_word cd_Side_word ct_Side_word), sl_Side_word⟩)
    (c_Side_word : PySem.W.codeIn K cd_Side_word "Side.word" = true)
    (k_Side_word : PySem.W.keepIn K (.ref a_Side_word) = true)
    (l_Join_word : K.lookup a_Join_word = some ⟨oc_Join_word, od_Join_word, .func (PySem.W.fnOf "word" "Join.word" (defArgs st_Join_word) (defBody st_Join_word) (defScope st_Join_word) .none kV_Join_word dc_Join_word pm_Join_word an_Join_word cd_Join_word ct_Join_word), sl_Join_word⟩)
    (c_Join_word : PySem.W.codeIn K cd_Join_word "Join.word" = true)
    (k_Join_word : PySem.W.keepIn K (.ref a_Join_word) = true)
    (l_Reader_init : K.lookup a_Reader_init = some ⟨oc_Reader_init, od_Reader_init, .func (PySem.W.fnOf "__init__" "Reader.__init__" (defArgs st_Reader_init) (defBody st_Reader_init) (defScope st_Reader_init) .none kV_Reader_init dc_Reader_init pm_Reader_init an_Reader_init cd_Reader_init ct_Reader_init), sl_Reader_init⟩)
    (c_Reader_init : PySem.W.codeIn K cd_Reader_init "Reader.__init__" = true)
    (k_Reader_init : PySem.W.keepIn K (.ref a_Reader_init) = true)
    (l_Reader_ahead : K.lookup a_Reader_ahead = some ⟨oc_Reader_ahead, od_Reader_ahead, .func (PySem.W.fnOf "ahead" "Reader.ahead" (defArgs st_Reader_ahead) (defBody st_Reader_ahead) (defScope st_Reader_ahead) .none kV_Reader_ahead dc_Reader_ahead pm_Reader_ahead an_Reader_ahead cd_Reader_ahead ct_Reader_ahead), sl_Reader_ahead⟩)
    (c_Reader_ahead : PySem.W.codeIn K cd_Reader_ahead "Reader.ahead" = true)
    (k_Reader_ahead : PySem.W.keepIn K (.ref a_Reader_ahead) = true)
    (l_Reader_read_point : K.lookup a_Reader_read_point = some ⟨oc_Reader_read_point, od_Reader_read_point, .func (PySem.W.fnOf "read_point" "Reader.read_point" (defArgs st_Reader_read_point) (defBody st_Reader_read_point) (defScope st_Reader_read_point) .none kV_Reader_read_point dc_Reader_read_point pm_Reader_read_point an_Reader_read_point cd_Reader_read_point ct_Reader_read_point), sl_Reader_read_point⟩)
    (c_Reader_read_point : PySem.W.codeIn K cd_Reader_read_point "Reader.read_point" = true)
    (k_Reader_read_point : PySem.W.keepIn K (.ref a_Reader_read_point) = true)
    (l_Reader_tree : K.lookup a_Reader_tree = some ⟨oc_Reader_tree, od_Reader_tree, .func (PySem.W.fnOf "tree" "Reader.tree" (defArgs st_Reader_tree) (defBody st_Reader_tree) (defScope st_Reader_tree) .none kV_Reader_tree dc_Reader_tree pm_Reader_tree an_Reader_tree cd_Reader_tree ct_Reader_tree), sl_Reader_tree⟩)
    (c_Reader_tree : PySem.W.codeIn K cd_Reader_tree "Reader.tree" = true)
    (k_Reader_tree : PySem.W.keepIn K (.ref a_Reader_tree) = true)
    (pg_Point : PySem.W.plainGet K c_Point Str.empty = true)
    (hd_Point : PySem.W.hasDictIn K c_Point = true)
    (po_Point : PySem.W.plainOver K c_Point = true)
    (sa_Point : PySem.W.findIn K (.ref c_Point) "__setattr__" = some (some (.builtin "object.__setattr__")))
    (n_Point : PySem.W.nsIn K mainGlobals "Point" = some (some (.ref c_Point)))
    (mk_Point : PySem.W.makesIn K c_Point = true)
    (in_Point : PySem.W.findIn K (.ref c_Point) "__init__" = some (some (.ref a_Point_init)))
    (kp_Point : PySem.W.keepIn K (.ref c_Point) = true)
    (if_Point : PySem.W.isFn K (.ref a_Point_init) = true)
    (f_Point_number : PySem.W.findIn K (.ref c_Point) "number" = some none)
    (m_Point_told : PySem.W.findIn K (.ref c_Point) "told" = some (some (.ref a_Point_told)))
    (mf_Point_told : PySem.W.isFn K (.ref a_Point_told) = true)
    (m_Point_points : PySem.W.findIn K (.ref c_Point) "points" = some (some (.ref a_Point_points)))
    (mf_Point_points : PySem.W.isFn K (.ref a_Point_points) = true)
    (m_Point_word : PySem.W.findIn K (.ref c_Point) "word" = some (some (.ref a_Tree_word)))
    (mf_Point_word : PySem.W.isFn K (.ref a_Tree_word) = true)
    (pg_Side : PySem.W.plainGet K c_Side Str.empty = true)
    (hd_Side : PySem.W.hasDictIn K c_Side = true)
    (po_Side : PySem.W.plainOver K c_Side = true)
    (sa_Side : PySem.W.findIn K (.ref c_Side) "__setattr__" = some (some (.builtin "object.__setattr__")))
    (n_Side : PySem.W.nsIn K mainGlobals "Side" = some (some (.ref c_Side)))
    (mk_Side : PySem.W.makesIn K c_Side = true)
    (in_Side : PySem.W.findIn K (.ref c_Side) "__init__" = some (some (.ref a_Inner_init)))
    (kp_Side : PySem.W.keepIn K (.ref c_Side) = true)
    (if_Side : PySem.W.isFn K (.ref a_Inner_init) = true)
    (f_Side_parts : PySem.W.findIn K (.ref c_Side) "parts" = some none)
    (m_Side_word : PySem.W.findIn K (.ref c_Side) "word" = some (some (.ref a_Side_word)))
    (mf_Side_word : PySem.W.isFn K (.ref a_Side_word) = true)
    (m_Side_told : PySem.W.findIn K (.ref c_Side) "told" = some (some (.ref a_Inner_told)))
    (mf_Side_told : PySem.W.isFn K (.ref a_Inner_told) = true)
    (m_Side_points : PySem.W.findIn K (.ref c_Side) "points" = some (some (.ref a_Inner_points)))
    (mf_Side_points : PySem.W.isFn K (.ref a_Inner_points) = true)
    (pg_Join : PySem.W.plainGet K c_Join Str.empty = true)
    (hd_Join : PySem.W.hasDictIn K c_Join = true)
    (po_Join : PySem.W.plainOver K c_Join = true)
    (sa_Join : PySem.W.findIn K (.ref c_Join) "__setattr__" = some (some (.builtin "object.__setattr__")))
    (n_Join : PySem.W.nsIn K mainGlobals "Join" = some (some (.ref c_Join)))
    (mk_Join : PySem.W.makesIn K c_Join = true)
    (in_Join : PySem.W.findIn K (.ref c_Join) "__init__" = some (some (.ref a_Inner_init)))
    (kp_Join : PySem.W.keepIn K (.ref c_Join) = true)
    (if_Join : PySem.W.isFn K (.ref a_Inner_init) = true)
    (f_Join_parts : PySem.W.findIn K (.ref c_Join) "parts" = some none)
    (m_Join_word : PySem.W.findIn K (.ref c_Join) "word" = some (some (.ref a_Join_word)))
    (mf_Join_word : PySem.W.isFn K (.ref a_Join_word) = true)
    (m_Join_told : PySem.W.findIn K (.ref c_Join) "told" = some (some (.ref a_Inner_told)))
    (mf_Join_told : PySem.W.isFn K (.ref a_Inner_told) = true)
    (m_Join_points : PySem.W.findIn K (.ref c_Join) "points" = some (some (.ref a_Inner_points)))
    (mf_Join_points : PySem.W.isFn K (.ref a_Inner_points) = true)
    (pg_Reader : PySem.W.plainGet K c_Reader Str.empty = true)
    (hd_Reader : PySem.W.hasDictIn K c_Reader = true)
    (po_Reader : PySem.W.plainOver K c_Reader = true)
    (sa_Reader : PySem.W.findIn K (.ref c_Reader) "__setattr__" = some (some (.builtin "object.__setattr__")))
    (n_Reader : PySem.W.nsIn K mainGlobals "Reader" = some (some (.ref c_Reader)))
    (mk_Reader : PySem.W.makesIn K c_Reader = true)
    (in_Reader : PySem.W.findIn K (.ref c_Reader) "__init__" = some (some (.ref a_Reader_init)))
    (kp_Reader : PySem.W.keepIn K (.ref c_Reader) = true)
    (if_Reader : PySem.W.isFn K (.ref a_Reader_init) = true)
    (f_Reader_text : PySem.W.findIn K (.ref c_Reader) "text" = some none)
    (f_Reader_spot : PySem.W.findIn K (.ref c_Reader) "spot" = some none)
    (m_Reader_ahead : PySem.W.findIn K (.ref c_Reader) "ahead" = some (some (.ref a_Reader_ahead)))
    (mf_Reader_ahead : PySem.W.isFn K (.ref a_Reader_ahead) = true)
    (m_Reader_read_point : PySem.W.findIn K (.ref c_Reader) "read_point" = some (some (.ref a_Reader_read_point)))
    (mf_Reader_read_point : PySem.W.isFn K (.ref a_Reader_read_point) = true)
    (m_Reader_tree : PySem.W.findIn K (.ref c_Reader) "tree" = some (some (.ref a_Reader_tree)))
    (mf_Reader_tree : PySem.W.isFn K (.ref a_Reader_tree) = true)
    (spc : PySem.W.specialIn K (.builtin "object.__class__") "__get__" = some (some (.builtin "getset_descriptor.__get__")))
    (tkc : PySem.W.takesIn K (.builtin "object.__class__") = some true)
    (n_BadTree : PySem.W.nsIn K mainGlobals "BadTree" = some (some (.ref c_BadTree)))
    (be_BadTree : PySem.W.subIn K (.ref c_BadTree) (.type "BaseException") = some true)
    (te_BadTree : PySem.W.typeIn K (.ref c_BadTree) = some (.type "type"))
    (is_BadTree : PySem.W.isClsIn K c_BadTree = true)
    (hx_BadTree : PySem.W.hasDictIn K c_BadTree = true)
    (sb_BadTree_BadTree : PySem.W.subIn K (.ref c_BadTree) (.ref c_BadTree) = some true)
    (x_BadTree : PySem.W.excIn K c_BadTree [.type "ValueError", .type "Exception", .type "BaseException", .type "object"] "ValueError.__new__" = true)
    (kp_BadTree : PySem.W.keepIn K (.ref c_BadTree) = true)
    (xg_BadTree : PySem.W.findIn K (.ref c_BadTree) "__getattribute__" = some (some (.builtin "BaseException.__getattribute__")))
    (xk_BadTree : PySem.W.findIn K (.ref c_BadTree) "__getattr__" = some none)
    (xa_BadTree : PySem.W.findIn K (.ref c_BadTree) "__class__" = some (some (.builtin "object.__class__")))
    (xm_BadTree : PySem.W.mroIn K c_BadTree (.type "object") = some true)
    (sb_BadTree_BadText : PySem.W.subIn K (.ref c_BadTree) (.ref c_BadText) = some false)
    (sv_BadTree : PySem.W.subIn K (.ref c_BadTree) (.type "ValueError") = some true)
    (n_BadText : PySem.W.nsIn K mainGlobals "BadText" = some (some (.ref c_BadText)))
    (be_BadText : PySem.W.subIn K (.ref c_BadText) (.type "BaseException") = some true)
    (te_BadText : PySem.W.typeIn K (.ref c_BadText) = some (.type "type"))
    (is_BadText : PySem.W.isClsIn K c_BadText = true)
    (hx_BadText : PySem.W.hasDictIn K c_BadText = true)
    (sb_BadText_BadText : PySem.W.subIn K (.ref c_BadText) (.ref c_BadText) = some true)
    (x_BadText : PySem.W.excIn K c_BadText [.type "ValueError", .type "Exception", .type "BaseException", .type "object"] "ValueError.__new__" = true)
    (kp_BadText : PySem.W.keepIn K (.ref c_BadText) = true)
    (xg_BadText : PySem.W.findIn K (.ref c_BadText) "__getattribute__" = some (some (.builtin "BaseException.__getattribute__")))
    (xk_BadText : PySem.W.findIn K (.ref c_BadText) "__getattr__" = some none)
    (xa_BadText : PySem.W.findIn K (.ref c_BadText) "__class__" = some (some (.builtin "object.__class__")))
    (xm_BadText : PySem.W.mroIn K c_BadText (.type "object") = some true)
    (sb_BadText_BadTree : PySem.W.subIn K (.ref c_BadText) (.ref c_BadTree) = some false)
    (sv_BadText : PySem.W.subIn K (.ref c_BadText) (.type "ValueError") = some true)
    (n_MOST_POINTS : PySem.W.nsIn K mainGlobals "MOST_POINTS" = some (some (.int 30 t_MOST_POINTS)))
    (n_SIGNS : PySem.W.nsIn K mainGlobals "SIGNS" = some (some (.ref a_SIGNS)))
    (l_SIGNS : K.lookup a_SIGNS = some ⟨.type "dict", none, .dict es_SIGNS no_SIGNS, #[]⟩)
    (kl_SIGNS : PySem.W.KeysLit w.params es_SIGNS.toList)
    (ks_SIGNS_0 : PySem.W.nsIn K a_SIGNS "side" = some (some (.str " | " tk_SIGNS_0)))
    (ks_SIGNS_1 : PySem.W.nsIn K a_SIGNS "join" = some (some (.str " & " tk_SIGNS_1)))
    (n_FIGURES : PySem.W.nsIn K mainGlobals "FIGURES" = some (some (.str "0123456789" t_FIGURES)))
    (n_LONGEST : PySem.W.nsIn K mainGlobals "LONGEST" = some (some (.int 4000 t_LONGEST)))
    (z_all : PySem.W.nsIn K mainGlobals "all" = some none)
    (z_bool : PySem.W.nsIn K mainGlobals "bool" = some none)
    (z_int : PySem.W.nsIn K mainGlobals "int" = some none)
    (z_isinstance : PySem.W.nsIn K mainGlobals "isinstance" = some none)
    (z_len : PySem.W.nsIn K mainGlobals "len" = some none)
    (z_list : PySem.W.nsIn K mainGlobals "list" = some none)
    (z_min : PySem.W.nsIn K mainGlobals "min" = some none)
    (z_range : PySem.W.nsIn K mainGlobals "range" = some none)
    (z_repr : PySem.W.nsIn K mainGlobals "repr" = some none)
    (z_set : PySem.W.nsIn K mainGlobals "set" = some none)
    (z_sorted : PySem.W.nsIn K mainGlobals "sorted" = some none)
    (z_str : PySem.W.nsIn K mainGlobals "str" = some none)
    (z_tuple : PySem.W.nsIn K mainGlobals "tuple" = some none)
    : ∃ T : Txt0 w K mg, T.d_law = PySem.W.fnOf "law" "law" (defArgs st_law) (defBody st_law) (defScope st_law) .none kV_law dc_law pm_law an_law cd_law ct_law := by
  refine ⟨{
    a_is_among := a_is_among,
    d_is_among := _,
    F_is_among := fun_mk (st := st_is_among) l_is_among c_is_among k_is_among,
    b_is_among := (fun_mk (st := st_is_among) l_is_among c_is_among k_is_among).binds (ps := ["thing", "least", "most"]) fun _ _ _ _ _ _ us hl => match us, hl with | [_, _, _], _ => rfl,
    g_is_among := PySem.W.mg_of X G n_is_among,
    a_need := a_need,
    d_need := _,
    F_need := fun_mk (st := st_need) l_need c_need k_need,
    b_need := (fun_mk (st := st_need) l_need c_need k_need).binds (ps := ["good"]) fun _ _ _ _ _ _ us hl => match us, hl with | [_], _ => rfl,
    g_need := PySem.W.mg_of X G n_need,
    a_made_by := a_made_by,
    d_made_by := _,
    F_made_by := fun_mk (st := st_made_by) l_made_by c_made_by k_made_by,
    b_made_by := (fun_mk (st := st_made_by) l_made_by c_made_by k_made_by).binds (ps := ["told", "left"]) fun _ _ _ _ _ _ us hl => match us, hl with | [_, _], _ => rfl,
    g_made_by := PySem.W.mg_of X G n_made_by,
    a_tree_by := a_tree_by,
    d_tree_by := _,
    F_tree_by := fun_mk (st := st_tree_by) l_tree_by c_tree_by k_tree_by,
    b_tree_by := (fun_mk (st := st_tree_by) l_tree_by c_tree_by k_tree_by).binds (ps := ["told"]) fun _ _ _ _ _ _ us hl => match us, hl with | [_], _ => rfl,
    g_tree_by := PySem.W.mg_of X G n_tree_by,
    a_text_of := a_text_of,
    d_text_of := _,
    F_text_of := fun_mk (st := st_text_of) l_text_of c_text_of k_text_of,
    b_text_of := (fun_mk (st := st_text_of) l_text_of c_text_of k_text_of).binds (ps := ["told"]) fun _ _ _ _ _ _ us hl => match us, hl with | [_], _ => rfl,
    g_text_of := PySem.W.mg_of X G n_text_of,
    a_shown := a_shown,
    d_shown := _,
    F_shown := fun_mk (st := st_shown) l_shown c_shown k_shown,
    b_shown := (fun_mk (st := st_shown) l_shown c_shown k_shown).binds (ps := ["told"]) fun _ _ _ _ _ _ us hl => match us, hl with | [_], _ => rfl,
    g_shown := PySem.W.mg_of X G n_shown,
    a_read := a_read,
    d_read := _,
    F_read := fun_mk (st := st_read) l_read c_read k_read,
    b_read := (fun_mk (st := st_read) l_read c_read k_read).binds (ps := ["text"]) fun _ _ _ _ _ _ us hl => match us, hl with | [_], _ => rfl,
    g_read := PySem.W.mg_of X G n_read,
    a__law_mixed := a__law_mixed,
    d__law_mixed := _,
    F__law_mixed := fun_mk (st := st__law_mixed) l__law_mixed c__law_mixed k__law_mixed,
    b__law_mixed := (fun_mk (st := st__law_mixed) l__law_mixed c__law_mixed k__law_mixed).binds (ps := ["_law_cell", "_law_k"]) fun _ _ _ _ _ _ us hl => match us, hl with | [_, _], _ => rfl,
    g__law_mixed := PySem.W.mg_of X G n__law_mixed,
    a__law_number := a__law_number,
    d__law_number := _,
    F__law_number := fun_mk (st := st__law_number) l__law_number c__law_number k__law_number,
    b__law_number := (fun_mk (st := st__law_number) l__law_number c__law_number k__law_number).binds (ps := ["_law_script", "_law_k"]) fun _ _ _ _ _ _ us hl => match us, hl with | [_, _], _ => rfl,
    g__law_number := PySem.W.mg_of X G n__law_number,
    a__law_order := a__law_order,
    d__law_order := _,
    F__law_order := fun_mk (st := st__law_order) l__law_order c__law_order k__law_order,
    b__law_order := (fun_mk (st := st__law_order) l__law_order c__law_order k__law_order).binds (ps := ["_law_many", "_law_number_here"]) fun _ _ _ _ _ _ us hl => match us, hl with | [_, _], _ => rfl,
    g__law_order := PySem.W.mg_of X G n__law_order,
    a__law_least := a__law_least,
    d__law_least := _,
    F__law_least := fun_mk (st := st__law_least) l__law_least c__law_least k__law_least,
    b__law_least := (fun_mk (st := st__law_least) l__law_least c__law_least k__law_least).binds (ps := ["_law_told_here"]) fun _ _ _ _ _ _ us hl => match us, hl with | [_], _ => rfl,
    g__law_least := PySem.W.mg_of X G n__law_least,
    a__law_told := a__law_told,
    d__law_told := _,
    F__law_told := fun_mk (st := st__law_told) l__law_told c__law_told k__law_told,
    b__law_told := (fun_mk (st := st__law_told) l__law_told c__law_told k__law_told).binds (ps := ["_law_nodes", "_law_at", "_law_names"]) fun _ _ _ _ _ _ us hl => match us, hl with | [_, _, _], _ => rfl,
    g__law_told := PySem.W.mg_of X G n__law_told,
    a__law_tree := a__law_tree,
    d__law_tree := _,
    F__law_tree := fun_mk (st := st__law_tree) l__law_tree c__law_tree k__law_tree,
    b__law_tree := (fun_mk (st := st__law_tree) l__law_tree c__law_tree k__law_tree).binds (ps := ["_law_script", "_law_most", "_law_names"]) fun _ _ _ _ _ _ us hl => match us, hl with | [_, _, _], _ => rfl,
    g__law_tree := PySem.W.mg_of X G n__law_tree,
    a__law_text := a__law_text,
    d__law_text := _,
    F__law_text := fun_mk (st := st__law_text) l__law_text c__law_text k__law_text,
    b__law_text := (fun_mk (st := st__law_text) l__law_text c__law_text k__law_text).binds (ps := ["_law_told_here"]) fun _ _ _ _ _ _ us hl => match us, hl with | [_], _ => rfl,
    g__law_text := PySem.W.mg_of X G n__law_text,
    a__law_right := a__law_right,
    d__law_right := _,
    F__law_right := fun_mk (st := st__law_right) l__law_right c__law_right k__law_right,
    b__law_right := (fun_mk (st := st__law_right) l__law_right c__law_right k__law_right).binds (ps := ["_law_told_here"]) fun _ _ _ _ _ _ us hl => match us, hl with | [_], _ => rfl,
    g__law_right := PySem.W.mg_of X G n__law_right,
    a_law := a_law,
    d_law := _,
    F_law := fun_mk (st := st_law) l_law c_law k_law,
    b_law := (fun_mk (st := st_law) l_law c_law k_law).binds (ps := ["_law_script"]) fun _ _ _ _ _ _ us hl => match us, hl with | [_], _ => rfl,
    g_law := PySem.W.mg_of X G n_law,
    a_Tree_word := a_Tree_word,
    d_Tree_word := _,
    F_Tree_word := fun_mk (st := st_Tree_word) l_Tree_word c_Tree_word k_Tree_word,
    b_Tree_word := (fun_mk (st := st_Tree_word) l_Tree_word c_Tree_word k_Tree_word).binds (ps := ["self"]) fun _ _ _ _ _ _ us hl => match us, hl with | [_], _ => rfl,
    a_Point_init := a_Point_init,
    d_Point_init := _,
    F_Point_init := fun_mk (st := st_Point_init) l_Point_init c_Point_init k_Point_init,
    b_Point_init := (fun_mk (st := st_Point_init) l_Point_init c_Point_init k_Point_init).binds (ps := ["self", "number"]) fun _ _ _ _ _ _ us hl => match us, hl with | [_, _], _ => rfl,
    a_Point_told := a_Point_told,
    d_Point_told := _,
    F_Point_told := fun_mk (st := st_Point_told) l_Point_told c_Point_told k_Point_told,
    b_Point_told := (fun_mk (st := st_Point_told) l_Point_told c_Point_told k_Point_told).binds (ps := ["self"]) fun _ _ _ _ _ _ us hl => match us, hl with | [_], _ => rfl,
    a_Point_points := a_Point_points,
    d_Point_points := _,
    F_Point_points := fun_mk (st := st_Point_points) l_Point_points c_Point_points k_Point_points,
    b_Point_points := (fun_mk (st := st_Point_points) l_Point_points c_Point_points k_Point_points).binds (ps := ["self"]) fun _ _ _ _ _ _ us hl => match us, hl with | [_], _ => rfl,
    a_Inner_init := a_Inner_init,
    d_Inner_init := _,
    F_Inner_init := fun_mk (st := st_Inner_init) l_Inner_init c_Inner_init k_Inner_init,
    b_Inner_init := (fun_mk (st := st_Inner_init) l_Inner_init c_Inner_init k_Inner_init).binds (ps := ["self", "parts"]) fun _ _ _ _ _ _ us hl => match us, hl with | [_, _], _ => rfl,
    a_Inner_told := a_Inner_told,
    d_Inner_told := _,
    F_Inner_told := fun_mk (st := st_Inner_told) l_Inner_told c_Inner_told k_Inner_told,
    b_Inner_told := (fun_mk (st := st_Inner_told) l_Inner_told c_Inner_told k_Inner_told).binds (ps := ["self"]) fun _ _ _ _ _ _ us hl => match us, hl with | [_], _ => rfl,
    a_Inner_points := a_Inner_points,
    d_Inner_points := _,
    F_Inner_points := fun_mk (st := st_Inner_points) l_Inner_points c_Inner_points k_Inner_points,
    b_Inner_points := (fun_mk (st := st_Inner_points) l_Inner_points c_Inner_points k_Inner_points).binds (ps := ["self"]) fun _ _ _ _ _ _ us hl => match us, hl with | [_], _ => rfl,
    a_Side_word := a_Side_word,
    d_Side_word := _,
    F_Side_word := fun_mk (st := st_Side_word) l_Side_word c_Side_word k_Side_word,
    b_Side_word := (fun_mk (st := st_Side_word) l_Side_word c_Side_word k_Side_word).binds (ps := ["self"]) fun _ _ _ _ _ _ us hl => match us, hl with | [_], _ => rfl,
    a_Join_word := a_Join_word,
    d_Join_word := _,
    F_Join_word := fun_mk (st := st_Join_word) l_Join_word c_Join_word k_Join_word,
    b_Join_word := (fun_mk (st := st_Join_word) l_Join_word c_Join_word k_Join_word).binds (ps := ["self"]) fun _ _ _ _ _ _ us hl => match us, hl with | [_], _ => rfl,
    a_Reader_init := a_Reader_init,
    d_Reader_init := _,
    F_Reader_init := fun_mk (st := st_Reader_init) l_Reader_init c_Reader_init k_Reader_init,
    b_Reader_init := (fun_mk (st := st_Reader_init) l_Reader_init c_Reader_init k_Reader_init).binds (ps := ["self", "text"]) fun _ _ _ _ _ _ us hl => match us, hl with | [_, _], _ => rfl,
    a_Reader_ahead := a_Reader_ahead,
    d_Reader_ahead := _,
    F_Reader_ahead := fun_mk (st := st_Reader_ahead) l_Reader_ahead c_Reader_ahead k_Reader_ahead,
    b_Reader_ahead := (fun_mk (st := st_Reader_ahead) l_Reader_ahead c_Reader_ahead k_Reader_ahead).binds (ps := ["self", "many"]) fun _ _ _ _ _ _ us hl => match us, hl with | [_, _], _ => rfl,
    a_Reader_read_point := a_Reader_read_point,
    d_Reader_read_point := _,
    F_Reader_read_point := fun_mk (st := st_Reader_read_point) l_Reader_read_point c_Reader_read_point k_Reader_read_point,
    b_Reader_read_point := (fun_mk (st := st_Reader_read_point) l_Reader_read_point c_Reader_read_point k_Reader_read_point).binds (ps := ["self"]) fun _ _ _ _ _ _ us hl => match us, hl with | [_], _ => rfl,
    a_Reader_tree := a_Reader_tree,
    d_Reader_tree := _,
    F_Reader_tree := fun_mk (st := st_Reader_tree) l_Reader_tree c_Reader_tree k_Reader_tree,
    b_Reader_tree := (fun_mk (st := st_Reader_tree) l_Reader_tree c_Reader_tree k_Reader_tree).binds (ps := ["self", "left"]) fun _ _ _ _ _ _ us hl => match us, hl with | [_, _], _ => rfl,
    c_Point := c_Point,
    cl_Point := ⟨pg_Point, hd_Point, po_Point, sa_Point⟩,
    g_Point := PySem.W.mg_of X G n_Point,
    mk_Point := ⟨mk_Point, in_Point, if_Point, kp_Point⟩,
    n_Point_number := f_Point_number,
    m_Point_told := ⟨m_Point_told, mf_Point_told, k_Point_told⟩,
    m_Point_points := ⟨m_Point_points, mf_Point_points, k_Point_points⟩,
    m_Point_word := ⟨m_Point_word, mf_Point_word, k_Tree_word⟩,
    c_Side := c_Side,
    cl_Side := ⟨pg_Side, hd_Side, po_Side, sa_Side⟩,
    g_Side := PySem.W.mg_of X G n_Side,
    mk_Side := ⟨mk_Side, in_Side, if_Side, kp_Side⟩,
    n_Side_parts := f_Side_parts,
    m_Side_word := ⟨m_Side_word, mf_Side_word, k_Side_word⟩,
    m_Side_told := ⟨m_Side_told, mf_Side_told, k_Inner_told⟩,
    m_Side_points := ⟨m_Side_points, mf_Side_points, k_Inner_points⟩,
    c_Join := c_Join,
    cl_Join := ⟨pg_Join, hd_Join, po_Join, sa_Join⟩,
    g_Join := PySem.W.mg_of X G n_Join,
    mk_Join := ⟨mk_Join, in_Join, if_Join, kp_Join⟩,
    n_Join_parts := f_Join_parts,
    m_Join_word := ⟨m_Join_word, mf_Join_word, k_Join_word⟩,
    m_Join_told := ⟨m_Join_told, mf_Join_told, k_Inner_told⟩,
    m_Join_points := ⟨m_Join_points, mf_Join_points, k_Inner_points⟩,
    c_Reader := c_Reader,
    cl_Reader := ⟨pg_Reader, hd_Reader, po_Reader, sa_Reader⟩,
    g_Reader := PySem.W.mg_of X G n_Reader,
    mk_Reader := ⟨mk_Reader, in_Reader, if_Reader, kp_Reader⟩,
    n_Reader_text := f_Reader_text,
    n_Reader_spot := f_Reader_spot,
    m_Reader_ahead := ⟨m_Reader_ahead, mf_Reader_ahead, k_Reader_ahead⟩,
    m_Reader_read_point := ⟨m_Reader_read_point, mf_Reader_read_point, k_Reader_read_point⟩,
    m_Reader_tree := ⟨m_Reader_tree, mf_Reader_tree, k_Reader_tree⟩,
    c_BadTree := c_BadTree,
    g_BadTree := PySem.W.mg_of X G n_BadTree,
    be_BadTree := be_BadTree,
    te_BadTree := te_BadTree,
    is_BadTree := is_BadTree,
    hx_BadTree := hx_BadTree,
    sb_BadTree_BadTree := sb_BadTree_BadTree,
    x_BadTree := x_BadTree,
    kp_BadTree := kp_BadTree,
    ex_BadTree := ⟨xg_BadTree, xk_BadTree, be_BadTree, hx_BadTree, xa_BadTree, spc, tkc, xm_BadTree⟩,
    sb_BadTree_BadText := sb_BadTree_BadText,
    sv_BadTree := sv_BadTree,
    c_BadText := c_BadText,
    g_BadText := PySem.W.mg_of X G n_BadText,
    be_BadText := be_BadText,
    te_BadText := te_BadText,
    is_BadText := is_BadText,
    hx_BadText := hx_BadText,
    sb_BadText_BadText := sb_BadText_BadText,
    x_BadText := x_BadText,
    kp_BadText := kp_BadText,
    ex_BadText := ⟨xg_BadText, xk_BadText, be_BadText, hx_BadText, xa_BadText, spc, tkc, xm_BadText⟩,
    sb_BadText_BadTree := sb_BadText_BadTree,
    sv_BadText := sv_BadText,
    t_MOST_POINTS := t_MOST_POINTS,
    g_MOST_POINTS := PySem.W.mg_of X G n_MOST_POINTS,
    a_SIGNS := a_SIGNS,
    g_SIGNS := PySem.W.mg_of X G n_SIGNS,
    kd_SIGNS_0 := ⟨es_SIGNS, no_SIGNS, _, l_SIGNS, kl_SIGNS, ks_SIGNS_0, ⟨_, rfl⟩⟩,
    kd_SIGNS_1 := ⟨es_SIGNS, no_SIGNS, _, l_SIGNS, kl_SIGNS, ks_SIGNS_1, ⟨_, rfl⟩⟩,
    t_FIGURES := t_FIGURES,
    g_FIGURES := PySem.W.mg_of X G n_FIGURES,
    t_LONGEST := t_LONGEST,
    g_LONGEST := PySem.W.mg_of X G n_LONGEST,
    z_all := PySem.W.mg_none_of X G z_all,
    z_bool := PySem.W.mg_none_of X G z_bool,
    z_int := PySem.W.mg_none_of X G z_int,
    z_isinstance := PySem.W.mg_none_of X G z_isinstance,
    z_len := PySem.W.mg_none_of X G z_len,
    z_list := PySem.W.mg_none_of X G z_list,
    z_min := PySem.W.mg_none_of X G z_min,
    z_range := PySem.W.mg_none_of X G z_range,
    z_repr := PySem.W.mg_none_of X G z_repr,
    z_set := PySem.W.mg_none_of X G z_set,
    z_sorted := PySem.W.mg_none_of X G z_sorted,
    z_str := PySem.W.mg_none_of X G z_str,
    z_tuple := PySem.W.mg_none_of X G z_tuple }, rfl⟩
theorem fin {K : PySem.W.Frag} {h : Heap} {mg : Str → Option Value} {fa : Addr} (X : K.In h) (G : h.Ns mainGlobals mg) (hmg : mg "law" = some (.ref fa))
    {a_is_among : Addr} {a_need : Addr} {a_made_by : Addr} {a_tree_by : Addr} {a_text_of : Addr} {a_shown : Addr} {a_read : Addr} {a__law_mixed : Addr} {a__law_number : Addr} {a__law_order : Addr} {a__law_least : Addr} {a__law_told : Addr} {a__law_tree : Addr} {a__law_text : Addr} {a__law_right : Addr} {a_law : Addr} {a_Tree_word : Addr} {a_Point_init : Addr} {a_Point_told : Addr} {a_Point_points : Addr} {a_Inner_init : Addr} {a_Inner_told : Addr} {a_Inner_points : Addr} {a_Side_word : Addr} {a_Join_word : Addr} {a_Reader_init : Addr} {a_Reader_ahead : Addr} {a_Reader_read_point : Addr} {a_Reader_tree : Addr} {c_Point : Addr} {c_Side : Addr} {c_Join : Addr} {c_Reader : Addr} {c_BadTree : Addr} {c_BadText : Addr} {t_MOST_POINTS : Tok} {a_SIGNS : Addr} {es_SIGNS : Array DictEntry} {no_SIGNS : Nat} {tk_SIGNS_0 : Tok} {tk_SIGNS_1 : Tok} {t_FIGURES : Tok} {t_LONGEST : Tok}
    {od_is_among an_is_among : Option Addr} {sl_is_among : Array (Option Value)} {oc_is_among kV_is_among dc_is_among pm_is_among cd_is_among ct_is_among : Value}
    {od_need an_need : Option Addr} {sl_need : Array (Option Value)} {oc_need kV_need dc_need pm_need cd_need ct_need : Value}
    {od_made_by an_made_by : Option Addr} {sl_made_by : Array (Option Value)} {oc_made_by kV_made_by dc_made_by pm_made_by cd_made_by ct_made_by : Value}
    {od_tree_by an_tree_by : Option Addr} {sl_tree_by : Array (Option Value)} {oc_tree_by kV_tree_by dc_tree_by pm_tree_by cd_tree_by ct_tree_by : Value}
    {od_text_of an_text_of : Option Addr} {sl_text_of : Array (Option Value)} {oc_text_of kV_text_of dc_text_of pm_text_of cd_text_of ct_text_of : Value}
    {od_shown an_shown : Option Addr} {sl_shown : Array (Option Value)} {oc_shown kV_shown dc_shown pm_shown cd_shown ct_shown : Value}
    {od_read an_read : Option Addr} {sl_read : Array (Option Value)} {oc_read kV_read dc_read pm_read cd_read ct_read : Value}
    {od__law_mixed an__law_mixed : Option Addr} {sl__law_mixed : Array (Option Value)} {oc__law_mixed kV__law_mixed dc__law_mixed pm__law_mixed cd__law_mixed ct__law_mixed : Value}
    {od__law_number an__law_number : Option Addr} {sl__law_number : Array (Option Value)} {oc__law_number kV__law_number dc__law_number pm__law_number cd__law_number ct__law_number : Value}
    {od__law_order an__law_order : Option Addr} {sl__law_order : Array (Option Value)} {oc__law_order kV__law_order dc__law_order pm__law_order cd__law_order ct__law_order : Value}
    {od__law_least an__law_least : Option Addr} {sl__law_least : Array (Option Value)} {oc__law_least kV__law_least dc__law_least pm__law_least cd__law_least ct__law_least : Value}
    {od__law_told an__law_told : Option Addr} {sl__law_told : Array (Option Value)} {oc__law_told kV__law_told dc__law_told pm__law_told cd__law_told ct__law_told : Value}
    {od__law_tree an__law_tree : Option Addr} {sl__law_tree : Array (Option Value)} {oc__law_tree kV__law_tree dc__law_tree pm__law_tree cd__law_tree ct__law_tree : Value}
    {od__law_text an__law_text : Option Addr} {sl__law_text : Array (Option Value)} {oc__law_text kV__law_text dc__law_text pm__law_text cd__law_text ct__law_text : Value}
    {od__law_right an__law_right : Option Addr} {sl__law_right : Array (Option Value)} {oc__law_right kV__law_right dc__law_right pm__law_right cd__law_right ct__law_right : Value}
    {od_law an_law : Option Addr} {sl_law : Array (Option Value)} {oc_law kV_law dc_law pm_law cd_law ct_law : Value}
    {od_Tree_word an_Tree_word : Option Addr} {sl_Tree_word : Array (Option Value)} {oc_Tree_word kV_Tree_word dc_Tree_word pm_Tree_word cd_Tree_word ct_Tree_word : Value}
    {od_Point_init an_Point_init : Option Addr} {sl_Point_init : Array (Option Value)} {oc_Point_init kV_Point_init dc_Point_init pm_Point_init cd_Point_init ct_Point_init : Value}
    {od_Point_told an_Point_told : Option Addr} {sl_Point_told : Array (Option Value)} {oc_Point_told kV_Point_told dc_Point_told pm_Point_told cd_Point_told ct_Point_told : Value}
    {od_Point_points an_Point_points : Option Addr} {sl_Point_points : Array (Option Value)} {oc_Point_points kV_Point_points dc_Point_points pm_Point_points cd_Point_points ct_Point_points : Value}
    {od_Inner_init an_Inner_init : Option Addr} {sl_Inner_init : Array (Option Value)} {oc_Inner_init kV_Inner_init dc_Inner_init pm_Inner_init cd_Inner_init ct_Inner_init : Value}
    {od_Inner_told an_Inner_told : Option Addr} {sl_Inner_told : Array (Option Value)} {oc_Inner_told kV_Inner_told dc_Inner_told pm_Inner_told cd_Inner_told ct_Inner_told : Value}
    {od_Inner_points an_Inner_points : Option Addr} {sl_Inner_points : Array (Option Value)} {oc_Inner_points kV_Inner_points dc_Inner_points pm_Inner_points cd_Inner_points ct_Inner_points : Value}
    {od_Side_word an_Side_word : Option Addr} {sl_Side_word : Array (Option Value)} {oc_Side_word kV_Side_word dc_Side_word pm_Side_word cd_Side_word ct_Side_word : Value}
    {od_Join_word an_Join_word : Option Addr} {sl_Join_word : Array (Option Value)} {oc_Join_word kV_Join_word dc_Join_word pm_Join_word cd_Join_word ct_Join_word : Value}
    {od_Reader_init an_Reader_init : Option Addr} {sl_Reader_init : Array (Option Value)} {oc_Reader_init kV_Reader_init dc_Reader_init pm_Reader_init cd_Reader_init ct_Reader_init : Value}
    {od_Reader_ahead an_Reader_ahead : Option Addr} {sl_Reader_ahead : Array (Option Value)} {oc_Reader_ahead kV_Reader_ahead dc_Reader_ahead pm_Reader_ahead cd_Reader_ahead ct_Reader_ahead : Value}
    {od_Reader_read_point an_Reader_read_point : Option Addr} {sl_Reader_read_point : Array (Option Value)} {oc_Reader_read_point kV_Reader_read_point dc_Reader_read_point pm_Reader_read_point cd_Reader_read_point ct_Reader_read_point : Value}
    {od_Reader_tree an_Reader_tree : Option Addr} {sl_Reader_tree : Array (Option Value)} {oc_Reader_tree kV_Reader_tree dc_Reader_tree pm_Reader_tree cd_Reader_tree ct_Reader_tree : Value}
    (l_is_among : K.lookup a_is_among = some ⟨oc_is_among, od_is_among, .func (PySem.W.fnOf "is_among" "is_among" (defArgs st_is_among) (defBody st_is_among) (defScope st_is_among) .none kV_is_among dc_is_among pm_is_among an_is_among cd_is_among ct_is_among), sl_is_among⟩)
    (c_is_among : PySem.W.codeIn K cd_is_among "is_among" = true)
    (k_is_among : PySem.W.keepIn K (.ref a_is_among) = true)
    (n_is_among : PySem.W.nsIn K mainGlobals "is_among" = some (some (.ref a_is_among)))
    (l_need : K.lookup a_need = some ⟨oc_need, od_need, .func (PySem.W.fnOf "need" "need" (defArgs st_need) (defBody st_need) (defScope st_need) .none kV_need dc_need pm_need an_need cd_need ct_need), sl_need⟩)
    (c_need : PySem.W.codeIn K cd_need "need" = true)
    (k_need : PySem.W.keepIn K (.ref a_need) = true)
    (n_need : PySem.W.nsIn K mainGlobals "need" = some (some (.ref a_need)))
    (l_made_by : K.lookup a_made_by = some ⟨oc_made_by, od_made_by, .func (PySem.W.fnOf "made_by" "made_by" (defArgs st_made_by) (defBody st_made_by) (defScope st_made_by) .none kV_made_by dc_made_by pm_made_by an_made_by cd_made_by ct_made_by), sl_made_by⟩)
    (c_made_by : PySem.W.codeIn K cd_made_by "made_by" = true)
    (k_made_by : PySem.W.keepIn K (.ref a_made_by) = true)
    (n_made_by : PySem.W.nsIn K mainGlobals "made_by" = some (some (.ref a_made_by)))
    (l_tree_by : K.lookup a_tree_by = some ⟨oc_tree_by, od_tree_by, .func (PySem.W.fnOf "tree_by" "tree_by" (defArgs st_tree_by) (defBody st_tree_by) (defScope st_tree_by) .none kV_tree_by dc_tree_by pm_tree_by an_tree_by cd_tree_by ct_tree_by), sl_tree_by⟩)
    (c_tree_by : PySem.W.codeIn K cd_tree_by "tree_by" = true)
    (k_tree_by : PySem.W.keepIn K (.ref a_tree_by) = true)
    (n_tree_by : PySem.W.nsIn K mainGlobals "tree_by" = some (some (.ref a_tree_by)))
    (l_text_of : K.lookup a_text_of = some ⟨oc_text_of, od_text_of, .func (PySem.W.fnOf "text_of" "text_of" (defArgs st_text_of) (defBody st_text_of) (defScope st_text_of) .none kV_text_of dc_text_of pm_text_of an_text_of cd_text_of ct_text_of), sl_text_of⟩)
    (c_text_of : PySem.W.codeIn K cd_text_of "text_of" = true)
    (k_text_of : PySem.W.keepIn K (.ref a_text_of) = true)
    (n_text_of : PySem.W.nsIn K mainGlobals "text_of" = some (some (.ref a_text_of)))
    (l_shown : K.lookup a_shown = some ⟨oc_shown, od_shown, .func (PySem.W.fnOf "shown" "shown" (defArgs st_shown) (defBody st_shown) (defScope st_shown) .none kV_shown dc_shown pm_shown an_shown cd_shown ct_shown), sl_shown⟩)
    (c_shown : PySem.W.codeIn K cd_shown "shown" = true)
    (k_shown : PySem.W.keepIn K (.ref a_shown) = true)
    (n_shown : PySem.W.nsIn K mainGlobals "shown" = some (some (.ref a_shown)))
    (l_read : K.lookup a_read = some ⟨oc_read, od_read, .func (PySem.W.fnOf "read" "read" (defArgs st_read) (defBody st_read) (defScope st_read) .none kV_read dc_read pm_read an_read cd_read ct_read), sl_read⟩)
    (c_read : PySem.W.codeIn K cd_read "read" = true)
    (k_read : PySem.W.keepIn K (.ref a_read) = true)
    (n_read : PySem.W.nsIn K mainGlobals "read" = some (some (.ref a_read)))
    (l__law_mixed : K.lookup a__law_mixed = some ⟨oc__law_mixed, od__law_mixed, .func (PySem.W.fnOf "_law_mixed" "_law_mixed" (defArgs st__law_mixed) (defBody st__law_mixed) (defScope st__law_mixed) .none kV__law_mixed dc__law_mixed pm__law_mixed an__law_mixed cd__law_mixed ct__law_mixed), sl__law_mixed⟩)
    (c__law_mixed : PySem.W.codeIn K cd__law_mixed "_law_mixed" = true)
    (k__law_mixed : PySem.W.keepIn K (.ref a__law_mixed) = true)
    (n__law_mixed : PySem.W.nsIn K mainGlobals "_law_mixed" = some (some (.ref a__law_mixed)))
    (l__law_number : K.lookup a__law_number = some ⟨oc__law_number, od__law_number, .func (PySem.W.fnOf "_law_number" "_law_number" (defArgs st__law_number) (defBody st__law_number) (defScope st__law_number) .none kV__law_number dc__law_number pm__law_number an__law_number cd__law_number ct__law_number), sl__law_number⟩)
    (c__law_number : PySem.W.codeIn K cd__law_number "_law_number" = true)
    (k__law_number : PySem.W.keepIn K (.ref a__law_number) = true)
    (n__law_number : PySem.W.nsIn K mainGlobals "_law_number" = some (some (.ref a__law_number)))
    (l__law_order : K.lookup a__law_order = some ⟨oc__law_order, od__law_order, .func (PySem.W.fnOf "_law_order" "_law_order" (defArgs st__law_order) (defBody st__law_order) (defScope st__law_order) .none kV__law_order dc__law_order pm__law_order an__law_order cd__law_order ct__law_order), sl__law_order⟩)
    (c__law_order : PySem.W.codeIn K cd__law_order "_law_order" = true)
    (k__law_order : PySem.W.keepIn K (.ref a__law_order) = true)
    (n__law_order : PySem.W.nsIn K mainGlobals "_law_order" = some (some (.ref a__law_order)))
    (l__law_least : K.lookup a__law_least = some ⟨oc__law_least, od__law_least, .func (PySem.W.fnOf "_law_least" "_law_least" (defArgs st__law_least) (defBody st__law_least) (defScope st__law_least) .none kV__law_least dc__law_least pm__law_least an__law_least cd__law_least ct__law_least), sl__law_least⟩)
    (c__law_least : PySem.W.codeIn K cd__law_least "_law_least" = true)
    (k__law_least : PySem.W.keepIn K (.ref a__law_least) = true)
    (n__law_least : PySem.W.nsIn K mainGlobals "_law_least" = some (some (.ref a__law_least)))
    (l__law_told : K.lookup a__law_told = some ⟨oc__law_told, od__law_told, .func (PySem.W.fnOf "_law_told" "_law_told" (defArgs st__law_told) (defBody st__law_told) (defScope st__law_told) .none kV__law_told dc__law_told pm__law_told an__law_told cd__law_told ct__law_told), sl__law_told⟩)
    (c__law_told : PySem.W.codeIn K cd__law_told "_law_told" = true)
    (k__law_told : PySem.W.keepIn K (.ref a__law_told) = true)
    (n__law_told : PySem.W.nsIn K mainGlobals "_law_told" = some (some (.ref a__law_told)))
    (l__law_tree : K.lookup a__law_tree = some ⟨oc__law_tree, od__law_tree, .func (PySem.W.fnOf "_law_tree" "_law_tree" (defArgs st__law_tree) (defBody st__law_tree) (defScope st__law_tree) .none kV__law_tree dc__law_tree pm__law_tree an__law_tree cd__law_tree ct__law_tree), sl__law_tree⟩)
    (c__law_tree : PySem.W.codeIn K cd__law_tree "_law_tree" = true)
    (k__law_tree : PySem.W.keepIn K (.ref a__law_tree) = true)
    (n__law_tree : PySem.W.nsIn K mainGlobals "_law_tree" = some (some (.ref a__law_tree)))
    (l__law_text : K.lookup a__law_text = some ⟨oc__law_text, od__law_text, .func (PySem.W.fnOf "_law_text" "_law_text" (defArgs st__law_text) (defBody st__law_text) (defScope st__law_text) .none kV__law_text dc__law_text pm__law_text an__law_text cd__law_text ct__law_text), sl__law_text⟩)
    (c__law_text : PySem.W.codeIn K cd__law_text "_law_text" = true)
    (k__law_text : PySem.W.keepIn K (.ref a__law_text) = true)
    (n__law_text : PySem.W.nsIn K mainGlobals "_law_text" = some (some (.ref a__law_text)))
    (l__law_right : K.lookup a__law_right = some ⟨oc__law_right, od__law_right, .func (PySem.W.fnOf "_law_right" "_law_right" (defArgs st__law_right) (defBody st__law_right) (defScope st__law_right) .none kV__law_right dc__law_right pm__law_right an__law_right cd__law_right ct__law_right), sl__law_right⟩)
    (c__law_right : PySem.W.codeIn K cd__law_right "_law_right" = true)
    (k__law_right : PySem.W.keepIn K (.ref a__law_right) = true)
    (n__law_right : PySem.W.nsIn K mainGlobals "_law_right" = some (some (.ref a__law_right)))
    (l_law : K.lookup a_law = some ⟨oc_law, od_law, .func (PySem.W.fnOf "law" "law" (defArgs st_law) (defBody st_law) (defScope st_law) .none kV_law dc_law pm_law an_law cd_law ct_law), sl_law⟩)
    (c_law : PySem.W.codeIn K cd_law "law" = true)
    (k_law : PySem.W.keepIn K (.ref a_law) = true)
    (n_law : PySem.W.nsIn K mainGlobals "law" = some (some (.ref a_law)))
    (l_Tree_word : K.lookup a_Tree_word = some ⟨oc_Tree_word, od_Tree_word, .func (PySem.W.fnOf "word" "Tree.word" (defArgs st_Tree_word) (defBody st_Tree_word) (defScope st_Tree_word) .none kV_Tree_word dc_Tree_word pm_Tree_word an_Tree_word cd_Tree_word ct_Tree_word), sl_Tree_word⟩)
    (c_Tree_word : PySem.W.codeIn K cd_Tree_word "Tree.word" = true)
    (k_Tree_word : PySem.W.keepIn K (.ref a_Tree_word) = true)
    (l_Point_init : K.lookup a_Point_init = some ⟨oc_Point_init, od_Point_init, .func (PySem.W.fnOf "__init__" "Point.__init__" (defArgs st_Point_init) (defBody st_Point_init) (defScope st_Point_init) .none kV_Point_init dc_Point_init pm_Point_init an_Point_init cd_Point_init ct_Point_init), sl_Point_init⟩)
    (c_Point_init : PySem.W.codeIn K cd_Point_init "Point.__init__" = true)
    (k_Point_init : PySem.W.keepIn K (.ref a_Point_init) = true)
    (l_Point_told : K.lookup a_Point_told = some ⟨oc_Point_told, od_Point_told, .func (PySem.W.fnOf "told" "Point.told" (defArgs st_Point_told) (defBody st_Point_told) (defScope st_Point_told) .none kV_Point_told dc_Point_told pm_Point_told an_Point_told cd_Point_told ct_Point_told), sl_Point_told⟩)
    (c_Point_told : PySem.W.codeIn K cd_Point_told "Point.told" = true)
    (k_Point_told : PySem.W.keepIn K (.ref a_Point_told) = true)
    (l_Point_points : K.lookup a_Point_points = some ⟨oc_Point_points, od_Point_points, .func (PySem.W.fnOf "points" "Point.points" (defArgs st_Point_points) (defBody st_Point_points) (defScope st_Point_points) .none kV_Point_points dc_Point_points pm_Point_points an_Point_points cd_Point_points ct_Point_points), sl_Point_points⟩)
    (c_Point_points : PySem.W.codeIn K cd_Point_points "Point.points" = true)
    (k_Point_points : PySem.W.keepIn K (.ref a_Point_points) = true)
    (l_Inner_init : K.lookup a_Inner_init = some ⟨oc_Inner_init, od_Inner_init, .func (PySem.W.fnOf "__init__" "Inner.__init__" (defArgs st_Inner_init) (defBody st_Inner_init) (defScope st_Inner_init) .none kV_Inner_init dc_Inner_init pm_Inner_init an_Inner_init cd_Inner_init ct_Inner_init), sl_Inner_init⟩)
    (c_Inner_init : PySem.W.codeIn K cd_Inner_init "Inner.__init__" = true)
    (k_Inner_init : PySem.W.keepIn K (.ref a_Inner_init) = true)
    (l_Inner_told : K.lookup a_Inner_told = some ⟨oc_Inner_told, od_Inner_told, .func (PySem.W.fnOf "told" "Inner.told" (defArgs st_Inner_told) (defBody st_Inner_told) (defScope st_Inner_told) .none kV_Inner_told dc_Inner_told pm_Inner_told an_Inner_told cd_Inner_told ct_Inner_told), sl_Inner_told⟩)
    (c_Inner_told : PySem.W.codeIn K cd_Inner_told "Inner.told" = true)
    (k_Inner_told : PySem.W.keepIn K (.ref a_Inner_told) = true)
    (l_Inner_points : K.lookup a_Inner_points = some ⟨oc_Inner_points, od_Inner_points, .func (PySem.W.fnOf "points" "Inner.points" (defArgs st_Inner_points) (defBody st_Inner_points) (defScope st_Inner_points) .none kV_Inner_points dc_Inner_points pm_Inner_points an_Inner_points cd_Inner_points ct_Inner_points), sl_Inner_points⟩)
    (c_Inner_points : PySem.W.codeIn K cd_Inner_points "Inner.points" = true)
    (k_Inner_points : PySem.W.keepIn K (.ref a_Inner_points) = true)
    (l_Side_word : K.lookup a_Side_word = some ⟨oc_Side_word, od_Side_word, .func (PySem.W.fnOf "word" "Side.word" (defArgs st_Side_word) (defBody st_Side_word) (defScope st_Side_word) .none kV_Side_word dc_Side_word pm_Side_word an_Side_word cd_Side_word ct_Side_word), sl_Side_word⟩)
    (c_Side_word : PySem.W.codeIn K cd_Side_word "Side.word" = true)
    (k_Side_word : PySem.W.keepIn K (.ref a_Side_word) = true)
    (l_Join_word : K.lookup a_Join_word = some ⟨oc_Join_word, od_Join_word, .func (PySem.W.fnOf "word" "Join.word" (defArgs st_Join_word) (defBody st_Join_word) (defScope st_Join_word) .none kV_Join_word dc_Join_word pm_Join_word an_Join_word cd_Join_word ct_Join_word), sl_Join_word⟩)
    (c_Join_word : PySem.W.codeIn K cd_Join_word "Join.word" = true)
    (k_Join_word : PySem.W.keepIn K (.ref a_Join_word) = true)
    (l_Reader_init : K.lookup a_Reader_init = some ⟨oc_Reader_init, od_Reader_init, .func (PySem.W.fnOf "__init__" "Reader.__init__" (defArgs st_Reader_init) (defBody st_Reader_init) (defScope st_Reader_init) .none kV_Reader_init dc_Reader_init pm_Reader_init an_Reader_init cd_Reader_init ct_Reader_init), sl_Reader_init⟩)
    (c_Reader_init : PySem.W.codeIn K cd_Reader_init "Reader.__init__" = true)
    (k_Reader_init : PySem.W.keepIn K (.ref a_Reader_init) = true)
    (l_Reader_ahead : K.lookup a_Reader_ahead = some ⟨oc_Reader_ahead, od_Reader_ahead, .func (PySem.W.fnOf "ahead" "Reader.ahead" (defArgs st_Reader_ahead) (defBody st_Reader_ahead) (defScope st_Reader_ahead) .none kV_Reader_ahead dc_Reader_ahead pm_Reader_ahead an_Reader_ahead cd_Reader_ahead ct_Reader_ahead), sl_Reader_ahead⟩)
    (c_Reader_ahead : PySem.W.codeIn K cd_Reader_ahead "Reader.ahead" = true)
    (k_Reader_ahead : PySem.W.keepIn K (.ref a_Reader_ahead) = true)
    (l_Reader_read_point : K.lookup a_Reader_read_point = some ⟨oc_Reader_read_point, od_Reader_read_point, .func (PySem.W.fnOf "read_point" "Reader.read_point" (defArgs st_Reader_read_point) (defBody st_Reader_read_point) (defScope st_Reader_read_point) .none kV_Reader_read_point dc_Reader_read_point pm_Reader_read_point an_Reader_read_point cd_Reader_read_point ct_Reader_read_point), sl_Reader_read_point⟩)
    (c_Reader_read_point : PySem.W.codeIn K cd_Reader_read_point "Reader.read_point" = true)
    (k_Reader_read_point : PySem.W.keepIn K (.ref a_Reader_read_point) = true)
    (l_Reader_tree : K.lookup a_Reader_tree = some ⟨oc_Reader_tree, od_Reader_tree, .func (PySem.W.fnOf "tree" "Reader.tree" (defArgs st_Reader_tree) (defBody st_Reader_tree) (defScope st_Reader_tree) .none kV_Reader_tree dc_Reader_tree pm_Reader_tree an_Reader_tree cd_Reader_tree ct_Reader_tree), sl_Reader_tree⟩)
    (c_Reader_tree : PySem.W.codeIn K cd_Reader_tree "Reader.tree" = true)
    (k_Reader_tree : PySem.W.keepIn K (.ref a_Reader_tree) = true)
    (pg_Point : PySem.W.plainGet K c_Point Str.empty = true)
    (hd_Point : PySem.W.hasDictIn K c_Point = true)
    (po_Point : PySem.W.plainOver K c_Point = true)
    (sa_Point : PySem.W.findIn K (.ref c_Point) "__setattr__" = some (some (.builtin "object.__setattr__")))
    (n_Point : PySem.W.nsIn K mainGlobals "Point" = some (some (.ref c_Point)))
    (mk_Point : PySem.W.makesIn K c_Point = true)
    (in_Point : PySem.W.findIn K (.ref c_Point) "__init__" = some (some (.ref a_Point_init)))
    (kp_Point : PySem.W.keepIn K (.ref c_Point) = true)
    (if_Point : PySem.W.isFn K (.ref a_Point_init) = true)
    (f_Point_number : PySem.W.findIn K (.ref c_Point) "number" = some none)
    (m_Point_told : PySem.W.findIn K (.ref c_Point) "told" = some (some (.ref a_Point_told)))
    (mf_Point_told : PySem.W.isFn K (.ref a_Point_told) = true)
    (m_Point_points : PySem.W.findIn K (.ref c_Point) "points" = some (some (.ref a_Point_points)))
    (mf_Point_points : PySem.W.isFn K (.ref a_Point_points) = true)
    (m_Point_word : PySem.W.findIn K (.ref c_Point) "word" = some (some (.ref a_Tree_word)))
    (mf_Point_word : PySem.W.isFn K (.ref a_Tree_word) = true)
    (pg_Side : PySem.W.plainGet K c_Side Str.empty = true)
    (hd_Side : PySem.W.hasDictIn K c_Side = true)
    (po_Side : PySem.W.plainOver K c_Side = true)
    (sa_Side : PySem.W.findIn K (.ref c_Side) "__setattr__" = some (some (.builtin "object.__setattr__")))
    (n_Side : PySem.W.nsIn K mainGlobals "Side" = some (some (.ref c_Side)))
    (mk_Side : PySem.W.makesIn K c_Side = true)
    (in_Side : PySem.W.findIn K (.ref c_Side) "__init__" = some (some (.ref a_Inner_init)))
    (kp_Side : PySem.W.keepIn K (.ref c_Side) = true)
    (if_Side : PySem.W.isFn K (.ref a_Inner_init) = true)
    (f_Side_parts : PySem.W.findIn K (.ref c_Side) "parts" = some none)
    (m_Side_word : PySem.W.findIn K (.ref c_Side) "word" = some (some (.ref a_Side_word)))
    (mf_Side_word : PySem.W.isFn K (.ref a_Side_word) = true)
    (m_Side_told : PySem.W.findIn K (.ref c_Side) "told" = some (some (.ref a_Inner_told)))
    (mf_Side_told : PySem.W.isFn K (.ref a_Inner_told) = true)
    (m_Side_points : PySem.W.findIn K (.ref c_Side) "points" = some (some (.ref a_Inner_points)))
    (mf_Side_points : PySem.W.isFn K (.ref a_Inner_points) = true)
    (pg_Join : PySem.W.plainGet K c_Join Str.empty = true)
    (hd_Join : PySem.W.hasDictIn K c_Join = true)
    (po_Join : PySem.W.plainOver K c_Join = true)
    (sa_Join : PySem.W.findIn K (.ref c_Join) "__setattr__" = some (some (.builtin "object.__setattr__")))
    (n_Join : PySem.W.nsIn K mainGlobals "Join" = some (some (.ref c_Join)))
    (mk_Join : PySem.W.makesIn K c_Join = true)
    (in_Join : PySem.W.findIn K (.ref c_Join) "__init__" = some (some (.ref a_Inner_init)))
    (kp_Join : PySem.W.keepIn K (.ref c_Join) = true)
    (if_Join : PySem.W.isFn K (.ref a_Inner_init) = true)
    (f_Join_parts : PySem.W.findIn K (.ref c_Join) "parts" = some none)
    (m_Join_word : PySem.W.findIn K (.ref c_Join) "word" = some (some (.ref a_Join_word)))
    (mf_Join_word : PySem.W.isFn K (.ref a_Join_word) = true)
    (m_Join_told : PySem.W.findIn K (.ref c_Join) "told" = some (some (.ref a_Inner_told)))
    (mf_Join_told : PySem.W.isFn K (.ref a_Inner_told) = true)
    (m_Join_points : PySem.W.findIn K (.ref c_Join) "points" = some (some (.ref a_Inner_points)))
    (mf_Join_points : PySem.W.isFn K (.ref a_Inner_points) = true)
    (pg_Reader : PySem.W.plainGet K c_Reader Str.empty = true)
    (hd_Reader : PySem.W.hasDictIn K c_Reader = true)
    (po_Reader : PySem.W.plainOver K c_Reader = true)
    (sa_Reader : PySem.W.findIn K (.ref c_Reader) "__setattr__" = some (some (.builtin "object.__setattr__")))
    (n_Reader : PySem.W.nsIn K mainGlobals "Reader" = some (some (.ref c_Reader)))
    (mk_Reader : PySem.W.makesIn K c_Reader = true)
    (in_Reader : PySem.W.findIn K (.ref c_Reader) "__init__" = some (some (.ref a_Reader_init)))
    (kp_Reader : PySem.W.keepIn K (.ref c_Reader) = true)
    (if_Reader : PySem.W.isFn K (.ref a_Reader_init) = true)
    (f_Reader_text : PySem.W.findIn K (.ref c_Reader) "text" = some none)
    (f_Reader_spot : PySem.W.findIn K (.ref c_Reader) "spot" = some none)
    (m_Reader_ahead : PySem.W.findIn K (.ref c_Reader) "ahead" = some (some (.ref a_Reader_ahead)))
    (mf_Reader_ahead : PySem.W.isFn K (.ref a_Reader_ahead) = true)
    (m_Reader_read_point : PySem.W.findIn K (.ref c_Reader) "read_point" = some (some (.ref a_Reader_read_point)))
    (mf_Reader_read_point : PySem.W.isFn K (.ref a_Reader_read_point) = true)
    (m_Reader_tree : PySem.W.findIn K (.ref c_Reader) "tree" = some (some (.ref a_Reader_tree)))
    (mf_Reader_tree : PySem.W.isFn K (.ref a_Reader_tree) = true)
    (spc : PySem.W.specialIn K (.builtin "object.__class__") "__get__" = some (some (.builtin "getset_descriptor.__get__")))
    (tkc : PySem.W.takesIn K (.builtin "object.__class__") = some true)
    (n_BadTree : PySem.W.nsIn K mainGlobals "BadTree" = some (some (.ref c_BadTree)))
    (be_BadTree : PySem.W.subIn K (.ref c_BadTree) (.type "BaseException") = some true)
    (te_BadTree : PySem.W.typeIn K (.ref c_BadTree) = some (.type "type"))
    (is_BadTree : PySem.W.isClsIn K c_BadTree = true)
    (hx_BadTree : PySem.W.hasDictIn K c_BadTree = true)
    (sb_BadTree_BadTree : PySem.W.subIn K (.ref c_BadTree) (.ref c_BadTree) = some true)
    (x_BadTree : PySem.W.excIn K c_BadTree [.type "ValueError", .type "Exception", .type "BaseException", .type "object"] "ValueError.__new__" = true)
    (kp_BadTree : PySem.W.keepIn K (.ref c_BadTree) = true)
    (xg_BadTree : PySem.W.findIn K (.ref c_BadTree) "__getattribute__" = some (some (.builtin "BaseException.__getattribute__")))
    (xk_BadTree : PySem.W.findIn K (.ref c_BadTree) "__getattr__" = some none)
    (xa_BadTree : PySem.W.findIn K (.ref c_BadTree) "__class__" = some (some (.builtin "object.__class__")))
    (xm_BadTree : PySem.W.mroIn K c_BadTree (.type "object") = some true)
    (sb_BadTree_BadText : PySem.W.subIn K (.ref c_BadTree) (.ref c_BadText) = some false)
    (sv_BadTree : PySem.W.subIn K (.ref c_BadTree) (.type "ValueError") = some true)
    (n_BadText : PySem.W.nsIn K mainGlobals "BadText" = some (some (.ref c_BadText)))
    (be_BadText : PySem.W.subIn K (.ref c_BadText) (.type "BaseException") = some true)
    (te_BadText : PySem.W.typeIn K (.ref c_BadText) = some (.type "type"))
    (is_BadText : PySem.W.isClsIn K c_BadText = true)
    (hx_BadText : PySem.W.hasDictIn K c_BadText = true)
    (sb_BadText_BadText : PySem.W.subIn K (.ref c_BadText) (.ref c_BadText) = some true)
    (x_BadText : PySem.W.excIn K c_BadText [.type "ValueError", .type "Exception", .type "BaseException", .type "object"] "ValueError.__new__" = true)
    (kp_BadText : PySem.W.keepIn K (.ref c_BadText) = true)
    (xg_BadText : PySem.W.findIn K (.ref c_BadText) "__getattribute__" = some (some (.builtin "BaseException.__getattribute__")))
    (xk_BadText : PySem.W.findIn K (.ref c_BadText) "__getattr__" = some none)
    (xa_BadText : PySem.W.findIn K (.ref c_BadText) "__class__" = some (some (.builtin "object.__class__")))
    (xm_BadText : PySem.W.mroIn K c_BadText (.type "object") = some true)
    (sb_BadText_BadTree : PySem.W.subIn K (.ref c_BadText) (.ref c_BadTree) = some false)
    (sv_BadText : PySem.W.subIn K (.ref c_BadText) (.type "ValueError") = some true)
    (n_MOST_POINTS : PySem.W.nsIn K mainGlobals "MOST_POINTS" = some (some (.int 30 t_MOST_POINTS)))
    (n_SIGNS : PySem.W.nsIn K mainGlobals "SIGNS" = some (some (.ref a_SIGNS)))
    (l_SIGNS : K.lookup a_SIGNS = some ⟨.type "dict", none, .dict es_SIGNS no_SIGNS, #[]⟩)
    (kl_SIGNS : PySem.W.KeysLit w.params es_SIGNS.toList)
    (ks_SIGNS_0 : PySem.W.nsIn K a_SIGNS "side" = some (some (.str " | " tk_SIGNS_0)))
    (ks_SIGNS_1 : PySem.W.nsIn K a_SIGNS "join" = some (some (.str " & " tk_SIGNS_1)))
    (n_FIGURES : PySem.W.nsIn K mainGlobals "FIGURES" = some (some (.str "0123456789" t_FIGURES)))
    (n_LONGEST : PySem.W.nsIn K mainGlobals "LONGEST" = some (some (.int 4000 t_LONGEST)))
    (z_all : PySem.W.nsIn K mainGlobals "all" = some none)
    (z_bool : PySem.W.nsIn K mainGlobals "bool" = some none)
    (z_int : PySem.W.nsIn K mainGlobals "int" = some none)
    (z_isinstance : PySem.W.nsIn K mainGlobals "isinstance" = some none)
    (z_len : PySem.W.nsIn K mainGlobals "len" = some none)
    (z_list : PySem.W.nsIn K mainGlobals "list" = some none)
    (z_min : PySem.W.nsIn K mainGlobals "min" = some none)
    (z_range : PySem.W.nsIn K mainGlobals "range" = some none)
    (z_repr : PySem.W.nsIn K mainGlobals "repr" = some none)
    (z_set : PySem.W.nsIn K mainGlobals "set" = some none)
    (z_sorted : PySem.W.nsIn K mainGlobals "sorted" = some none)
    (z_str : PySem.W.nsIn K mainGlobals "str" = some none)
    (z_tuple : PySem.W.nsIn K mainGlobals "tuple" = some none)
    : ∃ fd : FuncData, (∀ (s : Shared) (u : Value), BindsTo s fd ⟨[u], []⟩ [("_law_script", u)]) ∧ ∀ base : Heap, K.In base → base.Ns mainGlobals mg → FnG P w K mg base 69 fa fd ["_law_script"] (sp_law K) := by
  obtain ⟨T, ed⟩ := all_mk X G l_is_among c_is_among k_is_among n_is_among l_need c_need k_need n_need l_made_by c_made_by k_made_by n_made_by l_tree_by c_tree_by k_tree_by n_tree_by l_text_of c_text_of k_text_of n_text_of l_shown c_shown k_shown n_shown l_read c_read k_read n_read l__law_mixed c__law_mixed k__law_mixed n__law_mixed l__law_number c__law_number k__law_number n__law_number l__law_order c__law_order k__law_order n__law_order l__law_least c__law_least k__law_least n__law_least l__law_told c__law_told k__law_told n__law_told l__law_tree c__law_tree k__law_tree n__law_tree l__law_text c__law_text k__law_text n__law_text l__law_right c__law_right k__law_right n__law_right l_law c_law k_law n_law l_Tree_word c_Tree_word k_Tree_word l_Point_init c_Point_init k_Point_init l_Point_told c_Point_told k_Point_told l_Point_points c_Point_points k_Point_points l_Inner_init c_Inner_init k_Inner_init l_Inner_told c_Inner_told k_Inner_told l_Inner_points c_Inner_points k_Inner_points l_Side_word c_Side_word k_Side_word l_Join_word c_Join_word k_Join_word l_Reader_init c_Reader_init k_Reader_init l_Reader_ahead c_Reader_ahead k_Reader_ahead l_Reader_read_point c_Reader_read_point k_Reader_read_point l_Reader_tree c_Reader_tree k_Reader_tree pg_Point hd_Point po_Point sa_Point n_Point mk_Point in_Point kp_Point if_Point f_Point_number m_Point_told mf_Point_told m_Point_points mf_Point_points m_Point_word mf_Point_word pg_Side hd_Side po_Side sa_Side n_Side mk_Side in_Side kp_Side if_Side f_Side_parts m_Side_word mf_Side_word m_Side_told mf_Side_told m_Side_points mf_Side_points pg_Join hd_Join po_Join sa_Join n_Join mk_Join in_Join kp_Join if_Join f_Join_parts m_Join_word mf_Join_word m_Join_told mf_Join_told m_Join_points mf_Join_points pg_Reader hd_Reader po_Reader sa_Reader n_Reader mk_Reader in_Reader kp_Reader if_Reader f_Reader_text f_Reader_spot m_Reader_ahead mf_Reader_ahead m_Reader_read_point mf_Reader_read_point m_Reader_tree mf_Reader_tree spc tkc n_BadTree be_BadTree te_BadTree is_BadTree hx_BadTree sb_BadTree_BadTree x_BadTree kp_BadTree xg_BadTree xk_BadTree xa_BadTree xm_BadTree sb_BadTree_BadText sv_BadTree n_BadText be_BadText te_BadText is_BadText hx_BadText sb_BadText_BadText x_BadText kp_BadText xg_BadText xk_BadText xa_BadText xm_BadText sb_BadText_BadTree sv_BadText n_MOST_POINTS n_SIGNS l_SIGNS kl_SIGNS ks_SIGNS_0 ks_SIGNS_1 n_FIGURES n_LONGEST z_all z_bool z_int z_isinstance z_len z_list z_min z_range z_repr z_set z_sorted z_str z_tuple
  have e := hmg.symm.trans T.g_law
  injection e with e
  injection e with e
  subst e
  exact ⟨T.d_law, fun s v => by rw [ed]; exact .of_eq rfl, fun base _ _ => ok_law T⟩
end
end J

open PySem PySem.W PyProof.Rows in
set_option maxRecDepth 100000 in
set_option maxHeartbeats 0 in
theorem PySem.Challenge.cw_joinside_k06_texts_holds : PySem.Challenge.rw_joinside_k06_texts.Holds := by
  w_on; o_law; k_head; (case hw => w_witness2)
  k_fill
  refine J.walk_ofG (l := PySem.Challenge.rw_joinside_k06_texts) (n := 63) (k := 69) (x := "_law_script") (sp := J.sp_law) rfl (by decide) rfl ⟨rfl, by decide, by decide⟩ (fun w h Y => PySem.W.kIn_of Y) ?F (fun K H a ns hl _ hS => ⟨a, ns, rfl, hS, hl, fun _ => rfl⟩)
  case F =>
    intro w mg fa h KX G hmg
    refine' J.fin KX G hmg ?l_is_among ?c_is_among ?k_is_among ?n_is_among ?l_need ?c_need ?k_need ?n_need ?l_made_by ?c_made_by ?k_made_by ?n_made_by ?l_tree_by ?c_tree_by ?k_tree_by ?n_tree_by ?l_text_of ?c_text_of ?k_text_of ?n_text_of ?l_shown ?c_shown ?k_shown ?n_shown ?l_read ?c_read ?k_read ?n_read ?l__law_mixed ?c__law_mixed ?k__law_mixed ?n__law_mixed ?l__law_number ?c__law_number ?k__law_number ?n__law_number ?l__law_order ?c__law_order ?k__law_order ?n__law_order ?l__law_least ?c__law_least ?k__law_least ?n__law_least ?l__law_told ?c__law_told ?k__law_told ?n__law_told ?l__law_tree ?c__law_tree ?k__law_tree ?n__law_tree ?l__law_text ?c__law_text ?k__law_text ?n__law_text ?l__law_right ?c__law_right ?k__law_right ?n__law_right ?l_law ?c_law ?k_law ?n_law ?l_Tree_word ?c_Tree_word ?k_Tree_word ?l_Point_init ?c_Point_init ?k_Point_init ?l_Point_told ?c_Point_told ?k_Point_told ?l_Point_points ?c_Point_points ?k_Point_points ?l_Inner_init ?c_Inner_init ?k_Inner_init ?l_Inner_told ?c_Inner_told ?k_Inner_told ?l_Inner_points ?c_Inner_points ?k_Inner_points ?l_Side_word ?c_Side_word ?k_Side_word ?l_Join_word ?c_Join_word ?k_Join_word ?l_Reader_init ?c_Reader_init ?k_Reader_init ?l_Reader_ahead ?c_Reader_ahead ?k_Reader_ahead ?l_Reader_read_point ?c_Reader_read_point ?k_Reader_read_point ?l_Reader_tree ?c_Reader_tree ?k_Reader_tree ?pg_Point ?hd_Point ?po_Point ?sa_Point ?n_Point ?mk_Point ?in_Point ?kp_Point ?if_Point ?f_Point_number ?m_Point_told ?mf_Point_told ?m_Point_points ?mf_Point_points ?m_Point_word ?mf_Point_word ?pg_Side ?hd_Side ?po_Side ?sa_Side ?n_Side ?mk_Side ?in_Side ?kp_Side ?if_Side ?f_Side_parts ?m_Side_word ?mf_Side_word ?m_Side_told ?mf_Side_told ?m_Side_points ?mf_Side_points ?pg_Join ?hd_Join ?po_Join ?sa_Join ?n_Join ?mk_Join ?in_Join ?kp_Join ?if_Join ?f_Join_parts ?m_Join_word ?mf_Join_word ?m_Join_told ?mf_Join_told ?m_Join_points ?mf_Join_points ?pg_Reader ?hd_Reader ?po_Reader ?sa_Reader ?n_Reader ?mk_Reader ?in_Reader ?kp_Reader ?if_Reader ?f_Reader_text ?f_Reader_spot ?m_Reader_ahead ?mf_Reader_ahead ?m_Reader_read_point ?mf_Reader_read_point ?m_Reader_tree ?mf_Reader_tree ?spc ?tkc ?n_BadTree ?be_BadTree ?te_BadTree ?is_BadTree ?hx_BadTree ?sb_BadTree_BadTree ?x_BadTree ?kp_BadTree ?xg_BadTree ?xk_BadTree ?xa_BadTree ?xm_BadTree ?sb_BadTree_BadText ?sv_BadTree ?n_BadText ?be_BadText ?te_BadText ?is_BadText ?hx_BadText ?sb_BadText_BadText ?x_BadText ?kp_BadText ?xg_BadText ?xk_BadText ?xa_BadText ?xm_BadText ?sb_BadText_BadTree ?sv_BadText ?n_MOST_POINTS ?n_SIGNS ?l_SIGNS ?kl_SIGNS ?ks_SIGNS_0 ?ks_SIGNS_1 ?n_FIGURES ?n_LONGEST ?z_all ?z_bool ?z_int ?z_isinstance ?z_len ?z_list ?z_min ?z_range ?z_repr ?z_set ?z_sorted ?z_str ?z_tuple
    (case n_is_among => k_is)
    (case n_need => k_is)
    (case n_made_by => k_is)
    (case n_tree_by => k_is)
    (case n_text_of => k_is)
    (case n_shown => k_is)
    (case n_read => k_is)
    (case n__law_mixed => k_is)
    (case n__law_number => k_is)
    (case n__law_order => k_is)
    (case n__law_least => k_is)
    (case n__law_told => k_is)
    (case n__law_tree => k_is)
    (case n__law_text => k_is)
    (case n__law_right => k_is)
    (case n_law => k_is)
    (case n_Point => k_is)
    (case n_Side => k_is)
    (case n_Join => k_is)
    (case n_Reader => k_is)
    (case n_BadTree => k_is)
    (case n_BadText => k_is)
    (case n_MOST_POINTS => k_is)
    (case n_SIGNS => k_is)
    (case n_FIGURES => k_is)
    (case n_LONGEST => k_is)
    (case in_Point => k_is)
    (case m_Point_told => k_is)
    (case m_Point_points => k_is)
    (case m_Point_word => k_is)
    (case in_Side => k_is)
    (case m_Side_word => k_is)
    (case m_Side_told => k_is)
    (case m_Side_points => k_is)
    (case in_Join => k_is)
    (case m_Join_word => k_is)
    (case m_Join_told => k_is)
    (case m_Join_points => k_is)
    (case in_Reader => k_is)
    (case m_Reader_ahead => k_is)
    (case m_Reader_read_point => k_is)
    (case m_Reader_tree => k_is)
    (case l_is_among => k_is)
    (case l_need => k_is)
    (case l_made_by => k_is)
    (case l_tree_by => k_is)
    (case l_text_of => k_is)
    (case l_shown => k_is)
    (case l_read => k_is)
    (case l__law_mixed => k_is)
    (case l__law_number => k_is)
    (case l__law_order => k_is)
    (case l__law_least => k_is)
    (case l__law_told => k_is)
    (case l__law_tree => k_is)
    (case l__law_text => k_is)
    (case l__law_right => k_is)
    (case l_law => k_is)
    (case l_Tree_word => k_is)
    (case l_Point_init => k_is)
    (case l_Point_told => k_is)
    (case l_Point_points => k_is)
    (case l_Inner_init => k_is)
    (case l_Inner_told => k_is)
    (case l_Inner_points => k_is)
    (case l_Side_word => k_is)
    (case l_Join_word => k_is)
    (case l_Reader_init => k_is)
    (case l_Reader_ahead => k_is)
    (case l_Reader_read_point => k_is)
    (case l_Reader_tree => k_is)
    (case l_SIGNS => k_is)
    (case c_is_among => k_is)
    (case k_is_among => k_is)
    (case c_need => k_is)
    (case k_need => k_is)
    (case c_made_by => k_is)
    (case k_made_by => k_is)
    (case c_tree_by => k_is)
    (case k_tree_by => k_is)
    (case c_text_of => k_is)
    (case k_text_of => k_is)
    (case c_shown => k_is)
    (case k_shown => k_is)
    (case c_read => k_is)
    (case k_read => k_is)
    (case c__law_mixed => k_is)
    (case k__law_mixed => k_is)
    (case c__law_number => k_is)
    (case k__law_number => k_is)
    (case c__law_order => k_is)
    (case k__law_order => k_is)
    (case c__law_least => k_is)
    (case k__law_least => k_is)
    (case c__law_told => k_is)
    (case k__law_told => k_is)
    (case c__law_tree => k_is)
    (case k__law_tree => k_is)
    (case c__law_text => k_is)
    (case k__law_text => k_is)
    (case c__law_right => k_is)
    (case k__law_right => k_is)
    (case c_law => k_is)
    (case k_law => k_is)
    (case c_Tree_word => k_is)
    (case k_Tree_word => k_is)
    (case c_Point_init => k_is)
    (case k_Point_init => k_is)
    (case c_Point_told => k_is)
    (case k_Point_told => k_is)
    (case c_Point_points => k_is)
    (case k_Point_points => k_is)
    (case c_Inner_init => k_is)
    (case k_Inner_init => k_is)
    (case c_Inner_told => k_is)
    (case k_Inner_told => k_is)
    (case c_Inner_points => k_is)
    (case k_Inner_points => k_is)
    (case c_Side_word => k_is)
    (case k_Side_word => k_is)
    (case c_Join_word => k_is)
    (case k_Join_word => k_is)
    (case c_Reader_init => k_is)
    (case k_Reader_init => k_is)
    (case c_Reader_ahead => k_is)
    (case k_Reader_ahead => k_is)
    (case c_Reader_read_point => k_is)
    (case k_Reader_read_point => k_is)
    (case c_Reader_tree => k_is)
    (case k_Reader_tree => k_is)
    (case pg_Point => k_is)
    (case hd_Point => k_is)
    (case po_Point => k_is)
    (case sa_Point => k_is)
    (case mk_Point => k_is)
    (case kp_Point => k_is)
    (case if_Point => k_is)
    (case f_Point_number => k_is)
    (case mf_Point_told => k_is)
    (case mf_Point_points => k_is)
    (case mf_Point_word => k_is)
    (case pg_Side => k_is)
    (case hd_Side => k_is)
    (case po_Side => k_is)
    (case sa_Side => k_is)
    (case mk_Side => k_is)
    (case kp_Side => k_is)
    (case if_Side => k_is)
    (case f_Side_parts => k_is)
    (case mf_Side_word => k_is)
    (case mf_Side_told => k_is)
    (case mf_Side_points => k_is)
    (case pg_Join => k_is)
    (case hd_Join => k_is)
    (case po_Join => k_is)
    (case sa_Join => k_is)
    (case mk_Join => k_is)
    (case kp_Join => k_is)
    (case if_Join => k_is)
    (case f_Join_parts => k_is)
    (case mf_Join_word => k_is)
    (case mf_Join_told => k_is)
    (case mf_Join_points => k_is)
    (case pg_Reader => k_is)
    (case hd_Reader => k_is)
    (case po_Reader => k_is)
    (case sa_Reader => k_is)
    (case mk_Reader => k_is)
    (case kp_Reader => k_is)
    (case if_Reader => k_is)
    (case f_Reader_text => k_is)
    (case f_Reader_spot => k_is)
    (case mf_Reader_ahead => k_is)
    (case mf_Reader_read_point => k_is)
    (case mf_Reader_tree => k_is)
    (case spc => k_is)
    (case tkc => k_is)
    (case be_BadTree => k_is)
    (case te_BadTree => k_is)
    (case is_BadTree => k_is)
    (case hx_BadTree => k_is)
    (case sb_BadTree_BadTree => k_is)
    (case x_BadTree => k_exc)
    (case kp_BadTree => k_is)
    (case xg_BadTree => k_is)
    (case xk_BadTree => k_is)
    (case xa_BadTree => k_is)
    (case xm_BadTree => k_is)
    (case sb_BadTree_BadText => k_is)
    (case sv_BadTree => k_is)
    (case be_BadText => k_is)
    (case te_BadText => k_is)
    (case is_BadText => k_is)
    (case hx_BadText => k_is)
    (case sb_BadText_BadText => k_is)
    (case x_BadText => k_exc)
    (case kp_BadText => k_is)
    (case xg_BadText => k_is)
    (case xk_BadText => k_is)
    (case xa_BadText => k_is)
    (case xm_BadText => k_is)
    (case sb_BadText_BadTree => k_is)
    (case sv_BadText => k_is)
    (case kl_SIGNS => exact ⟨⟨_, _, rfl, rfl⟩, ⟨_, _, rfl, rfl⟩, trivial⟩)
    (case ks_SIGNS_0 => k_is)
    (case ks_SIGNS_1 => k_is)
    (case z_all => k_is)
    (case z_bool => k_is)
    (case z_int => k_is)
    (case z_isinstance => k_is)
    (case z_len => k_is)
    (case z_list => k_is)
    (case z_min => k_is)
    (case z_range => k_is)
    (case z_repr => k_is)
    (case z_set => k_is)
    (case z_sorted => k_is)
    (case z_str => k_is)
    (case z_tuple => k_is)
#print axioms PySem.Challenge.cw_joinside_k06_texts_holds
